import PyProof.Rows.All
import Wide.All
import OpenK.AllK
import Wide.FinOn
import HandS.ForMost
import HandS.TupAny
import HandS.Deep
import HandS.DictComp
import HandS.Conv
import HandS.More
import HandS.Flow
import HandS.SortInts
import HandS.TupSets
import HandS.HeadEnd
import HandS.HeadHook2
import HandS.HeadHook1
import HandS.Head0
import HandS.Head1
import HandS.Head2
import HandS.IsInst
import HandS.Defaults
import HandS.RaiseMore
import HandS.GenCall
import HandS.GenList
import HandS.GenYield
import HandS.GenBody
import PyProof.DictValues
import HandS.Rev
import PySem.Challenge.RW_leasttiles_k03_runs_of_functions
set_option Elab.async false
set_option linter.all false
/-! A small machine over plain values: what the walk of a def computes. -/
namespace MP
open PySem

/-- plain values: tuples are data, lists, dicts and instances stand at places -/
inductive PV where
  | non | bl (b : Bool) | int (i : Int) | str (s : Str) | tup (xs : List PV) | ref (l : Nat)
  | fro (xs : List PV)
  deriving Inhabited

/-- what stands at a place -/
inductive PO where
  | lst (xs : List PV)
  | dic (kvs : List (PV × PV))
  | lck (kvs : List (PV × PV))
  | ins (c : Str) (fs : List (Str × PV))
  deriving Inhabited

abbrev PH := List PO
abbrev PSt := List (Option PV)

/-- an exception: its class, its fields -/
structure PX where
  cls : Str
  fs : List (Str × PV)

inductive Out (α : Type) where
  | ok (v : α) (h : PH)
  | exc (e : PX) (h : PH)
  | bad

def Out.bnd {α β : Type} (o : Out α) (f : α → PH → Out β) : Out β :=
  match o with
  | .ok v h => f v h
  | .exc e h => .exc e h
  | .bad => .bad

inductive SO where
  | nx (s : PSt) (h : PH) | rt (v : PV) (h : PH) | bk (s : PSt) (h : PH) | ct (s : PSt) (h : PH) | exc (e : PX) (h : PH) | bad

def Out.sbnd {α : Type} (o : Out α) (f : α → PH → SO) : SO :=
  match o with
  | .ok v h => f v h
  | .exc e h => .exc e h
  | .bad => .bad

/-! ### the text -/
inductive Bi where
  | len | abs | int | bool | max | min | list | tuple | sorted | sum | any | all | dict | isList | isInt | isStr | isTuple | isBool
  deriving DecidableEq
inductive Mt where
  | append | extend | pop | get | values | items | keys | index | insert | setdefault
  deriving DecidableEq
mutual
inductive E where
  | non | bl (b : Bool) | int (i : Int) | str (s : Str)
  | var (i : Nat)
  | cst (x : Str) (v : PV)
  | bin (op : Operator) (a b : E)
  | neg (a : E)
  | cmp (op : CmpOp) (a b : E)
  | cmp2 (op op' : CmpOp) (a b c : E)
  | and (a b : E) | or (a b : E) | not (a : E)
  | ite (c : T) (a b : E)
  | tup (es : Es) | lst (es : Es) | dic (ks : Ks)
  | sub (a i : E)
  | slc (a : E) (lo hi : Pt)
  | call (f : Str) (es : Es)
  | bi (f : Bi) (es : Es)
  | mt (m : Mt) (o : E) (es : Es)
  | fld (c : Str) (o : E) (f : Str)
  | mk (c key : Str) (es : Es)
  | um (c key m : Str) (o : E) (es : Es)
  | kcall (f : Str) (es ks : Es)
  | lgen (f : Str) (es ks : Es)
  | rpr (e : E)
  | lc (elt : E) (tg : Tg) (it : It) (ifs : Ts) (own : List Nat)
  | dc (k v : E) (tg : Tg) (it : It) (ifs : Ts) (own : List Nat)
  | isi (f : Bi) (e : E)
  | lock (i : Nat) (e : E)
  | inv (neg : Bool) (a d : E)
  | lrg (tup : Bool) (es : Es)
inductive Es where
  | nil | cons (e : E) (r : Es)
/-- a display's pairs -/
inductive Ks where
  | nil | cons (k v : E) (r : Ks)
/-- tests -/
inductive T where
  | e (e : E) | and (a b : T) | or (a b : T) | not (a : T) | ite (c a b : T)
  | cmp (op : CmpOp) (a b : E) | cmp2 (op op' : CmpOp) (a b c : E) | inv (neg : Bool) (a d : E)
/-- a part of a slice -/
inductive Pt where
  | none | some (e : E)
inductive Ts where
  | nil | cons (t : T) (r : Ts)
/-- what is walked -/
inductive It where
  | ex (e : E) | rng (es : Es) | enu (e : E) | rev (e : E) | keys (e : E) | vals (e : E) | items (e : E)
/-- targets -/
inductive Tg where
  | nm (i : Nat) | tup (is : List Nat) | sub (o i : E) | fld (o : E) (f : Str)
end

mutual
inductive S where
  | pass | brk | cont | retN
  | ret (e : E) | ex (e : E)
  | asg (t : Tg) (e : E)
  | par (i j : Nat) (a b : E)
  | aug (i : Nat) (op : Operator) (e : E)
  | augF (c : Str) (o : E) (f : Str) (op : Operator) (e : E)
  | sfld (c : Str) (o : E) (f : Str) (e : E)
  | augS (o i : E) (op : Operator) (e : E)
  | ite (c : T) (a b : Ss)
  | whl (c : T) (b : Ss)
  | frr (t : Tg) (it : It) (b : Ss)
  | never
  | lk (e : E) (s : S)
inductive Ss where
  | nil | cons (s : S) (r : Ss)
end

/-! a generator's body -/
mutual
inductive Y where
  | pl (s : S) | yld (e : E) | whl (c : T) (b : Ys)
inductive Ys where
  | nil | cons (y : Y) (r : Ys)
end

/-! ### operators by values -/
open Out

def truth (x : PV) (h : PH) : Out Bool :=
  match x with
  | .fro _ => bad
  | .non => ok false h
  | .bl b => ok b h
  | .int i => ok (i != 0) h
  | .str s => if s.length ≤ sizeLine then ok (s.length != 0) h else bad
  | .tup xs => ok (!xs.isEmpty) h
  | .ref l => match h[l]? with
    | some (.lst xs) => ok (!xs.isEmpty) h
    | some (.dic kvs) => ok (!kvs.isEmpty) h
    | _ => bad

/-- a new object -/
def new (o : PO) (h : PH) : Out PV := ok (.ref h.length) (h ++ [o])

def binF (op : Operator) (x y : PV) (h : PH) : Out PV :=
  match op, x, y with
  | .Add, .int i, .int j => ok (.int (i + j)) h
  | .Add, .str a, .str b => if a.length + b.length ≤ sizeLine then ok (.str (a ++ b)) h else bad
  | .Add, .tup a, .tup b => if a.length + b.length ≤ sizeLine then ok (.tup (a ++ b)) h else bad
  | .Add, .ref a, .ref b => match h[a]?, h[b]? with
    | some (.lst xs), some (.lst ys) => if xs.length + ys.length ≤ sizeLine then new (.lst (xs ++ ys)) h else bad
    | _, _ => bad
  | .Sub, .int i, .int j => ok (.int (i - j)) h
  | .Mult, .int i, .int j => if i.natAbs < 2 ^ 64 ∨ j.natAbs < 2 ^ 64 then ok (.int (i * j)) h else bad
  | .Mult, .ref a, .int j => match h[a]? with
    | some (.lst xs) => if -(2 ^ 63) ≤ j ∧ j < 2 ^ 63 ∧ xs.length * j.toNat ≤ sizeLine then new (.lst (List.flatten (List.replicate j.toNat xs))) h else bad
    | _ => bad
  | .FloorDiv, .int i, .int j => if 0 < j ∧ j < 1073741824 then ok (.int (i / j)) h else bad
  | .Mod, .int i, .int j => if 0 < j then ok (.int (i % j)) h else bad
  | .LShift, .int i, .int j => if 0 ≤ j ∧ j ≤ 1000000 ∧ i.natAbs < 2 ^ 64 then ok (.int (i * 2 ^ j.toNat)) h else bad
  | .RShift, .int i, .int j => if 0 ≤ j then ok (.int (i / 2 ^ j.toNat)) h else bad
  | .Pow, .int i, .int j => if 0 ≤ j ∧ j ≤ 1000000 ∧ i.natAbs < 2 ^ 64 then ok (.int (i ^ j.toNat)) h else bad
  | .BitAnd, .int i, .int j => ok (.int (Builtin.bitAnd i j)) h
  | .BitOr, .int i, .int j => ok (.int (Builtin.bitOr i j)) h
  | .BitXor, .int i, .int j => ok (.int (Builtin.bitXor i j)) h
  | _, _, _ => bad

/-! data, for == -/
def dataL (f : PV → Option PyData) : List PV → Option (List PyData)
  | [] => some []
  | x :: r => match f x, dataL f r with
    | some d, some ds => some (d :: ds)
    | _, _ => none
def datum (h : PH) : Nat → PV → Option PyData
  | 0, _ => none
  | _ + 1, .non => some .none
  | _ + 1, .bl b => some (.bool b)
  | _ + 1, .int i => some (.int i)
  | _ + 1, .str s => some (.str s)
  | n + 1, .tup xs => (dataL (datum h n) xs).map PyData.tuple
  | _ + 1, .fro _ => none
  | n + 1, .ref l => match h[l]? with
    | some (.lst xs) => (dataL (datum h n) xs).map PyData.list
    | _ => none

def eqB (x y : PV) (h : PH) : Out Bool :=
  match x, y with
  | .non, .non => ok true h
  | .bl a, .bl b => ok (decide (a = b)) h
  | .int a, .int b => ok (decide (a = b)) h
  | .str a, .str b => ok (decide (a = b)) h
  | x, y => match datum h 64 x, datum h 64 y with
    | some d, some e => if SeqAt.shaped d = true ∧ SeqAt.shaped e = true then ok (PyData.eqv d e) h else bad
    | _, _ => bad

/-! dicts -/
def isKey : PV → Bool
  | .int _ => true
  | .str _ => true
  | _ => false
/-- the key's word, where it is an int or a text -/
def keyOf : PV → Option L2.Key
  | .int i => some (.inl i)
  | .str s => some (.inr s)
  | _ => none
def keyEq (x y : PV) : Bool :=
  match x, y with
  | .int a, .int b => decide (a = b)
  | .str a, .str b => decide (a = b)
  | _, _ => false
def dGet (kvs : List (PV × PV)) (k : PV) : Option PV :=
  match kvs with
  | [] => none
  | (a, v) :: r => if keyEq a k then some v else dGet r k
def dPut (kvs : List (PV × PV)) (k v : PV) : List (PV × PV) :=
  if (kvs.any fun p => keyEq p.1 k) = true then kvs.map (fun p => if keyEq p.1 k = true then (p.1, v) else p) else kvs ++ [(k, v)]
def dDrop (kvs : List (PV × PV)) (k : PV) : List (PV × PV) := kvs.filter fun p => !keyEq p.1 k
/-- the dict at a place, read -/
def dAt (h : PH) (l : Nat) : Option (List (PV × PV)) :=
  match h[l]? with
  | some (.dic kvs) => some kvs
  | some (.lck kvs) => some kvs
  | _ => none

def flatP : PV → Bool
  | .non => true
  | .bl _ => true
  | .int _ => true
  | .str _ => true
  | _ => false
def flatEq : PV → PV → Bool
  | .non, .non => true
  | .bl a, .bl b => a == b
  | .bl a, .int b => (if a then 1 else 0) == b
  | .int a, .bl b => a == (if b then 1 else 0)
  | .int a, .int b => decide (a = b)
  | .str a, .str b => decide (a = b)
  | _, _ => false
/-- in a list or tuple of any data -/
def inDeep (x : PV) (ys : List PV) (h : PH) : Out Bool :=
  match datum h 63 x, dataL (datum h 62) ys with
  | some d, some ds => if SeqAt.shaped d = true ∧ SeqAt.shaped (.list ds) = true then ok (ds.any fun z => PyData.eqv z d) h else bad
  | _, _ => bad
def inB (x y : PV) (h : PH) : Out Bool :=
  match y with
  | .str b => match x with
    | .str a => if a.length = 1 then ok (decide (a.cps.toList.head? ∈ b.cps.toList.map some)) h else bad
    | _ => bad
  | .tup ys => inL x ys h
  | .ref l => match h[l]? with
    | some (.lst ys) => if flatP x = true ∧ ys.all flatP = true then ok (ys.any fun y => flatEq y x) h else inDeep x ys h
    | some (.dic kvs) => if isKey x then ok (dGet kvs x).isSome h else bad
    | some (.lck kvs) => if isKey x then ok (dGet kvs x).isSome h else bad
    | _ => bad
  | _ => bad
where inL (x : PV) (ys : List PV) (h : PH) : Out Bool :=
  if flatP x = true ∧ ys.all flatP = true then ok (ys.any fun y => flatEq y x) h else bad

def cmpF (op : CmpOp) (x y : PV) (h : PH) : Out PV :=
  match op with
  | .Eq => (eqB x y h).bnd fun b h => ok (.bl b) h
  | .NotEq => (eqB x y h).bnd fun b h => ok (.bl (!b)) h
  | .In => (inB x y h).bnd fun b h => ok (.bl b) h
  | .NotIn => (inB x y h).bnd fun b h => ok (.bl (!b)) h
  | .Is => match y with
    | .non => match x with
      | .non => ok (.bl true) h
      | _ => ok (.bl false) h
    | _ => bad
  | .IsNot => match y with
    | .non => match x with
      | .non => ok (.bl false) h
      | _ => ok (.bl true) h
    | _ => bad
  | .Lt => match x, y with
    | .int i, .int j => ok (.bl (decide (i < j))) h
    | _, _ => bad
  | .LtE => match x, y with
    | .int i, .int j => ok (.bl (decide (i ≤ j))) h
    | _, _ => bad
  | .Gt => match x, y with
    | .int i, .int j => ok (.bl (decide (j < i))) h
    | _, _ => bad
  | .GtE => match x, y with
    | .int i, .int j => ok (.bl (decide (j ≤ i))) h
    | _, _ => bad

/-! places of sequences -/
/-- the place that an index names -/
abbrev pix (n : Nat) (i : Int) : Option Nat := L2.ixN n i
def itemF (xs : List PV) (y : PV) (h : PH) : Out PV :=
  match y with
  | .int i => (match (pix xs.length i).bind fun j => xs[j]? with
    | some v => ok v h
    | none => bad)
  | _ => bad
def lookF (kvs : List (PV × PV)) (k : PV) (h : PH) : Out PV :=
  if isKey k = true then (match dGet kvs k with
    | some v => ok v h
    | none => bad) else bad
def subF (x y : PV) (h : PH) : Out PV :=
  match x with
  | .tup xs => itemF xs y h
  | .str s => (match y with
    | .int i => if s.length ≤ sizeLine then (match (pix s.length i).bind fun j => s.cps.toList[j]? with
      | some c => ok (.str ⟨#[c]⟩) h
      | none => bad) else bad
    | _ => bad)
  | .ref l => match h[l]? with
    | some (.lst xs) => itemF xs y h
    | some (.dic kvs) => lookF kvs y h
    | some (.lck kvs) => lookF kvs y h
    | _ => bad
  | _ => bad
def cut {α : Type} (xs : List α) (lo hi : Nat) : List α := (xs.drop lo).take (hi - lo)
def cutP (xs : List PV) (lo hi : Option Int) : List PV := cut xs (HT.sIx xs.length 0 lo) (HT.sIx xs.length xs.length hi)
def slcF (x : PV) (a b : Option Int) (h : PH) : Out PV :=
  match x with
  | .tup xs => ok (.tup (cutP xs a b)) h
  | .ref l => (match h[l]? with
    | some (.lst xs) => new (.lst (cutP xs a b)) h
    | _ => bad)
  | _ => bad
/-- o[i] = v -/
def setF (o i v : PV) (h : PH) : Out Unit :=
  match o with
  | .ref l => match h[l]? with
    | some (.lst xs) => (match i with
      | .int k => (match pix xs.length k with
        | some j => ok () (h.set l (.lst (xs.set j v)))
        | none => bad)
      | _ => bad)
    | some (.dic kvs) => if isKey i ∧ kvs.length < sizeLine then ok () (h.set l (.dic (dPut kvs i v))) else bad
    | _ => bad
  | _ => bad

/-! fields of instances -/
def fPut (f : Str) (v : PV) : List (Str × PV) → List (Str × PV)
  | [] => [(f, v)]
  | (g, x) :: r => if g = f then (g, v) :: r else (g, x) :: fPut f v r
/-- the fields of an instance of the class c -/
def fldsAt (c : Str) (x : PV) (h : PH) : Option (Nat × List (Str × PV)) :=
  match x with
  | .ref l => match h[l]? with
    | some (.ins c' fs) => if c' = c then some (l, fs) else none
    | _ => none
  | _ => none
def fldF (c f : Str) (x : PV) (h : PH) : Out PV :=
  match fldsAt c x h with
  | some (_, fs) => (match fs.lookup f with
    | some v => ok v h
    | none => bad)
  | none => bad
def fldS (c f : Str) (x v : PV) (h : PH) : Out Unit :=
  match fldsAt c x h with
  | some (l, fs) => if fs.length < 1000 then ok () (h.set l (.ins c (fPut f v fs))) else bad
  | none => bad
/-- what C(..) hands back -/
def mkR (l : Nat) (v : PV) (h : PH) : Out PV :=
  match v with
  | .non => ok (.ref l) h
  | _ => bad
/-- repr of a list or tuple of data -/
def reprF (x : PV) (h : PH) : Out PV :=
  match datum h 60 x with
  | some (.tuple ds) => if (PyData.tuple ds).showable = true ∧ (PyData.tuple ds).hasDict = false ∧ (PyData.tuple ds).depth ≤ 62 ∧ (PyData.tuple ds).shown.length ≤ sizeLine then ok (.str (PyData.tuple ds).shown) h else bad
  | _ => bad

def reprA (xs : List PV) (h : PH) : Out PV :=
  match xs with
  | [x] => reprF x h
  | _ => bad
/-- list(g(..)): what was handed out -/
def lgenR (v : PV) (h : PH) : Out PV :=
  match v with
  | .tup vs => new (.lst vs) h
  | _ => bad

/-! built-in functions -/
def intsOf : List PV → Option (List Int)
  | [] => some []
  | .int i :: r => (intsOf r).map fun l => i :: l
  | _ :: _ => none
def boolsOf : List PV → Option (List Bool)
  | [] => some []
  | .bl i :: r => (boolsOf r).map fun l => i :: l
  | _ :: _ => none
def insI (x : Int) : List Int → List Int
  | [] => [x]
  | y :: r => if x ≤ y then x :: y :: r else y :: insI x r
def sortI : List Int → List Int
  | [] => []
  | x :: r => insI x (sortI r)
def minI : List Int → Int → Int
  | [], m => m
  | x :: r, m => minI r (if x < m then x else m)
def maxI : List Int → Int → Int
  | [], m => m
  | x :: r, m => maxI r (if m < x then x else m)
def seqAt (h : PH) (x : PV) : Option (List PV) :=
  match x with
  | .tup xs => some xs
  | .ref l => match h[l]? with
    | some (.lst xs) => some xs
    | _ => none
  | _ => none
def lstAt (h : PH) (x : PV) : Option (List PV) :=
  match x with
  | .ref l => match h[l]? with
    | some (.lst xs) => some xs
    | _ => none
  | _ => none
/-- a dict's keys -/
def dicAt (h : PH) (x : PV) : Option (List PV) :=
  match x with
  | .ref l => match h[l]? with
    | some (.dic kvs) => some (kvs.map (·.1))
    | _ => none
  | _ => none
def rngI (lo : Int) (n : Nat) : List PV := (List.range n).map fun i => .int (lo + (i : Nat))
def small (i : Int) : Bool := decide (-(2 ^ 62) ≤ i ∧ i < 2 ^ 62)


def biF (f : Bi) (xs : List PV) (h : PH) : Out PV :=
  match f with
  | .len => match xs with
    | [.str s] => if s.length ≤ sizeLine then ok (.int s.length) h else bad
    | [.tup ys] => ok (.int ys.length) h
    | [.ref l] => match h[l]? with
      | some (.lst ys) => ok (.int ys.length) h
      | some (.dic kvs) => ok (.int kvs.length) h
      | _ => bad
    | _ => bad
  | .abs => match xs with
    | [.int i] => ok (.int (if i < 0 then -i else i)) h
    | _ => bad
  | .int => match xs with
    | [.int i] => ok (.int i) h
    | [.bl b] => ok (.int (if b then 1 else 0)) h
    | _ => bad
  | .bool => match xs with
    | [.int i] => ok (.bl (i != 0)) h
    | [.bl b] => ok (.bl b) h
    | _ => bad
  | .max => match xs with
    | [.int i, .int j] => ok (.int (if j > i then j else i)) h
    | [x] => match (lstAt h x).bind intsOf with
      | some (a :: r) => ok (.int (maxI r a)) h
      | _ => bad
    | _ => bad
  | .min => match xs with
    | [.int i, .int j] => ok (.int (if j < i then j else i)) h
    | [.ref l] => match h[l]? with
      | some (.lst ys) => (match intsOf ys with
        | some (a :: r) => ok (.int (minI r a)) h
        | _ => bad)
      | some (.dic kvs) => (match intsOf (kvs.map (·.1)) with
        | some (a :: r) => ok (.int (minI r a)) h
        | _ => bad)
      | _ => bad
    | _ => bad
  | .list => match xs with
    | [.tup ys] => new (.lst ys) h
    | [.ref l] => match h[l]? with
      | some (.lst ys) => new (.lst ys) h
      | some (.dic kvs) => new (.lst (kvs.map (·.1))) h
      | _ => bad
    | _ => bad
  | .tuple => match xs with
    | [.tup ys] => ok (.tup ys) h
    | [.ref l] => match h[l]? with
      | some (.lst ys) => ok (.tup ys) h
      | _ => bad
    | _ => bad
  | .sorted => match xs with
    | [x] => match (lstAt h x).bind intsOf with
      | some ns => new (.lst ((sortI ns).map PV.int)) h
      | _ => match (dicAt h x).bind intsOf with
        | some ns => if ns.length < 64 then new (.lst ((sortI ns).map PV.int)) h else bad
        | none => bad
    | _ => bad
  | .sum => match xs with
    | [x] => match (lstAt h x).bind intsOf with
      | some ns => ok (.int ns.sum) h
      | _ => bad
    | _ => bad
  | .any => match xs with
    | [x] => match (lstAt h x).bind boolsOf with
      | some bs => ok (.bl (bs.any id)) h
      | _ => bad
    | _ => bad
  | .all => match xs with
    | [x] => match (lstAt h x).bind boolsOf with
      | some bs => ok (.bl (bs.all id)) h
      | _ => bad
    | _ => bad
  | .dict => match xs with
    | [.ref l] => match dAt h l with
      | some kvs => new (.dic kvs) h
      | _ => bad
    | _ => bad
  | _ => bad

/-! methods of lists, dicts, texts -/
/-- what kind of thing a method is asked of -/
def kind (x : PV) (h : PH) : Nat :=
  match x with
  | .ref l => match h[l]? with
    | some (.lst _) => 1
    | some (.dic _) => 2
    | some (.lck _) => 2
    | _ => 0
  | .str _ => 3
  | _ => 0
def lstM (m : Mt) (l : Nat) (ys xs : List PV) (h : PH) : Out PV :=
  match m with
  | .append => (match xs with
    | [x] => if ys.length < sizeLine then ok .non (h.set l (.lst (ys ++ [x]))) else bad
    | _ => bad)
  | .extend => (match xs with
    | [.ref k] => (match h[k]? with
      | some (.lst zs) => if ys.length + zs.length ≤ sizeLine then ok .non (h.set l (.lst (ys ++ zs))) else bad
      | _ => bad)
    | _ => bad)
  | .pop => (match xs with
    | [] => (match ys[ys.length - 1]? with
      | some y => ok y (h.set l (.lst ys.dropLast))
      | none => bad)
    | [.int i] => if small i then (match seqIndex? i ys.length with
      | some j => (match ys[j]? with
        | some y => ok y (h.set l (.lst (ys.eraseIdx j)))
        | none => bad)
      | none => bad) else bad
    | _ => bad)
  | .insert => (match xs with
    | [.int i, y] => if ys.length < sizeLine ∧ 0 ≤ i ∧ small i then ok .non (h.set l (.lst (ys.take i.toNat ++ [y] ++ ys.drop i.toNat))) else bad
    | _ => bad)
  | _ => bad
def dicR (m : Mt) (kvs : List (PV × PV)) (xs : List PV) (h : PH) : Out PV :=
  match m with
  | .get => (match xs with
    | [k] => if isKey k then ok ((dGet kvs k).getD .non) h else bad
    | [k, d] => if isKey k then ok ((dGet kvs k).getD d) h else bad
    | _ => bad)
  | _ => bad
def dicM (m : Mt) (l : Nat) (kvs : List (PV × PV)) (xs : List PV) (h : PH) : Out PV :=
  match m with
  | .pop => (match xs with
    | [k] => if isKey k then (match dGet kvs k with
      | some v => ok v (h.set l (.dic (dDrop kvs k)))
      | none => bad) else bad
    | _ => bad)
  | m => dicR m kvs xs h
def mtF (m : Mt) (o : PV) (xs : List PV) (h : PH) : Out PV :=
  match o with
  | .ref l => match h[l]? with
    | some (.lst ys) => lstM m l ys xs h
    | some (.dic kvs) => dicM m l kvs xs h
    | some (.lck kvs) => dicR m kvs xs h
    | _ => bad
  | _ => bad
/-- the names of the types -/
def Bi.ty : Bi → Option String
  | .int => some "int" | .bool => some "bool" | .list => some "list" | .tuple => some "tuple" | .dict => some "dict" | .isStr => some "str" | _ => none
def tyP (x : PV) (h : PH) : Option String :=
  match x with
  | .non => some "NoneType"
  | .bl _ => some "bool"
  | .int _ => some "int"
  | .str _ => some "str"
  | .tup _ => some "tuple"
  | .fro _ => some "list"
  | .ref l => match h[l]? with
    | some (.lst _) => some "list"
    | some (.dic _) => some "dict"
    | some (.lck _) => some "dict"
    | _ => none
/-- list(range(..)), tuple(range(..)) -/
def lrgF (tup : Bool) (xs : List PV) (h : PH) : Out PV :=
  match xs with
  | [.int n] => if small n = true ∧ n.toNat ≤ 2 ^ 24 then (if tup = true then ok (.tup (rngI 0 n.toNat)) h else new (.lst (rngI 0 n.toNat)) h) else bad
  | [.int a, .int b] => if small a = true ∧ small b = true ∧ (b - a).toNat ≤ 2 ^ 24 then (if tup = true then ok (.tup (rngI a (b - a).toNat)) h else new (.lst (rngI a (b - a).toNat)) h) else bad
  | _ => bad
def isiF (f : Bi) (x : PV) (h : PH) : Out PV :=
  match tyP x h, f.ty with
  | some a, some b => (match L2.kitB a b with
    | some r => ok (.bl r) h
    | none => bad)
  | _, _ => bad
/-- x in d.values(), d locked -/
def invF (neg : Bool) (x d : PV) (h : PH) : Out PV :=
  match x, d with
  | .int i, .ref l => (match h[l]? with
    | some (.lck kvs) => (match intsOf (kvs.map (·.2)) with
      | some ns => ok (.bl (neg != decide (i ∈ ns))) h
      | none => bad)
    | _ => bad)
  | _, _ => bad
end MP

set_option Elab.async false
set_option linter.all false
namespace MP
open PySem
open Out

/-- what an iterable has come to -/
inductive Itr where
  | vals (xs : List PV) | lst (l : Nat)

/-- the pairs of a display, the later ones win -/
def dAll (ps : List (PV × PV)) : List (PV × PV) := ps.foldl (fun a p => dPut a p.1 p.2) []
def asB (x : PV) (h : PH) : Out Bool :=
  match x with
  | .bl b => ok b h
  | _ => bad
def slot (s : PSt) (i : Nat) (h : PH) : Out PV :=
  match s[i]? with
  | some (some v) => ok v h
  | _ => bad
def wipeP (s : PSt) : List Nat → PSt
  | [] => s
  | v :: vs => (wipeP s vs).set v none
/-- the names of a tuple's target, from the left -/
def setAll (s : PSt) : List Nat → List PV → Option PSt
  | [], [] => some s
  | i :: is, v :: vs => setAll (s.set i (some v)) is vs
  | _, _ => none

/-- the i-th step of a walk: none: it cannot be; some none: it is through -/
def itStep (it : Itr) (i : Nat) (h : PH) : Option (Option PV) :=
  match it with
  | .vals xs => some xs[i]?
  | .lst l => match h[l]? with
    | some (.lst xs) => some xs[i]?
    | _ => none
def Itr.fuel : Itr → Nat
  | .vals xs => xs.length + 1
  | .lst _ => sizeLine + 2
/-- a walk that carries something -/
def eachI {α : Type} (f : α → PV → PH → Out α) (it : Itr) : Nat → Nat → α → PH → Out α
  | 0, _, _, _ => bad
  | n + 1, i, a, h => match itStep it i h with
    | none => bad
    | some none => ok a h
    | some (some x) => (f a x h).bnd fun a h => eachI f it n (i + 1) a h
def each {α : Type} (f : α → PV → PH → Out α) (it : Itr) (a : α) (h : PH) : Out α := eachI f it it.fuel 0 a h

section
variable (C : Str → List PV → PH → Out PV)
mutual
def evE : E → PSt → PH → Out PV
  | .non, _, h => ok .non h
  | .bl b, _, h => ok (.bl b) h
  | .int i, _, h => ok (.int i) h
  | .str x, _, h => ok (.str x) h
  | .var i, s, h => slot s i h
  | .cst _ v, _, h => ok v h
  | .bin op a b, s, h => (evE a s h).bnd fun x h => (evE b s h).bnd fun y h => binF op x y h
  | .neg a, s, h => (evE a s h).bnd fun x h => match x with
    | .int i => ok (.int (-i)) h
    | _ => bad
  | .cmp op a b, s, h => (evE a s h).bnd fun x h => (evE b s h).bnd fun y h => cmpF op x y h
  | .cmp2 op op' a b c, s, h => (evE a s h).bnd fun x h => (evE b s h).bnd fun y h => (cmpF op x y h).bnd fun z h => (asB z h).bnd fun k h =>
      if k = true then (evE c s h).bnd fun w h => cmpF op' y w h else ok (.bl false) h
  | .and a b, s, h => (evE a s h).bnd fun x h => (truth x h).bnd fun k h => if k = true then evE b s h else ok x h
  | .or a b, s, h => (evE a s h).bnd fun x h => (truth x h).bnd fun k h => if k = true then ok x h else evE b s h
  | .not a, s, h => (evE a s h).bnd fun x h => (truth x h).bnd fun k h => ok (.bl (!k)) h
  | .ite c a b, s, h => (evT c s h).bnd fun k h => if k = true then evE a s h else evE b s h
  | .tup es, s, h => (evEs es s h).bnd fun xs h => if xs.length ≤ sizeLine then ok (.tup xs) h else bad
  | .lst es, s, h => (evEs es s h).bnd fun xs h => if xs.length ≤ sizeLine then new (.lst xs) h else bad
  | .dic ks, s, h => (evD ks s h).bnd fun ps h => if (ps.all fun p => isKey p.1) = true ∧ ps.length ≤ 15 then new (.dic (dAll ps)) h else bad
  | .sub a i, s, h => (evE a s h).bnd fun x h => (evE i s h).bnd fun y h => subF x y h
  | .slc a lo hi, s, h => (evE a s h).bnd fun x h => (evP lo s h).bnd fun y h => (evP hi s h).bnd fun z h => slcF x y z h
  | .call f es, s, h => (evEs es s h).bnd fun xs h => C f xs h
  | .bi f es, s, h => (evEs es s h).bnd fun xs h => biF f xs h
  | .mt m o es, s, h => (evE o s h).bnd fun x h1 => (evEs es s h1).bnd fun xs h => if kind x h1 = kind x h then mtF m x xs h else bad
  | .fld c o f, s, h => (evE o s h).bnd fun x h => fldF c f x h
  | .mk c key es, s, h => (evEs es s h).bnd fun xs h => (C key (.ref h.length :: xs) (h ++ [.ins c []])).bnd (mkR h.length)
  | .um c key m o es, s, h => (evE o s h).bnd fun x h1 => match fldsAt c x h1 with
    | some (_, fs) => if (fs.lookup m).isNone = true then (evEs es s h1).bnd fun xs h2 => C key (x :: xs) h2 else bad
    | none => bad
  | .kcall f es ks, s, h => (evEs es s h).bnd fun xs h => (evEs ks s h).bnd fun ys h => C f (xs ++ ys) h
  | .lgen f es ks, s, h => (evEs es s h).bnd fun xs h => (evEs ks s h).bnd fun ys h => (C f (xs ++ ys) h).bnd lgenR
  | .rpr e, s, h => (evE e s h).bnd fun x h => reprF x h
  | .lc elt tg it ifs own, s, h => (evI it s h).bnd fun r h =>
      (each (fun (acc : List PV) x h => (evG tg x (wipeP s own) h).bnd fun s2 h => (evTs ifs s2 h).bnd fun k h =>
        if k = true then (evE elt s2 h).bnd fun y h => if acc.length < sizeLine then ok (acc ++ [y]) h else bad else ok acc h) r [] h).bnd fun acc h => new (.lst acc) h
  | .dc kx vx tg it ifs own, s, h => (evI it s h).bnd fun r h =>
      (each (fun (acc : List (PV × PV)) x h => (evG tg x (wipeP s own) h).bnd fun s2 h => (evTs ifs s2 h).bnd fun k h =>
        if k = true then (evE kx s2 h).bnd fun y h => (evE vx s2 h).bnd fun z h => if isKey y ∧ acc.length < sizeLine then ok (dPut acc y z) h else bad else ok acc h) r [] h).bnd fun acc h => new (.dic acc) h
  | .isi f e, s, h => (evE e s h).bnd fun x h => isiF f x h
  | .lock i e, s, h => (slot s i h).bnd fun x h => match x with
    | .ref l => (match h[l]? with
      | some (.dic kvs) => (evE e s (h.set l (.lck kvs))).bnd fun v h => (match h[l]? with
        | some (.lck kvs) => ok v (h.set l (.dic kvs))
        | _ => bad)
      | _ => bad)
    | _ => bad
  | .inv neg a d, s, h => (evE a s h).bnd fun x h => (evE d s h).bnd fun y h => invF neg x y h
  | .lrg t es, s, h => (evEs es s h).bnd fun xs h => lrgF t xs h
def evEs : Es → PSt → PH → Out (List PV)
  | .nil, _, h => ok [] h
  | .cons e r, s, h => (evE e s h).bnd fun x h => (evEs r s h).bnd fun xs h => ok (x :: xs) h
/-- a display of pairs -/
def evD : Ks → PSt → PH → Out (List (PV × PV))
  | .nil, _, h => ok [] h
  | .cons k v r, s, h => (evE k s h).bnd fun x h => (evE v s h).bnd fun y h => (evD r s h).bnd fun ps h => ok ((x, y) :: ps) h
/-- a test -/
def evT : T → PSt → PH → Out Bool
  | .and a b, s, h => (evT a s h).bnd fun k h => if k = true then evT b s h else ok false h
  | .or a b, s, h => (evT a s h).bnd fun k h => if k = true then ok true h else evT b s h
  | .not a, s, h => (evT a s h).bnd fun k h => ok (!k) h
  | .ite c a b, s, h => (evT c s h).bnd fun k h => if k = true then evT a s h else evT b s h
  | .cmp op a b, s, h => (evE a s h).bnd fun x h => (evE b s h).bnd fun y h => (cmpF op x y h).bnd asB
  | .cmp2 op op' a b c, s, h => (evE a s h).bnd fun x h => (evE b s h).bnd fun y h => (cmpF op x y h).bnd fun z h => (asB z h).bnd fun k h =>
      if k = true then (evE c s h).bnd fun w h => (cmpF op' y w h).bnd asB else ok false h
  | .e e, s, h => (evE e s h).bnd truth
  | .inv neg a d, s, h => (evE a s h).bnd fun x h => (evE d s h).bnd fun y h => (invF neg x y h).bnd asB
def evP : Pt → PSt → PH → Out (Option Int)
  | .none, _, h => ok none h
  | .some e, s, h => (evE e s h).bnd fun x h => match x with
    | .int i => ok (some i) h
    | _ => bad
/-- tests, all of them -/
def evTs : Ts → PSt → PH → Out Bool
  | .nil, _, h => ok true h
  | .cons e r, s, h => (evT e s h).bnd fun k h => if k = true then evTs r s h else ok false h
def evI : It → PSt → PH → Out Itr
  | .ex e, s, h => (evE e s h).bnd fun x h => match x with
    | .tup xs => ok (.vals xs) h
    | .fro xs => ok (.vals xs) h
    | .ref l => (match h[l]? with
      | some (.lst _) => ok (.lst l) h
      | _ => bad)
    | .str x => ok (.vals (x.cps.toList.map fun c => .str ⟨#[c]⟩)) h
    | _ => bad
  | .rng es, s, h => (evEs es s h).bnd fun xs h => match xs with
    | [.int n] => if small n then ok (.vals (rngI 0 n.toNat)) h else bad
    | [.int a, .int b] => if small a ∧ small b then ok (.vals (rngI a (b - a).toNat)) h else bad
    | _ => bad
  | .rev e, s, h => (evE e s h).bnd fun x h => match x with
    | .tup xs => ok (.vals xs.reverse) h
    | _ => bad
  | .keys e, s, h => (evE e s h).bnd fun x h => match x with
    | .ref l => (match h[l]? with
      | some (.lck kvs) => ok (.vals (kvs.map (·.1))) h
      | _ => bad)
    | _ => bad
  | _, _, _ => bad
def evG : Tg → PV → PSt → PH → Out PSt
  | .nm i, v, s, h => ok (s.set i (some v)) h
  | .tup is, v, s, h => match v with
    | .tup vs => (match setAll s is vs with
      | some s => ok s h
      | none => bad)
    | _ => bad
  | .sub o i, v, s, h => (evE o s h).bnd fun x h => (evE i s h).bnd fun y h => (setF x y v h).bnd fun _ h => ok s h
  | .fld o f, v, s, h => bad
end

def whl (c : PSt → PH → Out Bool) (b : PSt → PH → SO) : Nat → PSt → PH → SO
  | 0, _, _ => .bad
  | n + 1, s, h => (c s h).sbnd fun k h => if k = true then (match b s h with
      | .nx s h => whl c b n s h
      | .ct s h => whl c b n s h
      | .bk s h => .nx s h
      | .rt v h => .rt v h
      | .exc e h => .exc e h
      | .bad => .bad) else .nx s h
def forI (g : PV → PSt → PH → Out PSt) (b : PSt → PH → SO) (it : Itr) : Nat → Nat → PSt → PH → SO
  | 0, _, _, _ => .bad
  | n + 1, i, s, h => match itStep it i h with
    | none => .bad
    | some none => .nx s h
    | some (some x) => (g x s h).sbnd fun s h => match b s h with
      | .nx s h => forI g b it n (i + 1) s h
      | .ct s h => forI g b it n (i + 1) s h
      | .bk s h => .nx s h
      | .rt v h => .rt v h
      | .exc e h => .exc e h
      | .bad => .bad
/-- the dict at a place is free again -/
def free (l : Nat) (h : PH) : Option PH :=
  match h[l]? with
  | some (.lck kvs) => some (h.set l (.dic kvs))
  | _ => none
def unlk (l : Nat) (o : SO) : SO :=
  match o with
  | .nx s h => (match free l h with
    | some h => .nx s h
    | none => .bad)
  | .ct s h => (match free l h with
    | some h => .ct s h
    | none => .bad)
  | .bk s h => (match free l h with
    | some h => .bk s h
    | none => .bad)
  | .rt v h => (match free l h with
    | some h => .rt v h
    | none => .bad)
  | .exc e h => .bad
  | .bad => .bad
def big : Nat := 1000000000
mutual
def evS : S → PSt → PH → SO
  | .pass, s, h => .nx s h
  | .brk, s, h => .bk s h
  | .cont, s, h => .ct s h
  | .retN, _, h => .rt .non h
  | .ret e, s, h => (evE C e s h).sbnd fun v h => .rt v h
  | .ex e, s, h => (evE C e s h).sbnd fun _ h => .nx s h
  | .asg t e, s, h => (evE C e s h).sbnd fun v h => (evG C t v s h).sbnd fun s h => .nx s h
  | .par i j a b, s, h => (evE C a s h).sbnd fun x h => (evE C b s h).sbnd fun y h => .nx ((s.set i (some x)).set j (some y)) h
  | .aug i op e, s, h => (slot s i h).sbnd fun x h => (evE C e s h).sbnd fun y h => (match x, y with
      | .int _, .int _ => binF op x y h
      | .str _, .str _ => binF op x y h
      | _, _ => bad).sbnd fun z h => .nx (s.set i (some z)) h
  | .augF c o f op e, s, h => (evE C o s h).sbnd fun x h1 => (fldF c f x h1).sbnd fun y h1 => (evE C e s h1).sbnd fun z h2 => (match y, z with
      | .int _, .int _ => binF op y z h2
      | _, _ => bad).sbnd fun w h3 => (fldS c f x w h3).sbnd fun _ h4 => .nx s h4
  | .sfld c o f e, s, h => (evE C e s h).sbnd fun y h1 => (evE C o s h1).sbnd fun x h2 => (fldS c f x y h2).sbnd fun _ h3 => .nx s h3
  | .augS o i op e, s, h => .bad
  | .ite c a b, s, h => (evT C c s h).sbnd fun k h => if k = true then evSs a s h else evSs b s h
  | .whl c b, s, h => whl (evT C c) (evSs b) big s h
  | .frr t it b, s, h => (evI C it s h).sbnd fun r h => forI (evG C t) (evSs b) r r.fuel 0 s h
  | .never, _, _ => .bad
  | .lk e st, s, h => (evE C e s h).sbnd fun x _ => match x with
    | .ref l => (match h[l]? with
      | some (.dic kvs) => unlk l (evS st s (h.set l (.lck kvs)))
      | _ => .bad)
    | _ => .bad
def evSs : Ss → PSt → PH → SO
  | .nil, s, h => .nx s h
  | .cons a r, s, h => match evS a s h with
    | .nx s h => evSs r s h
    | o => o
end
end

/-- a generator's outcome: what was handed out -/
inductive YO where
  | nx (ys : List PV) (s : PSt) (h : PH) | bad
def ywhl (c : PSt → PH → Out Bool) (b : List PV → PSt → PH → YO) : Nat → List PV → PSt → PH → YO
  | 0, _, _, _ => .bad
  | n + 1, ys, s, h => match c s h with
    | .ok k h => if k = true then (match b ys s h with
      | .nx ys s h => ywhl c b n ys s h
      | .bad => .bad) else .nx ys s h
    | _ => .bad
section
variable (C : Str → List PV → PH → Out PV)
mutual
def evY : Y → List PV → PSt → PH → YO
  | .pl st, ys, s, h => (match evS C st s h with
    | .nx s h => .nx ys s h
    | _ => .bad)
  | .yld e, ys, s, h => if ys.length < sizeLine then (match evE C e s h with
    | .ok v h => .nx (ys ++ [v]) s h
    | _ => .bad) else .bad
  | .whl c b, ys, s, h => ywhl (evT C c) (evYs b) big ys s h
def evYs : Ys → List PV → PSt → PH → YO
  | .nil, ys, s, h => .nx ys s h
  | .cons y r, ys, s, h => match evY y ys s h with
    | .nx ys s h => evYs r ys s h
    | .bad => .bad
end
end
structure Df where
  np : Nat
  ns : Nat
  body : Ss
  gen : Option Ys
def evCall (T : Str → Option Df) : Nat → Str → List PV → PH → Out PV
  | 0, _, _, _ => bad
  | k + 1, f, xs, h => match T f with
    | none => bad
    | some d => if xs.length = d.np ∧ d.np ≤ d.ns then (match d.gen with
      | none => (match evSs (evCall T k) d.body (xs.map some ++ List.replicate (d.ns - d.np) none) h with
        | .rt v h => ok v h
        | .nx _ h => ok .non h
        | .exc e h => exc e h
        | _ => bad)
      | some b => (match evYs (evCall T k) b [] (xs.map some ++ List.replicate (d.ns - d.np) none) h with
        | .nx ys _ h => ok (.tup ys) h
        | .bad => bad)) else bad
end MP

set_option Elab.async false
set_option linter.all false
set_option maxRecDepth 100000
namespace MP
open PySem PySem.Spec PyProof.Rows L2

abbrev Fg := PySem.W.Frag

/-- a list that stands still -/
def FrL (K : Fg) (H : Hp) (a : Addr) (xs : List V) : Prop := (∃ o, H a = some (.frz o (.lst xs))) ∨
  ∃ (o : Obj) (its : Array Value) (n : Nat), K.lookup a = some o ∧ o.cls = .type "list" ∧ o.dict = none ∧ o.data = .seq its n ∧ its.size ≤ sizeLine ∧ Vals xs its.toList
theorem FrL.sq {K : Fg} {H : Hp} {a : Addr} {xs : List V} (h : FrL K H a xs) : SqL K H a xs := h.imp (fun ⟨o, e⟩ => .inr ⟨o, e⟩) id
/-- a tuple, or a list that stands still -/
def SqI (K : Fg) (H : Hp) (a : Addr) (t : Bool × List V) : Prop := match t.1 with
  | true => SqT K H a t.2
  | false => FrL K H a t.2
mutual
/-- the plain value p is the value v -/
inductive RepV (K : Fg) (ρ : List Addr) (H : Hp) : PV → V → Prop
  | non : RepV K ρ H .non .non
  | bl (b : Bool) : RepV K ρ H (.bl b) (.bl b)
  | int (i : Int) : RepV K ρ H (.int i) (.int i)
  | str (x : Str) : RepV K ρ H (.str x) (.str x)
  | tup {a : Addr} {xs : List V} {ps : List PV} : SqT K H a xs → RepVs K ρ H ps xs → RepV K ρ H (.tup ps) (.ref a)
  | ref {l : Nat} {a : Addr} : ρ[l]? = some a → RepV K ρ H (.ref l) (.ref a)
  | fro {a : Addr} {xs : List V} {ps : List PV} : FrL K H a xs → RepVs K ρ H ps xs → RepV K ρ H (.fro ps) (.ref a)
inductive RepVs (K : Fg) (ρ : List Addr) (H : Hp) : List PV → List V → Prop
  | nil : RepVs K ρ H [] []
  | cons {p : PV} {v : V} {ps : List PV} {vs : List V} : RepV K ρ H p v → RepVs K ρ H ps vs → RepVs K ρ H (p :: ps) (v :: vs)
end
inductive RepKs (K : Fg) (ρ : List Addr) (H : Hp) : List (PV × PV) → List (L2.Key × V) → Prop
  | nil : RepKs K ρ H [] []
  | cons {k : PV} {kk : L2.Key} {p : PV} {v : V} {r : List (PV × PV)} {rs : List (L2.Key × V)} : keyOf k = some kk → RepV K ρ H p v → RepKs K ρ H r rs → RepKs K ρ H ((k, p) :: r) ((kk, v) :: rs)
inductive RepFs (K : Fg) (ρ : List Addr) (H : Hp) : List (Str × PV) → List (Str × V) → Prop
  | nil : RepFs K ρ H [] []
  | cons {n : Str} {p : PV} {v : V} {r : List (Str × PV)} {rs : List (Str × V)} : RepV K ρ H p v → RepFs K ρ H r rs → RepFs K ρ H ((n, p) :: r) ((n, v) :: rs)
def RepO (K : Fg) (ρ : List Addr) (H : Hp) : PO → Addr → Prop
  | .lst ps, a => ∃ xs, H a = some (.lst xs) ∧ RepVs K ρ H ps xs
  | .dic kvs, a => ∃ ks, H a = some (.dK ks) ∧ RepKs K ρ H kvs ks
  | .lck kvs, a => ∃ o ks, H a = some (.frz o (.dK ks)) ∧ RepKs K ρ H kvs ks
  | .ins c fs, a => ∃ dx vs, H a = some (.ins (He.ga K c) dx vs) ∧ RepFs K ρ H fs vs

structure Sim (K : Fg) (ρ : List Addr) (h : PH) (H : Hp) : Prop where
  len : ρ.length = h.length
  nd : ρ.Nodup
  ob : ∀ (l : Nat) o a, h[l]? = some o → ρ[l]? = some a → RepO K ρ H o a
structure Ext (K : Fg) (ρ : List Addr) (H : Hp) (ρ' : List Addr) (H' : Hp) : Prop where
  pre : ∀ (l : Nat) a, ρ[l]? = some a → ρ'[l]? = some a
  tup : ∀ a xs, SqI K H a xs → SqI K H' a xs
  frm : ∀ a o, H a = some o → a ∉ ρ → H' a = some o
  new : ∀ a, a ∈ ρ' → a ∈ ρ ∨ H a = none
  lck : ∀ a o ks, H a = some (.frz o (.dK ks)) → H' a = some (.frz o (.dK ks))
def RepSt (K : Fg) (ρ : List Addr) (H : Hp) (s : PSt) (σ : L2.St) : Prop :=
  s.length = σ.length ∧ ∀ (i : Nat) v, s[i]? = some (some v) → ∃ u, σ[i]? = some (some u) ∧ RepV K ρ H v u

section
variable {K : Fg} {ρ ρ' ρ2 : List Addr} {H H' H2 : Hp} {h h' : PH}
mutual
theorem RepV.mono (hp : ∀ (l : Nat) a, ρ[l]? = some a → ρ'[l]? = some a) (ht : ∀ a xs, SqI K H a xs → SqI K H' a xs) : ∀ {p : PV} {v : V}, RepV K ρ H p v → RepV K ρ' H' p v
  | _, _, .non => .non
  | _, _, .bl b => .bl b
  | _, _, .int i => .int i
  | _, _, .str x => .str x
  | _, _, .tup (xs := xs) q r => .tup (ht _ (true, xs) q) (RepVs.mono hp ht r)
  | _, _, .fro (xs := xs) q r => .fro (ht _ (false, xs) q) (RepVs.mono hp ht r)
  | _, _, .ref e => .ref (hp _ _ e)
theorem RepVs.mono (hp : ∀ (l : Nat) a, ρ[l]? = some a → ρ'[l]? = some a) (ht : ∀ a xs, SqI K H a xs → SqI K H' a xs) : ∀ {p : List PV} {v : List V}, RepVs K ρ H p v → RepVs K ρ' H' p v
  | _, _, .nil => .nil
  | _, _, .cons q r => .cons (RepV.mono hp ht q) (RepVs.mono hp ht r)
end
theorem RepKs.mono (hp : ∀ (l : Nat) a, ρ[l]? = some a → ρ'[l]? = some a) (ht : ∀ a xs, SqI K H a xs → SqI K H' a xs) : ∀ {p : List (PV × PV)} {v : List (L2.Key × V)}, RepKs K ρ H p v → RepKs K ρ' H' p v
  | _, _, .nil => .nil
  | _, _, .cons e q r => .cons e (q.mono hp ht) (RepKs.mono hp ht r)
theorem RepFs.mono (hp : ∀ (l : Nat) a, ρ[l]? = some a → ρ'[l]? = some a) (ht : ∀ a xs, SqI K H a xs → SqI K H' a xs) : ∀ {p : List (Str × PV)} {v : List (Str × V)}, RepFs K ρ H p v → RepFs K ρ' H' p v
  | _, _, .nil => .nil
  | _, _, .cons q r => .cons (q.mono hp ht) (RepFs.mono hp ht r)
theorem RepFs.length : ∀ {p : List (Str × PV)} {v : List (Str × V)}, RepFs K ρ H p v → p.length = v.length
  | _, _, .nil => rfl
  | _, _, .cons _ r => by simp [RepFs.length r]
theorem RepFs.look {f : Str} : ∀ {p : List (Str × PV)} {v : List (Str × V)} {x : PV}, RepFs K ρ H p v → p.lookup f = some x → ∃ u, v.lookup f = some u ∧ RepV K ρ H x u
  | _, _, _, .nil, e => by cases e
  | _, _, x, .cons (n := n) q r, e => by
    rw [List.lookup_cons] at e ⊢
    cases hn : f == n with
    | true => rw [hn] at e; cases e; exact ⟨_, rfl, q⟩
    | false => rw [hn] at e; exact RepFs.look r e
theorem RepFs.noLook {f : Str} : ∀ {p : List (Str × PV)} {v : List (Str × V)}, RepFs K ρ H p v → p.lookup f = none → v.lookup f = none
  | _, _, .nil, _ => rfl
  | _, _, .cons (n := n) q r, e => by
    rw [List.lookup_cons] at e ⊢
    cases hn : f == n with
    | true => rw [hn] at e; cases e
    | false => rw [hn] at e; exact RepFs.noLook r e
theorem RepFs.put {f : Str} {x : PV} {u : V} (rx : RepV K ρ H x u) : ∀ {p : List (Str × PV)} {v : List (Str × V)}, RepFs K ρ H p v → RepFs K ρ H (fPut f x p) (L2.putF f u v)
  | _, _, .nil => .cons rx .nil
  | _, _, .cons (n := n) (p := q1) (v := q2) (r := r1) (rs := r2) q r => by
    show RepFs K ρ H (if n = f then (n, x) :: r1 else (n, q1) :: fPut f x r1) (if n = f then (n, u) :: r2 else (n, q2) :: L2.putF f u r2)
    by_cases c : n = f
    · rw [if_pos c, if_pos c]; exact .cons rx r
    · rw [if_neg c, if_neg c]; exact .cons q (RepFs.put rx r)
theorem Ext.refl : Ext K ρ H ρ H := ⟨fun _ _ e => e, fun _ _ e => e, fun _ _ e _ => e, fun _ e => .inl e, fun _ _ _ e => e⟩
theorem mem_of_get {l : Nat} {a : Addr} (e : ρ[l]? = some a) : a ∈ ρ := List.mem_of_getElem? e
theorem get_of_mem {a : Addr} (e : a ∈ ρ) : ∃ l : Nat, ρ[l]? = some a := List.mem_iff_getElem?.mp e
theorem Ext.mem (x : Ext K ρ H ρ' H') {a : Addr} (e : a ∈ ρ) : a ∈ ρ' := by
  obtain ⟨l, e⟩ := get_of_mem e
  exact mem_of_get (x.pre l a e)
theorem Ext.trans (x : Ext K ρ H ρ' H') (y : Ext K ρ' H' ρ2 H2) : Ext K ρ H ρ2 H2 where
  pre := fun l a e => y.pre l a (x.pre l a e)
  tup := fun a xs e => y.tup a xs (x.tup a xs e)
  lck := fun a o ks e => y.lck a o ks (x.lck a o ks e)
  frm := fun a o e n => by
    refine y.frm a o (x.frm a o e n) fun z => ?_
    rcases x.new a z with q | q
    · exact n q
    · rw [e] at q; cases q
  new := fun a e => by
    rcases y.new a e with q | q
    · exact x.new a q
    · cases e2 : H a with
      | none => exact .inr rfl
      | some o =>
        by_cases m : a ∈ ρ
        · exact .inl m
        · rw [x.frm a o e2 m] at q; cases q
theorem RepV.ext (x : Ext K ρ H ρ' H') {p : PV} {v : V} (r : RepV K ρ H p v) : RepV K ρ' H' p v := r.mono x.pre x.tup
theorem RepVs.ext (x : Ext K ρ H ρ' H') {p : List PV} {v : List V} (r : RepVs K ρ H p v) : RepVs K ρ' H' p v := r.mono x.pre x.tup
theorem RepKs.ext (x : Ext K ρ H ρ' H') {p : List (PV × PV)} {v : List (L2.Key × V)} (r : RepKs K ρ H p v) : RepKs K ρ' H' p v := r.mono x.pre x.tup
theorem RepSt.ext (x : Ext K ρ H ρ' H') {s : PSt} {σ : L2.St} (r : RepSt K ρ H s σ) : RepSt K ρ' H' s σ := ⟨r.1, fun i v e => let ⟨u, a, b⟩ := r.2 i v e; ⟨u, a, b.ext x⟩⟩
theorem RepO.mono {o : PO} {a : Addr} (hp : ∀ (l : Nat) a, ρ[l]? = some a → ρ'[l]? = some a) (ht : ∀ a xs, SqI K H a xs → SqI K H' a xs) (e : H' a = H a) (r : RepO K ρ H o a) : RepO K ρ' H' o a := by
  cases o with
  | lst ps => obtain ⟨xs, h1, h2⟩ := r; exact ⟨xs, e.trans h1, h2.mono hp ht⟩
  | dic ps => obtain ⟨xs, h1, h2⟩ := r; exact ⟨xs, e.trans h1, h2.mono hp ht⟩
  | lck ps => obtain ⟨o, xs, h1, h2⟩ := r; exact ⟨o, xs, e.trans h1, h2.mono hp ht⟩
  | ins c fs => obtain ⟨dx, vs, h1, h2⟩ := r; exact ⟨dx, vs, e.trans h1, h2.mono hp ht⟩
/-- what stands at a place is tracked, and no tuple -/
theorem RepO.some {o : PO} {a : Addr} (r : RepO K ρ H o a) : ∃ u, H a = some u ∧ (∀ xs, u ≠ .tup xs) ∧ ∀ ob xs, u ≠ .frz ob (.tup xs) ∧ u ≠ .frz ob (.lst xs) := by
  cases o with
  | lst ps => obtain ⟨xs, h1, h2⟩ := r; exact ⟨_, h1, fun _ => nofun, fun _ _ => ⟨nofun, nofun⟩⟩
  | dic ps => obtain ⟨xs, h1, h2⟩ := r; exact ⟨_, h1, fun _ => nofun, fun _ _ => ⟨nofun, nofun⟩⟩
  | lck ps => obtain ⟨o, xs, h1, h2⟩ := r; exact ⟨_, h1, fun _ => nofun, fun _ _ => ⟨nofun, nofun⟩⟩
  | ins c fs => obtain ⟨dx, vs, h1, h2⟩ := r; exact ⟨_, h1, fun _ => nofun, fun _ _ => ⟨nofun, nofun⟩⟩
theorem Sim.at (S : Sim K ρ h H) {l : Nat} {o : PO} (e : h[l]? = some o) : ∃ a, ρ[l]? = some a ∧ RepO K ρ H o a := by
  have lt : l < ρ.length := by rw [S.len]; exact (List.getElem?_eq_some_iff.mp e).1
  exact ⟨ρ[l], List.getElem?_eq_getElem lt, S.ob l o _ e (List.getElem?_eq_getElem lt)⟩
theorem Sim.mem (S : Sim K ρ h H) {a : Addr} (e : a ∈ ρ) : ∃ (l : Nat) (o : PO), ρ[l]? = some a ∧ h[l]? = some o ∧ RepO K ρ H o a := by
  obtain ⟨l, e⟩ := get_of_mem e
  have lt : l < h.length := by rw [← S.len]; exact (List.getElem?_eq_some_iff.mp e).1
  exact ⟨l, h[l], e, List.getElem?_eq_getElem lt, S.ob l _ a (List.getElem?_eq_getElem lt) e⟩
theorem Sim.tracked (S : Sim K ρ h H) {a : Addr} (e : a ∈ ρ) : ∃ u, H a = some u ∧ (∀ xs, u ≠ .tup xs) ∧ ∀ ob xs, u ≠ .frz ob (.tup xs) ∧ u ≠ .frz ob (.lst xs) := let ⟨_, _, _, _, r⟩ := S.mem e; r.some
theorem Sim.inj (S : Sim K ρ h H) {i j : Nat} {a : Addr} (e : ρ[i]? = some a) (f : ρ[j]? = some a) : i = j := by
  obtain ⟨h1, e1⟩ := List.getElem?_eq_some_iff.mp e
  obtain ⟨h2, e2⟩ := List.getElem?_eq_some_iff.mp f
  exact (List.getElem_inj S.nd).mp (e1.trans e2.symm)
theorem SqI.upd_new {a p : Addr} {xs : Bool × List V} {o : HO} (hp : H p = none) (q : SqI K H a xs) : SqI K (upd H p o) a xs := by
  obtain ⟨b, xs⟩ := xs
  cases b with
  | true =>
    rcases (show SqT K H a xs from q) with (q | ⟨ob, q⟩) | q
    · exact .inl (.inl (by rw [upd_ne (ne_of_none q hp)]; exact q))
    · exact .inl (.inr ⟨ob, by rw [upd_ne (ne_of_none q hp)]; exact q⟩)
    · exact .inr q
  | false =>
    rcases (show FrL K H a xs from q) with ⟨ob, q⟩ | q
    · exact .inl ⟨ob, by rw [upd_ne (ne_of_none q hp)]; exact q⟩
    · exact .inr q
theorem SqI.upd_old {a p : Addr} {xs : Bool × List V} {o u : HO} (hu : H p = some u) (h1 : ∀ xs, u ≠ .tup xs) (h2 : ∀ ob xs, u ≠ .frz ob (.tup xs) ∧ u ≠ .frz ob (.lst xs)) (q : SqI K H a xs) : SqI K (upd H p o) a xs := by
  obtain ⟨b, xs⟩ := xs
  cases b with
  | true =>
    rcases (show SqT K H a xs from q) with (q | ⟨ob, q⟩) | q
    · refine .inl (.inl ?_)
      rw [upd_ne]
      · exact q
      · intro e; subst e; rw [hu] at q; exact h1 _ (Option.some.inj q)
    · refine .inl (.inr ⟨ob, ?_⟩)
      rw [upd_ne]
      · exact q
      · intro e; subst e; rw [hu] at q; exact (h2 _ _).1 (Option.some.inj q)
    · exact .inr q
  | false =>
    rcases (show FrL K H a xs from q) with ⟨ob, q⟩ | q
    · refine .inl ⟨ob, ?_⟩
      rw [upd_ne]
      · exact q
      · intro e; subst e; rw [hu] at q; exact (h2 _ _).2 (Option.some.inj q)
    · exact .inr q
/-- a new thing that stands at no place -/
theorem Ext.tuple {p : Addr} {o : HO} (hp : H p = none) : Ext K ρ H ρ (upd H p o) :=
  ⟨fun _ _ e => e, fun _ _ q => SqI.upd_new hp q, fun a o e _ => by rw [upd_ne (ne_of_none e hp)]; exact e, fun _ e => .inl e, fun _ _ _ e => by rw [upd_ne (ne_of_none e hp)]; exact e⟩
theorem Sim.tuple {p : Addr} {o : HO} (S : Sim K ρ h H) (hp : H p = none) : Sim K ρ h (upd H p o) :=
  ⟨S.len, S.nd, fun l ob a e f => (S.ob l ob a e f).mono (fun _ _ e => e) (fun _ _ q => SqI.upd_new hp q) (by
    obtain ⟨u, hu, _⟩ := S.tracked (mem_of_get f)
    rw [upd_ne (ne_of_none hu hp)])⟩
/-- a new place -/
theorem Ext.push {p : Addr} {o : HO} (hp : H p = none) : Ext K ρ H (ρ ++ [p]) (upd H p o) :=
  ⟨fun l a e => by rw [List.getElem?_append_left (List.getElem?_eq_some_iff.mp e).1]; exact e, fun _ _ q => SqI.upd_new hp q, fun a o e _ => by rw [upd_ne (ne_of_none e hp)]; exact e, fun a e => by
    rcases List.mem_append.mp e with e | e
    · exact .inl e
    · have : a = p := by simpa using e
      subst this
      exact .inr hp, fun _ _ _ e => by rw [upd_ne (ne_of_none e hp)]; exact e⟩
theorem Sim.push {p : Addr} {o : HO} {po : PO} (S : Sim K ρ h H) (hp : H p = none) (r : RepO K (ρ ++ [p]) (upd H p o) po p) : Sim K (ρ ++ [p]) (h ++ [po]) (upd H p o) := by
  have X : Ext K ρ H (ρ ++ [p]) (upd H p o) := Ext.push hp
  refine ⟨by simp [S.len], ?_, fun l ob a e f => ?_⟩
  · refine List.nodup_append.mpr ⟨S.nd, by simp, fun a ha b hb e => ?_⟩
    have : b = p := by simpa using hb
    subst this e
    obtain ⟨u, hu, _⟩ := S.tracked ha
    rw [hp] at hu; cases hu
  · by_cases lt : l < h.length
    · rw [List.getElem?_append_left lt] at e
      rw [List.getElem?_append_left (by rw [S.len]; exact lt)] at f
      refine (S.ob l ob a e f).mono X.pre X.tup ?_
      obtain ⟨u, hu, _⟩ := S.tracked (mem_of_get f)
      rw [upd_ne (ne_of_none hu hp)]
    · have e2 : l = h.length := by
        have := (List.getElem?_eq_some_iff.mp e).1
        simp at this; omega
      subst e2
      rw [List.getElem?_append_right (Nat.le_refl _)] at e
      rw [List.getElem?_append_right (by rw [S.len]; exact Nat.le_refl _)] at f
      simp [S.len] at e f
      subst e f
      exact r
theorem push_at (S : Sim K ρ h H) (p : Addr) : (ρ ++ [p])[h.length]? = some p := by
  rw [List.getElem?_append_right (by rw [S.len]; exact Nat.le_refl _), S.len]
  simp
/-- a place is written -/
theorem set_tup {l : Nat} {p : Addr} {o : HO} (S : Sim K ρ h H) (e : ρ[l]? = some p) : ∀ a xs, SqI K H a xs → SqI K (upd H p o) a xs := by
  obtain ⟨u, hu, h1, h2⟩ := S.tracked (mem_of_get e)
  exact fun _ _ q => SqI.upd_old hu h1 h2 q
theorem Ext.set {l : Nat} {p : Addr} {o : HO} (S : Sim K ρ h H) (e : ρ[l]? = some p) (hm : ∀ ob w, H p ≠ some (.frz ob w)) : Ext K ρ H ρ (upd H p o) :=
  ⟨fun _ _ e => e, set_tup S e, fun a o e' n => by rw [upd_ne]; exact e'; intro z; exact n (z ▸ mem_of_get e), fun _ e => .inl e, fun a o ks e' => by rw [upd_ne]; exact e'; intro z; subst z; exact hm _ _ e'⟩
theorem nfL {p : Addr} {xs : List V} (e : H p = some (.lst xs)) : ∀ ob w, H p ≠ some (.frz ob w) := fun _ _ z => by rw [e] at z; cases z
theorem nfD {p : Addr} {xs : List (L2.Key × V)} (e : H p = some (.dK xs)) : ∀ ob w, H p ≠ some (.frz ob w) := fun _ _ z => by rw [e] at z; cases z
theorem Sim.set {l : Nat} {p : Addr} {o : HO} {po : PO} (S : Sim K ρ h H) (e : ρ[l]? = some p) (r : RepO K ρ (upd H p o) po p) : Sim K ρ (h.set l po) (upd H p o) := by
  refine ⟨by simp [S.len], S.nd, fun j ob a e' f => ?_⟩
  by_cases hj : j = l
  · subst hj
    rw [e] at f; cases f
    have lt : j < h.length := by rw [← S.len]; exact (List.getElem?_eq_some_iff.mp e).1
    rw [List.getElem?_set_self lt] at e'
    cases e'
    exact r
  · rw [List.getElem?_set_ne (Ne.symm hj)] at e'
    refine (S.ob j ob a e' f).mono (fun _ _ e => e) (set_tup S e) ?_
    rw [upd_ne]
    intro z
    subst z
    exact hj (S.inj f e)
theorem RepVs.length : ∀ {p : List PV} {v : List V}, RepVs K ρ H p v → p.length = v.length
  | _, _, .nil => rfl
  | _, _, .cons _ r => by simp [RepVs.length r]
theorem RepVs.get : ∀ {p : List PV} {v : List V} {i : Nat} {x : PV}, RepVs K ρ H p v → p[i]? = some x → ∃ u, v[i]? = some u ∧ RepV K ρ H x u
  | _, _, _, _, .nil, e => by simp at e
  | _, _, 0, _, .cons r _, e => by simp at e; subst e; exact ⟨_, rfl, r⟩
  | _, _, i + 1, x, .cons _ t, e => by
    obtain ⟨u, h1, h2⟩ := RepVs.get (i := i) (x := x) t (by simpa using e)
    exact ⟨u, by simpa using h1, h2⟩
theorem RepVs.get' : ∀ {p : List PV} {v : List V} {i : Nat} {u : V}, RepVs K ρ H p v → v[i]? = some u → ∃ x, p[i]? = some x ∧ RepV K ρ H x u
  | _, _, _, _, .nil, e => by simp at e
  | _, _, 0, _, .cons r _, e => by simp at e; subst e; exact ⟨_, rfl, r⟩
  | _, _, i + 1, x, .cons _ t, e => by
    obtain ⟨u, h1, h2⟩ := RepVs.get' (i := i) (u := x) t (by simpa using e)
    exact ⟨u, by simpa using h1, h2⟩
theorem RepVs.append : ∀ {p q : List PV} {v w : List V}, RepVs K ρ H p v → RepVs K ρ H q w → RepVs K ρ H (p ++ q) (v ++ w)
  | _, _, _, _, .nil, s => s
  | _, _, _, _, .cons r t, s => .cons r (RepVs.append t s)
theorem RepVs.take : ∀ {p : List PV} {v : List V} (n : Nat), RepVs K ρ H p v → RepVs K ρ H (p.take n) (v.take n)
  | _, _, 0, _ => .nil
  | _, _, _ + 1, .nil => .nil
  | _, _, n + 1, .cons r t => .cons r (RepVs.take n t)
theorem RepVs.drop : ∀ {p : List PV} {v : List V} (n : Nat), RepVs K ρ H p v → RepVs K ρ H (p.drop n) (v.drop n)
  | _, _, 0, r => r
  | _, _, _ + 1, .nil => .nil
  | _, _, n + 1, .cons _ t => RepVs.drop n t
theorem RepVs.set {x : PV} {u : V} (r : RepV K ρ H x u) : ∀ {p : List PV} {v : List V} (i : Nat), RepVs K ρ H p v → RepVs K ρ H (p.set i x) (v.set i u)
  | _, _, _, .nil => .nil
  | _, _, 0, .cons _ t => .cons r t
  | _, _, i + 1, .cons q t => .cons q (RepVs.set r i t)
theorem RepVs.erase : ∀ {p : List PV} {v : List V} (i : Nat), RepVs K ρ H p v → RepVs K ρ H (p.eraseIdx i) (v.eraseIdx i)
  | _, _, _, .nil => .nil
  | _, _, 0, .cons _ t => t
  | _, _, i + 1, .cons q t => .cons q (RepVs.erase i t)
theorem RepVs.flatRep {p : List PV} {v : List V} (r : RepVs K ρ H p v) : ∀ n : Nat, RepVs K ρ H (List.flatten (List.replicate n p)) (List.flatten (List.replicate n v))
  | 0 => .nil
  | n + 1 => by
    rw [List.replicate_succ, List.replicate_succ, List.flatten_cons, List.flatten_cons]
    exact r.append (RepVs.flatRep r n)
theorem RepVs.dropLast : ∀ {p : List PV} {v : List V}, RepVs K ρ H p v → RepVs K ρ H p.dropLast v.dropLast
  | _, _, .nil => .nil
  | _, _, .cons _ .nil => .nil
  | _, _, .cons q (.cons q' t) => .cons q (RepVs.dropLast (.cons q' t))
theorem RepVs.isEmpty {p : List PV} {v : List V} (r : RepVs K ρ H p v) : p.isEmpty = v.isEmpty := by
  cases r <;> rfl
theorem RepKs.isEmpty {p : List (PV × PV)} {v : List (L2.Key × V)} (r : RepKs K ρ H p v) : p.isEmpty = v.isEmpty := by
  cases r <;> rfl
theorem RepKs.length : ∀ {p : List (PV × PV)} {v : List (L2.Key × V)}, RepKs K ρ H p v → p.length = v.length
  | _, _, .nil => rfl
  | _, _, .cons _ _ r => by simp [RepKs.length r]
theorem RepV.intV {i : Int} {v : V} (r : RepV K ρ H (.int i) v) : v = .int i := by cases r; rfl
theorem RepV.strV {i : Str} {v : V} (r : RepV K ρ H (.str i) v) : v = .str i := by cases r; rfl
theorem RepV.blV {i : Bool} {v : V} (r : RepV K ρ H (.bl i) v) : v = .bl i := by cases r; rfl
theorem RepV.nonV {v : V} (r : RepV K ρ H .non v) : v = .non := by cases r; rfl
theorem RepVs.ints : ∀ {ps : List PV} {ns : List Int} {vs : List V}, intsOf ps = some ns → RepVs K ρ H ps vs → vs = ns.map V.int
  | [], ns, _, e, .nil => by simp [intsOf] at e; subst e; rfl
  | .int i :: r, ns, _, e, .cons q t => by
    simp only [intsOf, Option.map_eq_some_iff] at e
    obtain ⟨l, e1, e2⟩ := e
    subst e2
    rw [q.intV, RepVs.ints e1 t]
    rfl
  | .non :: _, _, _, e, _ => by simp [intsOf] at e
  | .bl _ :: _, _, _, e, _ => by simp [intsOf] at e
  | .str _ :: _, _, _, e, _ => by simp [intsOf] at e
  | .tup _ :: _, _, _, e, _ => by simp [intsOf] at e
  | .ref _ :: _, _, _, e, _ => by simp [intsOf] at e
  | .fro _ :: _, _, _, e, _ => by simp [intsOf] at e
theorem RepVs.bools : ∀ {ps : List PV} {ns : List Bool} {vs : List V}, boolsOf ps = some ns → RepVs K ρ H ps vs → vs = ns.map V.bl
  | [], ns, _, e, .nil => by simp [boolsOf] at e; subst e; rfl
  | .bl i :: r, ns, _, e, .cons q t => by
    simp only [boolsOf, Option.map_eq_some_iff] at e
    obtain ⟨l, e1, e2⟩ := e
    subst e2
    rw [q.blV, RepVs.bools e1 t]
    rfl
  | .non :: _, _, _, e, _ => by simp [boolsOf] at e
  | .int _ :: _, _, _, e, _ => by simp [boolsOf] at e
  | .str _ :: _, _, _, e, _ => by simp [boolsOf] at e
  | .tup _ :: _, _, _, e, _ => by simp [boolsOf] at e
  | .ref _ :: _, _, _, e, _ => by simp [boolsOf] at e
  | .fro _ :: _, _, _, e, _ => by simp [boolsOf] at e
theorem RepVs.ofInts : ∀ (ns : List Int), RepVs K ρ H (ns.map PV.int) (ns.map V.int)
  | [] => .nil
  | n :: r => .cons (.int n) (RepVs.ofInts r)
end
end MP

set_option Elab.async false
set_option linter.all false
set_option maxRecDepth 100000
set_option maxHeartbeats 1000000
namespace MP
open PySem PySem.Spec PyProof.Rows L2

/-- what is wanted behind an outcome -/
def PostG {α : Type} (K : Fg) (ρ : List Addr) (H : Hp) (o : Out α) (R : α → List Addr → Hp → Prop) : Prop :=
  match o with
  | .ok v h' => ∀ ρ' H', Ext K ρ H ρ' H' → Sim K ρ' h' H' → R v ρ' H'
  | _ => False
abbrev PostV (K : Fg) (ρ : List Addr) (H : Hp) (o : Out PV) (Q : VK) : Prop := PostG K ρ H o fun v ρ' H' => ∀ V, RepV K ρ' H' v V → Q V H'

section
variable {K : Fg} {ρ ρ1 : List Addr} {H H1 : Hp} {h : PH}
theorem PostG.mono {α : Type} {o : Out α} {R R' : α → List Addr → Hp → Prop} (p : PostG K ρ H o R) (f : ∀ v ρ' H', Ext K ρ H ρ' H' → R v ρ' H' → R' v ρ' H') : PostG K ρ H o R' := by
  cases o with
  | ok v h' => exact fun ρ' H' x s => f v ρ' H' x (p ρ' H' x s)
  | exc e h' => exact p
  | bad => exact p
theorem PostG.ext {α : Type} {o : Out α} {R : α → List Addr → Hp → Prop} (p : PostG K ρ H o R) (x : Ext K ρ H ρ1 H1) : PostG K ρ1 H1 o R := by
  cases o with
  | ok v h' => exact fun ρ' H' y s => p ρ' H' (x.trans y) s
  | exc e h' => exact p
  | bad => exact p
theorem PostG.bnd {α β : Type} {o : Out α} {f : α → PH → Out β} {R : β → List Addr → Hp → Prop} (p : PostG K ρ H (o.bnd f) R) :
    PostG K ρ H o fun v ρ' H' => ∃ h', Sim K ρ' h' H' ∧ PostG K ρ' H' (f v h') R := by
  cases o with
  | ok v h' => exact fun ρ' H' x s => ⟨h', s, PostG.ext (o := f v h') p x⟩
  | exc e h' => exact p
  | bad => exact p
theorem PostG.now {α : Type} {v : α} {R : α → List Addr → Hp → Prop} (p : PostG K ρ H (.ok v h) R) (s : Sim K ρ h H) : R v ρ H := p ρ H .refl s
theorem PostV.now {v : PV} {V : V} {Q : VK} (p : PostV K ρ H (.ok v h) Q) (s : Sim K ρ h H) (r : RepV K ρ H v V) : Q V H := p ρ H .refl s V r
/-- a new tuple -/
theorem PostV.tup {ps : List PV} {xs : List V} {Q : VK} (p : PostV K ρ H (.ok (.tup ps) h) Q) (s : Sim K ρ h H) (r : RepVs K ρ H ps xs) : ∀ a, H a = none → Q (.ref a) (upd H a (.tup xs)) := fun a ha =>
  p ρ _ (Ext.tuple ha) (s.tuple ha) _ (.tup (SqT.of upd_same) (r.ext (Ext.tuple ha)))
theorem PostV.new {o : PO} {u : HO} {Q : VK} (p : PostV K ρ H (MP.new o h) Q) (s : Sim K ρ h H) (r : ∀ a, H a = none → RepO K (ρ ++ [a]) (upd H a u) o a) : ∀ a, H a = none → Q (.ref a) (upd H a u) := fun a ha =>
  p (ρ ++ [a]) _ (Ext.push ha) (s.push ha (r a ha)) _ (.ref (push_at s a))
theorem PostV.newL {ps : List PV} {xs : List V} {Q : VK} (p : PostV K ρ H (MP.new (.lst ps) h) Q) (s : Sim K ρ h H) (r : RepVs K ρ H ps xs) : ∀ a, H a = none → Q (.ref a) (upd H a (.lst xs)) :=
  p.new s fun a ha => ⟨xs, upd_same, r.ext (Ext.push ha)⟩
theorem Sim.lst (S : Sim K ρ h H) {l : Nat} {a : Addr} {ps : List PV} (e : h[l]? = some (.lst ps)) (f : ρ[l]? = some a) : ∃ xs, H a = some (.lst xs) ∧ RepVs K ρ H ps xs := S.ob l _ a e f
theorem Sim.dic (S : Sim K ρ h H) {l : Nat} {a : Addr} {ps : List (PV × PV)} (e : h[l]? = some (.dic ps)) (f : ρ[l]? = some a) : ∃ xs, H a = some (.dK xs) ∧ RepKs K ρ H ps xs := S.ob l _ a e f
theorem Sim.lck (S : Sim K ρ h H) {l : Nat} {a : Addr} {ps : List (PV × PV)} (e : h[l]? = some (.lck ps)) (f : ρ[l]? = some a) : ∃ o xs, H a = some (.frz o (.dK xs)) ∧ RepKs K ρ H ps xs := S.ob l _ a e f
end

/-- a two-place operation, by plain values -/
def r2 (K : Fg) (g : PV → PV → PH → Out PV) : R2 := fun x y H Q => ∃ ρ h p q, Sim K ρ h H ∧ RepV K ρ H p x ∧ RepV K ρ H q y ∧ PostV K ρ H (g p q h) Q

section
variable {X : Cx}
theorem op_bin (op : Operator) : OpR X (binaryOp op) (r2 X.K (binF op)) := by
  intro pins s σ H x y v u Q I rx ry h
  obtain ⟨ρ, h, p, q, S, rp, rq, po⟩ := h
  unfold binF at po
  split at po
  · cases rp; cases rq
    exact op_add pins s σ H _ _ v u Q I rx ry ⟨_, _, rfl, rfl, po.now S (.int _)⟩
  · cases rp; cases rq
    split at po
    · exact op_add_str pins s σ H _ _ v u Q I rx ry ⟨_, _, rfl, rfl, by assumption, po.now S (.str _)⟩
    · exact po.elim
  · split at po
    · rename_i hz
      cases rp with
      | tup q1 r1 =>
        cases rq with
        | tup q2 r2 =>
          rename_i a xs b ys
          refine op_catA pins s σ H _ _ v u Q I rx ry ⟨_, _, xs, ys, rfl, rfl, q1, q2, by rw [← r1.length, ← r2.length]; exact hz, fun e => ?_, fun e1 e => ?_, fun _ _ => po.tup S (r1.append r2)⟩
          · subst e
            cases r1
            exact po.now S (.tup q2 r2)
          · subst e
            cases r2
            refine po.now S (.tup q1 ?_)
            rw [List.append_nil]
            exact r1
    · exact po.elim
  · split at po
    · rename_i h1 h2
      split at po
      · rename_i hz
        cases rp with
        | ref ea =>
          cases rq with
          | ref eb =>
            obtain ⟨xs, e1, r1⟩ := S.lst h1 ea
            obtain ⟨ys, e2, r2⟩ := S.lst h2 eb
            exact op_cat pins s σ H _ _ v u Q I rx ry ⟨_, _, xs, ys, rfl, rfl, e1, e2, by rw [← r1.length, ← r2.length]; exact hz, po.newL S (r1.append r2)⟩
      · exact po.elim
    · exact po.elim
  · cases rp; cases rq
    exact op_sub pins s σ H _ _ v u Q I rx ry ⟨_, _, rfl, rfl, po.now S (.int _)⟩
  · cases rp; cases rq
    split at po
    · rename_i i j hz
      refine op_mul pins s σ H _ _ v u Q I rx ry ⟨_, _, rfl, rfl, ?_, po.now S (.int _)⟩
      rcases hz with hz | hz
      · exact .inl (by constructor <;> omega)
      · exact .inr (by constructor <;> omega)
    · exact po.elim
  · split at po
    · rename_i h1
      split at po
      · rename_i hz
        cases rp with
        | ref ea =>
          cases rq
          obtain ⟨xs, e1, r1⟩ := S.lst h1 ea
          exact op_rep pins s σ H _ _ v u Q I rx ry ⟨_, _, xs, rfl, rfl, e1, hz.1, hz.2.1, by rw [← r1.length]; exact hz.2.2, po.newL S (r1.flatRep _)⟩
      · exact po.elim
    · exact po.elim
  · cases rp; cases rq
    split at po
    · exact op_fdiv pins s σ H _ _ v u Q I rx ry ⟨_, _, rfl, rfl, by assumption, po.now S (.int _)⟩
    · exact po.elim
  · cases rp; cases rq
    split at po
    · exact op_mod pins s σ H _ _ v u Q I rx ry ⟨_, _, rfl, rfl, by assumption, po.now S (.int _)⟩
    · exact po.elim
  · cases rp; cases rq
    split at po
    · exact op_shl pins s σ H _ _ v u Q I rx ry ⟨_, _, rfl, rfl, by assumption, po.now S (.int _)⟩
    · exact po.elim
  · cases rp; cases rq
    split at po
    · exact op_shr pins s σ H _ _ v u Q I rx ry ⟨_, _, rfl, rfl, by assumption, po.now S (.int _)⟩
    · exact po.elim
  · cases rp; cases rq
    split at po
    · exact op_pow pins s σ H _ _ v u Q I rx ry ⟨_, _, rfl, rfl, by assumption, po.now S (.int _)⟩
    · exact po.elim
  · cases rp; cases rq
    exact op_and pins s σ H _ _ v u Q I rx ry ⟨_, _, rfl, rfl, po.now S (.int _)⟩
  · cases rp; cases rq
    exact op_or pins s σ H _ _ v u Q I rx ry ⟨_, _, rfl, rfl, po.now S (.int _)⟩
  · cases rp; cases rq
    exact op_xor pins s σ H _ _ v u Q I rx ry ⟨_, _, rfl, rfl, po.now S (.int _)⟩
  · exact po.elim
end

/-! ### data -/
section
variable {K : Fg} {ρ : List Addr} {H : Hp} {h : PH}
theorem dataL_all {f : PV → Option PyData} (ih : ∀ p v d, f p = some d → RepV K ρ H p v → Dp K H v d) : ∀ {ps : List PV} {vs : List V} {ds : List PyData}, dataL f ps = some ds → RepVs K ρ H ps vs → DpAll K H vs ds
  | [], _, ds, e, .nil => by
    simp [dataL] at e
    subst e
    exact .nil
  | p :: r, _, ds, e, .cons q t => by
    unfold dataL at e
    split at e
    · rename_i d ds' e1 e2
      cases e
      exact .cons (ih _ _ _ e1 q) (dataL_all ih e2 t)
    · cases e
theorem datum_ok (S : Sim K ρ h H) : ∀ (n : Nat) (p : PV) (v : V) (d : PyData), datum h n p = some d → RepV K ρ H p v → Dp K H v d
  | 0, p, v, d, e, r => by simp [datum] at e
  | n + 1, .non, v, d, e, r => by cases r; simp [datum] at e; subst e; exact .non
  | n + 1, .bl b, v, d, e, r => by cases r; simp [datum] at e; subst e; exact .bl _
  | n + 1, .int b, v, d, e, r => by cases r; simp [datum] at e; subst e; exact .int _
  | n + 1, .str b, v, d, e, r => by cases r; simp [datum] at e; subst e; exact .str _
  | n + 1, .tup ps, v, d, e, r => by
    simp only [datum, Option.map_eq_some_iff] at e
    obtain ⟨ds, e1, e2⟩ := e
    subst e2
    cases r with
    | tup q t => exact .tup q (dataL_all (fun p v d => datum_ok S n p v d) e1 t)
  | n + 1, .fro _, v, d, e, r => by simp [datum] at e
  | n + 1, .ref l, v, d, e, r => by
    cases r with
    | ref ea =>
      simp only [datum] at e
      split at e
      · rename_i h1
        simp only [Option.map_eq_some_iff] at e
        obtain ⟨ds, e1, e2⟩ := e
        subst e2
        obtain ⟨xs, e3, r1⟩ := S.lst h1 ea
        exact .lst (SqL.of e3) (dataL_all (fun p v d => datum_ok S n p v d) e1 r1)
      · cases e
end
section
variable {X : Cx}
def rB (K : Fg) (g : PV → PV → PH → Out Bool) (f : Bool → Bool) : R2 := fun x y H Q => ∃ ρ h p q, Sim K ρ h H ∧ RepV K ρ H p x ∧ RepV K ρ H q y ∧ PostG K ρ H (g p q h) fun b _ H' => Q (.bl (f b)) H'
theorem op_eqP (hu : X.A.units + 64 < cLine) : OpR X (compareOp .Eq) (rB X.K eqB id) := by
  intro pins s σ H x y v u Q I rx ry h
  obtain ⟨ρ, h, p, q, S, rp, rq, po⟩ := h
  unfold eqB at po
  split at po
  · cases rp; cases rq
    exact op_eq pins s σ H _ _ v u Q I rx ry ⟨rfl, by have := po.now S; simpa using this⟩
  · cases rp; cases rq
    exact op_eq pins s σ H _ _ v u Q I rx ry ⟨rfl, by have := po.now S; simpa using this⟩
  · cases rp; cases rq
    exact op_eq pins s σ H _ _ v u Q I rx ry ⟨rfl, by have := po.now S; simpa using this⟩
  · cases rp; cases rq
    exact op_eq pins s σ H _ _ v u Q I rx ry ⟨rfl, by have := po.now S; simpa using this⟩
  · split at po
    · rename_i d e e1 e2
      split at po
      · rename_i hs
        exact op_eqD hu pins s σ H _ _ v u Q I rx ry ⟨d, e, datum_ok S _ _ _ _ e1 rp, datum_ok S _ _ _ _ e2 rq, hs.1, hs.2, po.now S⟩
      · exact po.elim
    · exact po.elim
theorem op_neP (hu : X.A.units + 64 < cLine) : OpR X (compareOp .NotEq) (rB X.K eqB (!·)) := by
  intro pins s σ H x y v u Q I rx ry h
  obtain ⟨ρ, h, p, q, S, rp, rq, po⟩ := h
  unfold eqB at po
  split at po
  · cases rp; cases rq
    exact op_ne pins s σ H _ _ v u Q I rx ry ⟨rfl, by have := po.now S; simpa using this⟩
  · cases rp; cases rq
    exact op_ne pins s σ H _ _ v u Q I rx ry ⟨rfl, by have := po.now S; simpa using this⟩
  · cases rp; cases rq
    exact op_ne pins s σ H _ _ v u Q I rx ry ⟨rfl, by have := po.now S; simpa using this⟩
  · cases rp; cases rq
    exact op_ne pins s σ H _ _ v u Q I rx ry ⟨rfl, by have := po.now S; simpa using this⟩
  · split at po
    · rename_i d e e1 e2
      split at po
      · rename_i hs
        exact op_neD hu pins s σ H _ _ v u Q I rx ry ⟨d, e, datum_ok S _ _ _ _ e1 rp, datum_ok S _ _ _ _ e2 rq, hs.1, hs.2, po.now S⟩
      · exact po.elim
    · exact po.elim
end
end MP

set_option Elab.async false
set_option linter.all false
set_option maxRecDepth 100000
set_option maxHeartbeats 1000000
namespace MP
open PySem PySem.Spec PyProof.Rows L2

section
variable {K : Fg} {ρ : List Addr} {H : Hp} {h : PH}
theorem keyOf_V {k : PV} {kk : L2.Key} {v : V} (e : keyOf k = some kk) (r : RepV K ρ H k v) : v = kV kk := by
  cases r <;> simp [keyOf] at e <;> subst e <;> rfl
theorem keyOf_some {k : PV} (e : isKey k = true) : ∃ kk, keyOf k = some kk := by
  cases k <;> simp [isKey] at e <;> exact ⟨_, rfl⟩
theorem keyEq_iff {a b : PV} {x y : L2.Key} (ea : keyOf a = some x) (eb : keyOf b = some y) : keyEq a b = decide (x = y) := by
  cases a <;> simp [keyOf] at ea <;> subst ea <;> cases b <;> simp [keyOf] at eb <;> subst eb <;> simp [keyEq, key_ll, key_rr, key_lr, key_rl]
theorem RepKs.get {k : PV} {kk : L2.Key} (ek : keyOf k = some kk) : ∀ {kvs : List (PV × PV)} {ks : List (L2.Key × V)}, RepKs K ρ H kvs ks →
    (∀ v, dGet kvs k = some v → ∃ u, valV ks kk = some u ∧ RepV K ρ H v u) ∧ (dGet kvs k = none → valV ks kk = none)
  | _, _, .nil => ⟨fun v e => by simp [dGet] at e, fun _ => rfl⟩
  | _, _, .cons (k := a) (kk := ka) (v := u) e q r => by
    have ih := RepKs.get ek r
    simp only [dGet]
    rw [keyEq_iff e ek]
    by_cases hk : ka = kk
    · simp only [hk, decide_true, if_true]
      refine ⟨fun v e => ?_, fun e => by cases e⟩
      cases e
      exact ⟨u, valV_pos (p := (kk, u)) rfl, q⟩
    · simp only [hk, decide_false, Bool.false_eq_true, if_false]
      rw [valV_neg (p := (ka, u)) hk]
      exact ih
theorem RepKs.someK {k : PV} {kk : L2.Key} (ek : keyOf k = some kk) {kvs : List (PV × PV)} {ks : List (L2.Key × V)} (r : RepKs K ρ H kvs ks) : (valV ks kk).isSome = (dGet kvs k).isSome := by
  obtain ⟨h1, h2⟩ := r.get ek
  cases e : dGet kvs k with
  | none => rw [h2 e]; rfl
  | some v => obtain ⟨u, h3, _⟩ := h1 v e; rw [h3]; rfl
theorem RepKs.any {k : PV} {kk : L2.Key} (ek : keyOf k = some kk) : ∀ {kvs : List (PV × PV)} {ks : List (L2.Key × V)}, RepKs K ρ H kvs ks → (kvs.any fun p => keyEq p.1 k) = (ks.any fun kv => decide (kv.1 = kk))
  | _, _, .nil => rfl
  | _, _, .cons e _ r => by simp only [List.any_cons, RepKs.any ek r, keyEq_iff e ek]
theorem RepKs.append : ∀ {kvs lvs : List (PV × PV)} {ks ls : List (L2.Key × V)}, RepKs K ρ H kvs ks → RepKs K ρ H lvs ls → RepKs K ρ H (kvs ++ lvs) (ks ++ ls)
  | _, _, _, _, .nil, s => s
  | _, _, _, _, .cons e q r, s => .cons e q (RepKs.append r s)
theorem RepKs.put {k p : PV} {kk : L2.Key} {u : V} (ek : keyOf k = some kk) (ru : RepV K ρ H p u) {kvs : List (PV × PV)} {ks : List (L2.Key × V)} (r : RepKs K ρ H kvs ks) : RepKs K ρ H (dPut kvs k p) (putK ks kk u) := by
  unfold dPut putK
  rw [r.any ek]
  by_cases hc : (ks.any fun kv => decide (kv.1 = kk)) = true
  · rw [if_pos hc, if_pos hc]
    have go : ∀ {kvs : List (PV × PV)} {ks : List (L2.Key × V)}, RepKs K ρ H kvs ks → RepKs K ρ H (kvs.map (fun q => if keyEq q.1 k = true then (q.1, p) else q)) (ks.map (fun kv => if kv.1 = kk then (kv.1, u) else kv)) := by
      intro kvs ks r
      induction r with
      | nil => exact .nil
      | cons e q r ih =>
        simp only [List.map_cons]
        rw [keyEq_iff e ek]
        split
        · rename_i h1
          simp only [decide_eq_true_eq] at h1
          rw [if_pos h1]
          exact .cons e ru ih
        · rename_i h1
          simp only [decide_eq_true_eq] at h1
          rw [if_neg h1]
          exact .cons e q ih
    exact go r
  · rw [if_neg hc, if_neg hc]
    exact r.append (.cons ek ru .nil)
theorem RepKs.drop {k : PV} {kk : L2.Key} (ek : keyOf k = some kk) : ∀ {kvs : List (PV × PV)} {ks : List (L2.Key × V)}, RepKs K ρ H kvs ks → RepKs K ρ H (dDrop kvs k) (dropK ks kk)
  | _, _, .nil => .nil
  | _, _, .cons (k := a) (kk := ka) e q r => by
    have ih := RepKs.drop ek r
    unfold dDrop dropK at ih ⊢
    simp only [List.filter_cons]
    rw [keyEq_iff e ek]
    by_cases hk : ka = kk
    · simpa [hk] using ih
    · simp only [hk, decide_false, Bool.not_false, if_true, ne_eq, not_false_eq_true, decide_true]
      exact .cons e q ih
theorem RepKs.keys : ∀ {kvs : List (PV × PV)} {ks : List (L2.Key × V)}, RepKs K ρ H kvs ks → RepVs K ρ H (kvs.map (·.1)) (ks.map fun kv => kV kv.1)
  | _, _, .nil => .nil
  | _, _, .cons (k := k) e q r => by
    refine .cons ?_ (RepKs.keys r)
    cases k <;> simp [keyOf] at e <;> subst e
    · exact .int _
    · exact .str _
theorem RepKs.intKeys : ∀ {kvs : List (PV × PV)} {ks : List (L2.Key × V)} {is : List Int}, RepKs K ρ H kvs ks → intsOf (kvs.map (·.1)) = some is → ks.map (·.1) = is.map Sum.inl
  | _, _, is, .nil, e => by simp [intsOf] at e; subst e; rfl
  | _, _, is, .cons (k := k) e q r, e2 => by
    cases k <;> simp [keyOf] at e <;> simp [intsOf] at e2
    subst e
    obtain ⟨l, h1, h2⟩ := e2
    subst h2
    simp [RepKs.intKeys r h1]
theorem RepV.flat {p : PV} {v : V} (r : RepV K ρ H p v) (e : flatP p = true) : flatV v = true := by
  cases r <;> first | rfl | (simp [flatP] at e)
theorem RepVs.flat : ∀ {ps : List PV} {vs : List V}, RepVs K ρ H ps vs → ps.all flatP = true → vs.all flatV = true
  | _, _, .nil, _ => rfl
  | _, _, .cons q r, e => by
    simp only [List.all_cons, Bool.and_eq_true] at e ⊢
    exact ⟨q.flat e.1, r.flat e.2⟩
theorem flatEq_V {p q : PV} {v u : V} (r : RepV K ρ H p v) (t : RepV K ρ H q u) (e1 : flatP p = true) (e2 : flatP q = true) : eqV v u = flatEq p q := by
  cases r <;> simp [flatP] at e1 <;> cases t <;> simp [flatP] at e2 <;> simp [eqV, flatEq, Bool.beq_eq_decide_eq]
theorem flatAny {q : PV} {u : V} (t : RepV K ρ H q u) (e2 : flatP q = true) : ∀ {ps : List PV} {vs : List V}, RepVs K ρ H ps vs → ps.all flatP = true → inV u vs = ps.any fun y => flatEq y q
  | _, _, .nil, _ => rfl
  | _, _, .cons p r, e => by
    simp only [List.all_cons, Bool.and_eq_true] at e
    have ih := flatAny t e2 r e.2
    unfold inV at ih ⊢
    rw [List.any_cons, List.any_cons, flatEq_V p t e.1 e2, ih]
end

section
variable {X : Cx}
theorem sign_of {a : Str} (h : a.length = 1) : ∃ c, a = ⟨#[c]⟩ := by
  obtain ⟨l⟩ := a
  have h' : l.size = 1 := h
  refine ⟨l[0], ?_⟩
  congr 1
  apply Array.ext
  · simp [h']
  · intro i h1 h2
    have : i = 0 := by omega
    subst this
    simp
theorem op_inP (hu : X.A.units + 65 < cLine) : OpR X (compareOp .In) (rB X.K inB id) := by
  intro pins s σ H x y v u Q I rx ry h
  obtain ⟨ρ, h, p, q, S, rp, rq, po⟩ := h
  unfold inB at po
  split at po
  · rename_i b
    split at po
    · rename_i a
      split at po
      · rename_i hl
        cases rp; cases rq
        obtain ⟨c, rfl⟩ := sign_of hl
        refine op_in_sign pins s σ H _ _ v u Q I rx ry ⟨c, b, rfl, rfl, ?_⟩
        have := po.now S
        simpa using this
      · exact po.elim
    · exact po.elim
  · rename_i ys
    unfold inB.inL at po
    split at po
    · rename_i hf
      cases rq with
      | tup q1 r1 =>
        refine op_in_seq pins s σ H _ _ v u Q I rx ry ⟨_, _, rfl, .inr q1, rp.flat hf.1, r1.flat hf.2, ?_⟩
        rw [flatAny rp hf.1 r1 hf.2]
        exact po.now S
    · exact po.elim
  · rename_i l
    cases rq with
    | ref ea =>
      split at po
      · rename_i ys h1
        obtain ⟨xs, e1, r1⟩ := S.lst h1 ea
        split at po
        · rename_i hf
          refine op_in_seq pins s σ H _ _ v u Q I rx ry ⟨_, _, rfl, .inl (SqL.of e1), rp.flat hf.1, r1.flat hf.2, ?_⟩
          rw [flatAny rp hf.1 r1 hf.2]
          exact po.now S
        · unfold inDeep at po
          split at po
          · rename_i d ds e2 e3
            split at po
            · rename_i hs
              exact op_inD hu pins s σ H _ _ v u Q I rx ry ⟨d, ds, datum_ok S _ _ _ _ e2 rp, .lst (SqL.of e1) (dataL_all (fun p v d => datum_ok S _ p v d) e3 r1), hs.1, hs.2, po.now S⟩
            · exact po.elim
          · exact po.elim
      · rename_i kvs h1
        obtain ⟨xs, e1, r1⟩ := S.dic h1 ea
        split at po
        · rename_i hk
          obtain ⟨kk, ek⟩ := keyOf_some hk
          cases ry
          refine d_in (o := valV xs kk) (by omega) I (.inl ⟨xs, kk, .inl e1, keyOf_V ek rp, rfl⟩) rx fun s' I' => ⟨.bl _, H, I', rfl, ?_⟩
          rw [r1.someK ek]
          exact po.now S
        · exact po.elim
      · rename_i kvs h1
        obtain ⟨o, xs, e1, r1⟩ := S.lck h1 ea
        split at po
        · rename_i hk
          obtain ⟨kk, ek⟩ := keyOf_some hk
          cases ry
          refine d_in (o := valV xs kk) (by omega) I (.inl ⟨xs, kk, .inr ⟨o, e1⟩, keyOf_V ek rp, rfl⟩) rx fun s' I' => ⟨.bl _, H, I', rfl, ?_⟩
          rw [r1.someK ek]
          exact po.now S
        · exact po.elim
      · exact po.elim
  · exact po.elim
theorem op_notInP (hu : X.A.units + 65 < cLine) : OpR X (compareOp .NotIn) (rB X.K inB (!·)) := by
  intro pins s σ H x y v u Q I rx ry h
  obtain ⟨ρ, h, p, q, S, rp, rq, po⟩ := h
  unfold inB at po
  split at po
  · rename_i b
    split at po
    · rename_i a
      split at po
      · rename_i hl
        cases rp; cases rq
        obtain ⟨c, rfl⟩ := sign_of hl
        refine op_notIn_sign pins s σ H _ _ v u Q I rx ry ⟨c, b, rfl, rfl, ?_⟩
        have := po.now S
        simpa using this
      · exact po.elim
    · exact po.elim
  · rename_i ys
    unfold inB.inL at po
    split at po
    · rename_i hf
      cases rq with
      | tup q1 r1 =>
        refine op_notIn_seq pins s σ H _ _ v u Q I rx ry ⟨_, _, rfl, .inr q1, rp.flat hf.1, r1.flat hf.2, ?_⟩
        rw [flatAny rp hf.1 r1 hf.2]
        exact po.now S
    · exact po.elim
  · rename_i l
    cases rq with
    | ref ea =>
      split at po
      · rename_i ys h1
        obtain ⟨xs, e1, r1⟩ := S.lst h1 ea
        split at po
        · rename_i hf
          refine op_notIn_seq pins s σ H _ _ v u Q I rx ry ⟨_, _, rfl, .inl (SqL.of e1), rp.flat hf.1, r1.flat hf.2, ?_⟩
          rw [flatAny rp hf.1 r1 hf.2]
          exact po.now S
        · unfold inDeep at po
          split at po
          · rename_i d ds e2 e3
            split at po
            · rename_i hs
              exact op_notInD hu pins s σ H _ _ v u Q I rx ry ⟨d, ds, datum_ok S _ _ _ _ e2 rp, .lst (SqL.of e1) (dataL_all (fun p v d => datum_ok S _ p v d) e3 r1), hs.1, hs.2, po.now S⟩
            · exact po.elim
          · exact po.elim
      · rename_i kvs h1
        obtain ⟨xs, e1, r1⟩ := S.dic h1 ea
        split at po
        · rename_i hk
          obtain ⟨kk, ek⟩ := keyOf_some hk
          cases ry
          refine d_notIn (o := valV xs kk) (by omega) I (.inl ⟨xs, kk, .inl e1, keyOf_V ek rp, rfl⟩) rx fun s' I' => ⟨.bl _, H, I', rfl, ?_⟩
          rw [r1.someK ek]
          exact po.now S
        · exact po.elim
      · rename_i kvs h1
        obtain ⟨o, xs, e1, r1⟩ := S.lck h1 ea
        split at po
        · rename_i hk
          obtain ⟨kk, ek⟩ := keyOf_some hk
          cases ry
          refine d_notIn (o := valV xs kk) (by omega) I (.inl ⟨xs, kk, .inr ⟨o, e1⟩, keyOf_V ek rp, rfl⟩) rx fun s' I' => ⟨.bl _, H, I', rfl, ?_⟩
          rw [r1.someK ek]
          exact po.now S
        · exact po.elim
      · exact po.elim
  · exact po.elim

theorem rB_of {K : Fg} {ρ : List Addr} {H : Hp} {h : PH} {g : PV → PV → PH → Out Bool} {f : Bool → Bool} {p q : PV} {x y : V} {Q : VK} (S : Sim K ρ h H) (rp : RepV K ρ H p x) (rq : RepV K ρ H q y)
    (po : PostV K ρ H ((g p q h).bnd fun b h => .ok (.bl (f b)) h) Q) : rB K g f x y H Q := by
  refine ⟨ρ, h, p, q, S, rp, rq, (PostG.bnd po).mono fun b ρ' H' _ ⟨h', S', po'⟩ => ?_⟩
  exact PostV.now po' S' (.bl _)
/-- a comparison, by plain values -/
theorem op_cmp (hu : X.A.units + 65 < cLine) (op : CmpOp) : OpR X (compareOp op) (r2 X.K (cmpF op)) := by
  intro pins s σ H x y v u Q I rx ry h
  obtain ⟨ρ, h, p, q, S, rp, rq, po⟩ := h
  unfold cmpF at po
  split at po
  · exact op_eqP (by omega) pins s σ H x y v u Q I rx ry (rB_of (f := id) S rp rq po)
  · exact op_neP (by omega) pins s σ H x y v u Q I rx ry (rB_of (f := (!·)) S rp rq po)
  · exact op_inP (by omega) pins s σ H x y v u Q I rx ry (rB_of (f := id) S rp rq po)
  · exact op_notInP (by omega) pins s σ H x y v u Q I rx ry (rB_of (f := (!·)) S rp rq po)
  · split at po
    · cases rq
      refine op_isN pins s σ H _ _ v u Q I rx ry ⟨rfl, ?_⟩
      split at po
      · cases rp
        exact po.now S (.bl _)
      · have e : decide (x = .non) = false := by
          cases rp <;> first | rfl | (rename_i hn; exact absurd rfl hn)
        rw [e]
        exact po.now S (.bl _)
    · exact po.elim
  · split at po
    · cases rq
      refine op_notN pins s σ H _ _ v u Q I rx ry ⟨rfl, ?_⟩
      split at po
      · cases rp
        exact po.now S (.bl _)
      · have e : decide (x = .non) = false := by
          cases rp <;> first | rfl | (rename_i hn; exact absurd rfl hn)
        rw [e]
        exact po.now S (.bl _)
    · exact po.elim
  · split at po
    · cases rp; cases rq
      exact op_lt pins s σ H _ _ v u Q I rx ry ⟨_, _, rfl, rfl, po.now S (.bl _)⟩
    · exact po.elim
  · split at po
    · cases rp; cases rq
      exact op_le pins s σ H _ _ v u Q I rx ry ⟨_, _, rfl, rfl, po.now S (.bl _)⟩
    · exact po.elim
  · split at po
    · cases rp; cases rq
      exact op_gt pins s σ H _ _ v u Q I rx ry ⟨_, _, rfl, rfl, po.now S (.bl _)⟩
    · exact po.elim
  · split at po
    · cases rp; cases rq
      exact op_ge pins s σ H _ _ v u Q I rx ry ⟨_, _, rfl, rfl, po.now S (.bl _)⟩
    · exact po.elim
end
end MP

set_option Elab.async false
set_option linter.all false
set_option maxRecDepth 100000
set_option maxHeartbeats 1000000
namespace MP
open PySem PySem.Spec PyProof.Rows L2

/-- an expression's reading, by its plain function -/
def lE (K : Fg) (f : PSt → PH → Out PV) : TE := fun σ H Q => ∃ ρ s h, Sim K ρ h H ∧ RepSt K ρ H s σ ∧ PostV K ρ H (f s h) Q
def lB (K : Fg) (f : PSt → PH → Out Bool) : TT := fun σ H Q => ∃ ρ s h, Sim K ρ h H ∧ RepSt K ρ H s σ ∧ PostG K ρ H (f s h) fun b _ H' => Q b H'
def lA (K : Fg) (f : PSt → PH → Out (List PV)) : TA := fun σ H Q => ∃ ρ s h, Sim K ρ h H ∧ RepSt K ρ H s σ ∧ PostG K ρ H (f s h) fun vs ρ' H' => ∀ us, RepVs K ρ' H' vs us → Q us H'
def lP (K : Fg) (f : PSt → PH → Out (Option Int)) : TO := fun σ H Q => ∃ ρ s h, Sim K ρ h H ∧ RepSt K ρ H s σ ∧ PostG K ρ H (f s h) fun b _ H' => Q b H'
def lG (K : Fg) (f : PV → PSt → PH → Out PSt) : TG := fun v σ H Q => ∃ ρ s h p, Sim K ρ h H ∧ RepSt K ρ H s σ ∧ RepV K ρ H p v ∧ PostG K ρ H (f p s h) fun s' ρ' H' => ∀ σ', RepSt K ρ' H' s' σ' → Q σ' H'
def lC (K : Fg) (f : List PV → PH → Out PV) : List V → Hp → VK → Prop := fun xs H Q => ∃ ρ h ps, Sim K ρ h H ∧ RepVs K ρ H ps xs ∧ PostV K ρ H (f ps h) Q

section
variable {K : Fg} {ρ : List Addr} {H : Hp} {h : PH} {σ : L2.St} {s : PSt}
/-- the first part of a computation -/
theorem lE.first {α : Type} {f : PSt → PH → Out PV} {g : PV → PH → Out α} {R : α → List Addr → Hp → Prop} {Q : VK} (S : Sim K ρ h H) (Rs : RepSt K ρ H s σ) (po : PostG K ρ H ((f s h).bnd g) R)
    (k : ∀ v ρ' H' h' u, Ext K ρ H ρ' H' → Sim K ρ' h' H' → RepSt K ρ' H' s σ → f s h = .ok v h' → RepV K ρ' H' v u → PostG K ρ' H' (g v h') R → Q u H') : lE K f σ H Q := by
  refine ⟨ρ, s, h, S, Rs, ?_⟩
  cases e : f s h with
  | ok v h' =>
    rw [e] at po
    intro ρ' H' x S' u ru
    exact k v ρ' H' h' u x S' (Rs.ext x) e ru (PostG.ext (o := g v h') po x)
  | exc _ _ => rw [e] at po; exact po.elim
  | bad => rw [e] at po; exact po.elim
theorem lB.first {α : Type} {f : PSt → PH → Out Bool} {g : Bool → PH → Out α} {R : α → List Addr → Hp → Prop} {Q : Bool → Hp → Prop} (S : Sim K ρ h H) (Rs : RepSt K ρ H s σ) (po : PostG K ρ H ((f s h).bnd g) R)
    (k : ∀ v ρ' H' h', Ext K ρ H ρ' H' → Sim K ρ' h' H' → RepSt K ρ' H' s σ → f s h = .ok v h' → PostG K ρ' H' (g v h') R → Q v H') : lB K f σ H Q := by
  refine ⟨ρ, s, h, S, Rs, ?_⟩
  cases e : f s h with
  | ok v h' =>
    rw [e] at po
    intro ρ' H' x S'
    exact k v ρ' H' h' x S' (Rs.ext x) e (PostG.ext (o := g v h') po x)
  | exc _ _ => rw [e] at po; exact po.elim
  | bad => rw [e] at po; exact po.elim
theorem lP.first {α : Type} {f : PSt → PH → Out (Option Int)} {g : Option Int → PH → Out α} {R : α → List Addr → Hp → Prop} {Q : Option Int → Hp → Prop} (S : Sim K ρ h H) (Rs : RepSt K ρ H s σ) (po : PostG K ρ H ((f s h).bnd g) R)
    (k : ∀ v ρ' H' h', Ext K ρ H ρ' H' → Sim K ρ' h' H' → RepSt K ρ' H' s σ → f s h = .ok v h' → PostG K ρ' H' (g v h') R → Q v H') : lP K f σ H Q := by
  refine ⟨ρ, s, h, S, Rs, ?_⟩
  cases e : f s h with
  | ok v h' =>
    rw [e] at po
    intro ρ' H' x S'
    exact k v ρ' H' h' x S' (Rs.ext x) e (PostG.ext (o := g v h') po x)
  | exc _ _ => rw [e] at po; exact po.elim
  | bad => rw [e] at po; exact po.elim
theorem lA.first {α : Type} {f : PSt → PH → Out (List PV)} {g : List PV → PH → Out α} {R : α → List Addr → Hp → Prop} {Q : List V → Hp → Prop} (S : Sim K ρ h H) (Rs : RepSt K ρ H s σ) (po : PostG K ρ H ((f s h).bnd g) R)
    (k : ∀ v ρ' H' h' u, Ext K ρ H ρ' H' → Sim K ρ' h' H' → RepSt K ρ' H' s σ → f s h = .ok v h' → RepVs K ρ' H' v u → PostG K ρ' H' (g v h') R → Q u H') : lA K f σ H Q := by
  refine ⟨ρ, s, h, S, Rs, ?_⟩
  cases e : f s h with
  | ok v h' =>
    rw [e] at po
    intro ρ' H' x S' u ru
    exact k v ρ' H' h' u x S' (Rs.ext x) e ru (PostG.ext (o := g v h') po x)
  | exc _ _ => rw [e] at po; exact po.elim
  | bad => rw [e] at po; exact po.elim
theorem PostG.okOf {α β : Type} {o : Out α} {g : α → PH → Out β} {R : β → List Addr → Hp → Prop} (po : PostG K ρ H (o.bnd g) R) : ∃ v h', o = .ok v h' ∧ PostG K ρ H (g v h') R := by
  cases o with
  | ok v h' => exact ⟨v, h', rfl, po⟩
  | exc _ _ => exact po.elim
  | bad => exact po.elim
end

/-! ### expressions -/
section
variable {X : Cx} {a b c : Expr} {fa fb fc : PSt → PH → Out PV} {pos : Pos}
theorem _root_.L2.PE.weak {e : Expr} {t t' : TE} (h : PE X e t) (w : ∀ σ H Q, t' σ H Q → t σ H Q) : PE X e t' := ⟨fun pins s σ H Q I q => h.run pins s σ H Q I (w σ H Q q)⟩
theorem _root_.L2.PT.weak {e : Expr} {t t' : TT} (h : PT X e t) (w : ∀ σ H Q, t' σ H Q → t σ H Q) : PT X e t' := ⟨fun pins s σ H Q I q => h.run pins s σ H Q I (w σ H Q q)⟩
theorem _root_.L2.PW.weak {e : Expr} {t t' : TT} (h : PW X e t) (w : ∀ σ H Q, t' σ H Q → t σ H Q) : PW X e t' := ⟨fun wh pins s σ H Q I q => h.run wh pins s σ H Q I (w σ H Q q)⟩
theorem _root_.L2.PA.weak {e : List Expr} {t t' : TA} (h : PA X e t) (w : ∀ σ H Q, t' σ H Q → t σ H Q) : PA X e t' := ⟨fun pos pins s σ H Q I q => h.run pos pins s σ H Q I (w σ H Q q)⟩

theorem se_const {e : Expr} {v : PV} {u : V} (h : PE X e (tC u)) (r : ∀ ρ H, RepV X.K ρ H v u) : PE X e (lE X.K fun _ h => .ok v h) := h.weak fun σ H Q ⟨ρ, s, h, S, R, po⟩ => po.now S (r ρ H)
theorem se_var {x : Str} {i : Nat} (hN : X.N[i]? = some x) (hv : Vis X.env.scope x) (hd : (x == ("__debug__" : Str)) = false) (hcd : (x == ("__classdict__" : Str)) = false) : PE X (.Name x pos) (lE X.K fun s h => slot s i h) :=
  (pe_var hN hv hd hcd).weak fun σ H Q ⟨ρ, s, h, S, R, po⟩ => by
    simp only [slot] at po
    split at po
    · rename_i v e
      obtain ⟨u, e1, r⟩ := R.2 i v e
      exact ⟨u, e1, PostV.now po S r⟩
    · exact po.elim
theorem se_two {r : R2} {g : PV → PV → PH → Out PV} (hr : ∀ ρ H h p q x y Q, Sim X.K ρ h H → RepV X.K ρ H p x → RepV X.K ρ H q y → PostV X.K ρ H (g p q h) Q → r x y H Q) {σ : L2.St} {H : Hp} {Q : VK}
    (h : lE X.K (fun s h => (fa s h).bnd fun x h => (fb s h).bnd fun y h => g x y h) σ H Q) : tOp r (lE X.K fa) (lE X.K fb) σ H Q := by
  obtain ⟨ρ, s, h, S, R, po⟩ := h
  refine lE.first S R po fun v ρ1 H1 h1 u x1 S1 R1 e1 ru po1 => lE.first S1 R1 po1 fun w ρ2 H2 h2 z x2 S2 R2 e2 rz po2 => ?_
  exact hr ρ2 H2 h2 v w u z Q S2 (ru.ext x2) rz po2
theorem se_bin {op : Operator} (ha : PE X a (lE X.K fa)) (hb : PE X b (lE X.K fb)) : PE X (.BinOp a op b pos) (lE X.K fun s h => (fa s h).bnd fun x h => (fb s h).bnd fun y h => binF op x y h) :=
  (pe_op (op_bin op) ha hb).weak fun σ H Q h => se_two (fun ρ H h p q x y Q S rp rq po => ⟨ρ, h, p, q, S, rp, rq, po⟩) h
theorem se_cmp {op : CmpOp} (hu : X.A.units + 65 < cLine) (ha : PE X a (lE X.K fa)) (hb : PE X b (lE X.K fb)) (hm : behindInMarks op b = false) :
    PE X (.Compare a [op] [b] pos) (lE X.K fun s h => (fa s h).bnd fun x h => (fb s h).bnd fun y h => cmpF op x y h) :=
  (pe_cmpR (op_cmp hu op) ha hb hm).weak fun σ H Q h => se_two (fun ρ H h p q x y Q S rp rq po => ⟨ρ, h, p, q, S, rp, rq, po⟩) h
theorem cmpF_bl {op : CmpOp} {x y z : PV} {h h' : PH} (e : cmpF op x y h = .ok z h') : ∃ b, z = .bl b := by
  unfold cmpF at e
  split at e
  · cases q : eqB x y h <;> rw [q] at e <;> first | (cases e; exact ⟨_, rfl⟩) | cases e
  · cases q : eqB x y h <;> rw [q] at e <;> first | (cases e; exact ⟨_, rfl⟩) | cases e
  · cases q : inB x y h <;> rw [q] at e <;> first | (cases e; exact ⟨_, rfl⟩) | cases e
  · cases q : inB x y h <;> rw [q] at e <;> first | (cases e; exact ⟨_, rfl⟩) | cases e
  all_goals (repeat' split at e) <;> first | (cases e; exact ⟨_, rfl⟩) | cases e
theorem st_cmp {op : CmpOp} (hu : X.A.units + 65 < cLine) (ha : PE X a (lE X.K fa)) (hb : PE X b (lE X.K fb)) (hm : behindInMarks op b = false) :
    PT X (.Compare a [op] [b] pos) (lB X.K fun s h => (fa s h).bnd fun x h => (fb s h).bnd fun y h => (cmpF op x y h).bnd asB) :=
  (pt_cmpR (op_cmp hu op) ha hb hm).weak fun σ H Q h => by
    obtain ⟨ρ, s, h, S, R, po⟩ := h
    refine lE.first S R po fun v ρ1 H1 h1 u x1 S1 R1 e1 ru po1 => lE.first S1 R1 po1 fun w ρ2 H2 h2 z x2 S2 R2 e2 rz po2 => ?_
    refine ⟨ρ2, h2, v, w, S2, ru.ext x2, rz, ?_⟩
    obtain ⟨t, h3, e3, po3⟩ := po2.okOf
    rw [e3]
    obtain ⟨k, rfl⟩ := cmpF_bl e3
    intro ρ3 H3 x3 S3 V rV
    exact ⟨k, rV.blV, po3 ρ3 H3 x3 S3⟩
theorem se_cmp2 {op op' : CmpOp} (hu : X.A.units + 65 < cLine) (ha : PE X a (lE X.K fa)) (hb : PE X b (lE X.K fb)) (hc : PE X c (lE X.K fc)) (hm : lastMarks [op, op'] [b, c] = false) :
    PE X (.Compare a [op, op'] [b, c] pos) (lE X.K fun s h => (fa s h).bnd fun x h => (fb s h).bnd fun y h => (cmpF op x y h).bnd fun z h => (asB z h).bnd fun k h =>
      if k = true then (fc s h).bnd fun w h => cmpF op' y w h else .ok (.bl false) h) :=
  (pe_chain (op_cmp hu op) (op_cmp hu op') ha hb hc hm).weak fun σ H Q h => by
    obtain ⟨ρ, s, h, S, R, po⟩ := h
    refine lE.first S R po fun v ρ1 H1 h1 u x1 S1 R1 e1 ru po1 => lE.first S1 R1 po1 fun w ρ2 H2 h2 z x2 S2 R2 e2 rz po2 => ?_
    refine ⟨ρ2, h2, v, w, S2, ru.ext x2, rz, ?_⟩
    obtain ⟨t, h3, e3, po3⟩ := po2.okOf
    rw [e3]
    obtain ⟨k, rfl⟩ := cmpF_bl e3
    intro ρ3 H3 x3 S3 V rV
    refine ⟨k, rV.blV, ?_⟩
    have po4 := PostG.ext po3 x3
    cases k with
    | true =>
      rw [if_pos rfl]
      exact lE.first S3 (R2.ext x3) po4 fun v4 ρ4 H4 h4 u4 x4 S4 R4 e4 ru4 po5 => ⟨ρ4, h4, w, v4, S4, (rz.ext x3).ext x4, ru4, po5⟩
    | false =>
      rw [if_neg Bool.false_ne_true]
      exact PostV.now po4 S3 (.bl false)
theorem st_cmp2 {op op' : CmpOp} (hu : X.A.units + 65 < cLine) (ha : PE X a (lE X.K fa)) (hb : PE X b (lE X.K fb)) (hc : PE X c (lE X.K fc)) (hm : lastMarks [op, op'] [b, c] = false) :
    PT X (.Compare a [op, op'] [b, c] pos) (lB X.K fun s h => (fa s h).bnd fun x h => (fb s h).bnd fun y h => (cmpF op x y h).bnd fun z h => (asB z h).bnd fun k h =>
      if k = true then (fc s h).bnd fun w h => (cmpF op' y w h).bnd asB else .ok false h) :=
  (pt_chain (op_cmp hu op) (op_cmp hu op') ha hb hc hm).weak fun σ H Q h => by
    obtain ⟨ρ, s, h, S, R, po⟩ := h
    refine lE.first S R po fun v ρ1 H1 h1 u x1 S1 R1 e1 ru po1 => lE.first S1 R1 po1 fun w ρ2 H2 h2 z x2 S2 R2 e2 rz po2 => ?_
    refine ⟨ρ2, h2, v, w, S2, ru.ext x2, rz, ?_⟩
    obtain ⟨t, h3, e3, po3⟩ := po2.okOf
    rw [e3]
    obtain ⟨k, rfl⟩ := cmpF_bl e3
    intro ρ3 H3 x3 S3 V rV
    refine ⟨k, rV.blV, ?_⟩
    have po4 := PostG.ext po3 x3
    cases k with
    | true =>
      rw [if_pos rfl]
      refine lE.first S3 (R2.ext x3) po4 fun v4 ρ4 H4 h4 u4 x4 S4 R4 e4 ru4 po5 => ⟨ρ4, h4, w, v4, S4, (rz.ext x3).ext x4, ru4, ?_⟩
      obtain ⟨t5, h5, e5, po6⟩ := po5.okOf
      rw [e5]
      obtain ⟨k5, rfl⟩ := cmpF_bl e5
      intro ρ6 H6 x6 S6 V6 rV6
      exact ⟨k5, rV6.blV, po6 ρ6 H6 x6 S6⟩
    | false =>
      rw [if_neg Bool.false_ne_true]
      exact ⟨false, rfl, PostG.now po4 S3⟩
theorem se_neg (ha : PE X a (lE X.K fa)) : PE X (.UnaryOp .USub a pos) (lE X.K fun s h => (fa s h).bnd fun x h => match x with
    | .int i => .ok (.int (-i)) h
    | _ => .bad) :=
  (pe_un un_neg ha).weak fun σ H Q h => by
    obtain ⟨ρ, s, h, S, R, po⟩ := h
    refine lE.first S R po fun v ρ1 H1 h1 u x1 S1 R1 e1 ru po1 => ?_
    split at po1
    · exact ⟨_, ru.intV, PostV.now po1 S1 (.int _)⟩
    · exact po1.elim

/-! truth -/
theorem truth_V {ρ : List Addr} {H : Hp} {h h' : PH} {p : PV} {v : V} {k : Bool} (S : Sim X.K ρ h H) (r : RepV X.K ρ H p v) (e : truth p h = .ok k h') : h' = h ∧ TruV X.K v H k := by
  unfold truth at e
  cases r with
  | non => cases e; exact ⟨rfl, rfl⟩
  | bl b => cases e; exact ⟨rfl, rfl⟩
  | int i => cases e; exact ⟨rfl, rfl⟩
  | str x =>
    dsimp only at e
    split at e
    · rename_i hz
      cases e
      refine ⟨rfl, hz, ?_⟩
      rw [Bool.eq_iff_iff]
      simp
    · cases e
  | tup q t => cases e; exact ⟨rfl, .inr (.inl ⟨_, q, by rw [t.isEmpty]⟩)⟩
  | fro _ _ => cases e
  | ref ea =>
    dsimp only at e
    split at e
    · rename_i h1
      cases e
      obtain ⟨xs, e1, t⟩ := S.lst h1 ea
      exact ⟨rfl, .inl ⟨_, SqL.of e1, by rw [t.isEmpty]⟩⟩
    · rename_i h1
      cases e
      obtain ⟨xs, e1, t⟩ := S.dic h1 ea
      exact ⟨rfl, .inr (.inr ⟨_, e1, by rw [t.isEmpty]⟩)⟩
    · cases e
theorem truth_P {ρ : List Addr} {H : Hp} {h : PH} {p : PV} {v : V} {α : Type} {g : Bool → PH → Out α} {R : α → List Addr → Hp → Prop} (S : Sim X.K ρ h H) (r : RepV X.K ρ H p v) (po : PostG X.K ρ H ((truth p h).bnd g) R) : ∃ k, TruV X.K v H k ∧ PostG X.K ρ H (g k h) R := by
  obtain ⟨k, h', e, po'⟩ := po.okOf
  obtain ⟨eh, t⟩ := truth_V S r e
  subst eh
  exact ⟨k, t, po'⟩
theorem st_plain (ha : PE X a (lE X.K fa)) (he : ∀ whole, isTrue a X.env whole = (do let v ← whole; standAt a.pos; holding [v] (truthy v))) : PT X a (lB X.K fun s h => (fa s h).bnd truth) :=
  (pt_truth ha he).weak fun σ H Q h => by
    obtain ⟨ρ, s, h, S, R, po⟩ := h
    refine lE.first S R po fun v ρ1 H1 h1 u x1 S1 R1 e1 ru po1 => ?_
    have po1 : PostG X.K ρ1 H1 ((truth v h1).bnd fun k h => .ok k h) fun b _ H' => Q b H' := by
      cases e : truth v h1 <;> rw [e] at po1 <;> exact po1
    obtain ⟨k, t, q⟩ := truth_P S1 ru po1
    exact ⟨k, t, q.now S1⟩
variable {rest : List Expr}
theorem se_and (ha : PE X a (lE X.K fa)) (hb : PE X (.BoolOp .And (b :: rest) pos) (lE X.K fb)) : PE X (.BoolOp .And (a :: b :: rest) pos) (lE X.K fun s h => (fa s h).bnd fun x h => (truth x h).bnd fun k h => if k = true then fb s h else .ok x h) :=
  (pe_andT ha hb).weak fun σ H Q h => by
    obtain ⟨ρ, s, h, S, R, po⟩ := h
    refine lE.first S R po fun v ρ1 H1 h1 u x1 S1 R1 e1 ru po1 => ?_
    obtain ⟨k, t, q⟩ := truth_P S1 ru po1
    refine ⟨k, t, ?_⟩
    cases k with
    | true => rw [if_pos rfl] at q ⊢; exact ⟨ρ1, s, h1, S1, R1, q⟩
    | false => rw [if_neg Bool.false_ne_true] at q ⊢; exact PostV.now q S1 ru
theorem se_or (ha : PE X a (lE X.K fa)) (hb : PE X (.BoolOp .Or (b :: rest) pos) (lE X.K fb)) : PE X (.BoolOp .Or (a :: b :: rest) pos) (lE X.K fun s h => (fa s h).bnd fun x h => (truth x h).bnd fun k h => if k = true then .ok x h else fb s h) :=
  (pe_orT ha hb).weak fun σ H Q h => by
    obtain ⟨ρ, s, h, S, R, po⟩ := h
    refine lE.first S R po fun v ρ1 H1 h1 u x1 S1 R1 e1 ru po1 => ?_
    obtain ⟨k, t, q⟩ := truth_P S1 ru po1
    refine ⟨k, t, ?_⟩
    cases k with
    | true => rw [if_pos rfl] at q ⊢; exact PostV.now q S1 ru
    | false => rw [if_neg Bool.false_ne_true] at q ⊢; exact ⟨ρ1, s, h1, S1, R1, q⟩
theorem se_not (ha : PE X a (lE X.K fa)) : PE X (.UnaryOp .Not a pos) (lE X.K fun s h => (fa s h).bnd fun x h => (truth x h).bnd fun k h => .ok (.bl (!k)) h) :=
  (pe_notT ha).weak fun σ H Q h => by
    obtain ⟨ρ, s, h, S, R, po⟩ := h
    refine lE.first S R po fun v ρ1 H1 h1 u x1 S1 R1 e1 ru po1 => ?_
    obtain ⟨k, t, q⟩ := truth_P S1 ru po1
    exact ⟨k, t, PostV.now q S1 (.bl _)⟩
variable {ga gb gc : PSt → PH → Out Bool}
theorem sw_and (ha : PT X a (lB X.K ga)) (hb : PW X (.BoolOp .And (b :: rest) pos) (lB X.K gb)) : PW X (.BoolOp .And (a :: b :: rest) pos) (lB X.K fun s h => (ga s h).bnd fun k h => if k = true then gb s h else .ok false h) :=
  (pw_and ha hb).weak fun σ H Q h => by
    obtain ⟨ρ, s, h, S, R, po⟩ := h
    refine lB.first S R po fun k ρ1 H1 h1 x1 S1 R1 e1 po1 => ?_
    cases k with
    | true => rw [if_pos rfl] at po1 ⊢; exact ⟨ρ1, s, h1, S1, R1, po1⟩
    | false => rw [if_neg Bool.false_ne_true] at po1 ⊢; exact po1.now S1
theorem sw_or (ha : PT X a (lB X.K ga)) (hb : PW X (.BoolOp .Or (b :: rest) pos) (lB X.K gb)) : PW X (.BoolOp .Or (a :: b :: rest) pos) (lB X.K fun s h => (ga s h).bnd fun k h => if k = true then .ok true h else gb s h) :=
  (pw_or ha hb).weak fun σ H Q h => by
    obtain ⟨ρ, s, h, S, R, po⟩ := h
    refine lB.first S R po fun k ρ1 H1 h1 x1 S1 R1 e1 po1 => ?_
    cases k with
    | true => rw [if_pos rfl] at po1 ⊢; exact po1.now S1
    | false => rw [if_neg Bool.false_ne_true] at po1 ⊢; exact ⟨ρ1, s, h1, S1, R1, po1⟩
theorem st_not (ha : PT X a (lB X.K ga)) : PT X (.UnaryOp .Not a pos) (lB X.K fun s h => (ga s h).bnd fun k h => .ok (!k) h) :=
  (pt_not ha).weak fun σ H Q h => by
    obtain ⟨ρ, s, h, S, R, po⟩ := h
    exact lB.first S R po fun k ρ1 H1 h1 x1 S1 R1 e1 po1 => po1.now S1
theorem se_ite (hc : PT X c (lB X.K gc)) (ha : PE X a (lE X.K fa)) (hb : PE X b (lE X.K fb)) : PE X (.IfExp c a b pos) (lE X.K fun s h => (gc s h).bnd fun k h => if k = true then fa s h else fb s h) :=
  (pe_ifExp hc ha hb).weak fun σ H Q h => by
    obtain ⟨ρ, s, h, S, R, po⟩ := h
    refine lB.first S R po fun k ρ1 H1 h1 x1 S1 R1 e1 po1 => ?_
    cases k with
    | true => rw [if_pos rfl] at po1 ⊢; exact ⟨ρ1, s, h1, S1, R1, po1⟩
    | false => rw [if_neg Bool.false_ne_true] at po1 ⊢; exact ⟨ρ1, s, h1, S1, R1, po1⟩
/-! displays -/
variable {es : List Expr} {fs : PSt → PH → Out (List PV)}
theorem sa_nil : PA X [] (lA X.K fun _ h => .ok [] h) := pa_nil.weak fun σ H Q ⟨ρ, s, h, S, R, po⟩ => po ρ H .refl S [] .nil
theorem sa_cons (ha : PE X a (lE X.K fa)) (hr : PA X es (lA X.K fs)) (hs : starEach (a :: es) X.env = (false, eval a X.env) :: starEach es X.env) : PA X (a :: es) (lA X.K fun s h => (fa s h).bnd fun x h => (fs s h).bnd fun xs h => .ok (x :: xs) h) :=
  (pa_cons ha hr hs).weak fun σ H Q h => by
    obtain ⟨ρ, s, h, S, R, po⟩ := h
    refine lE.first S R po fun v ρ1 H1 h1 u x1 S1 R1 e1 ru po1 => ?_
    refine lA.first S1 R1 po1 fun w ρ2 H2 h2 z x2 S2 R2 e2 rz po2 => ?_
    exact po2 ρ2 H2 .refl S2 _ (.cons (ru.ext x2) rz)
theorem se_tup {k : Nat} (h : PA X es (lA X.K fs)) : PE X (.Tuple es k pos) (lE X.K fun s h => (fs s h).bnd fun xs h => if xs.length ≤ sizeLine then .ok (.tup xs) h else .bad) :=
  (pe_tup h).weak fun σ H Q h => by
    obtain ⟨ρ, s, h, S, R, po⟩ := h
    refine lA.first S R po fun v ρ1 H1 h1 u x1 S1 R1 e1 ru po1 => ?_
    split at po1
    · rename_i hz
      exact ⟨by rw [← ru.length]; exact hz, PostV.tup po1 S1 ru⟩
    · exact po1.elim
theorem se_lst (h : PA X es (lA X.K fs)) : PE X (.List es pos) (lE X.K fun s h => (fs s h).bnd fun xs h => if xs.length ≤ sizeLine then new (.lst xs) h else .bad) :=
  (pe_lst h).weak fun σ H Q h => by
    obtain ⟨ρ, s, h, S, R, po⟩ := h
    refine lA.first S R po fun v ρ1 H1 h1 u x1 S1 R1 e1 ru po1 => ?_
    split at po1
    · rename_i hz
      exact ⟨by rw [← ru.length]; exact hz, PostV.newL po1 S1 ru⟩
    · exact po1.elim
/-! subscripts -/
theorem se_sub (hu : X.A.units + 65 < cLine) (ha : PE X a (lE X.K fa)) (hb : PE X b (lE X.K fb)) (hs : PlainIx b) : PE X (.Subscript a b pos) (lE X.K fun s h => (fa s h).bnd fun x h => (fb s h).bnd fun y h => subF x y h) := by
  refine ⟨fun pins s σ H Q I h => ?_⟩
  obtain ⟨ρ, s', h, S, R, po⟩ := h
  obtain ⟨p, h1, e1, po1⟩ := po.okOf
  obtain ⟨q, h2, e2, po2⟩ := po1.okOf
  have two : ∀ {r : V → V → Hp → Prop}, (∀ ρ2 H2 x y, Sim X.K ρ2 h2 H2 → RepV X.K ρ2 H2 p x → RepV X.K ρ2 H2 q y → PostV X.K ρ2 H2 (subF p q h2) Q → r x y H2) → lE X.K fa σ H fun x H1 => lE X.K fb σ H1 fun y H2 => r x y H2 := fun {r} k => by
    refine lE.first S R po fun v ρ1 H1 h1' u x1 S1 R1 e1' ru po1 => lE.first S1 R1 po1 fun w ρ2 H2 h2' z x2 S2 R2 e2' rz po2 => ?_
    rw [e1] at e1'; cases e1'
    rw [e2] at e2'; cases e2'
    exact k ρ2 H2 u z S2 (ru.ext x2) rz po2
  have item : ∀ {ρ2 H2 ps vs y}, RepVs X.K ρ2 H2 ps vs → Sim X.K ρ2 h2 H2 → RepV X.K ρ2 H2 q y → PostV X.K ρ2 H2 (itemF ps q h2) Q → ∃ i v, y = .int i ∧ atI vs i = some v ∧ Q v H2 := fun {ρ2 H2 ps vs y} r S2 ry po => by
    unfold itemF at po
    split at po
    · rename_i i
      split at po
      · rename_i v ev
        obtain ⟨j, hj, hv⟩ := Option.bind_eq_some_iff.mp ev
        obtain ⟨u, hu', ru⟩ := r.get hv
        exact ⟨i, u, ry.intV, by unfold atI; rw [← r.length]; exact Option.bind_eq_some_iff.mpr ⟨j, hj, hu'⟩, PostV.now po S2 ru⟩
      · exact po.elim
    · exact po.elim
  have dict : ∀ kvs, (∀ ρ2 H2 x, Sim X.K ρ2 h2 H2 → RepV X.K ρ2 H2 p x → ∃ a ks, x = .ref a ∧ Rd H2 a (.dK ks) ∧ RepKs X.K ρ2 H2 kvs ks) → subF p q h2 = lookF kvs q h2 →
      wpAny (model X.prog X.w) X.A (eval (.Subscript a b pos) X.env) (EP X pins σ Q) X.xe s := fun kvs hk hv => by
    refine (pe_dget (by omega) ha hb (fun _ _ => hs _ _)).run pins s σ H Q I (two fun ρ2 H2 x y S2 rx ry po => ?_)
    obtain ⟨a, ks, ex, rd, rk⟩ := hk ρ2 H2 x S2 rx
    rw [hv] at po
    unfold lookF at po
    split at po
    · rename_i k1
      split at po
      · rename_i v k2
        obtain ⟨kk, ek⟩ := keyOf_some k1
        obtain ⟨u, hu', ru⟩ := (rk.get ek).1 v k2
        exact ⟨a, u, ex, .inl ⟨ks, kk, rd, keyOf_V ek ry, hu'.symm⟩, PostV.now po S2 ru⟩
      · exact po.elim
    · exact po.elim
  cases p with
  | tup ps =>
    refine (pe_ix ix_tup ha hb hs).run pins s σ H Q I (two fun ρ2 H2 x y S2 rx ry po => ?_)
    cases rx with
    | tup q1 r1 =>
      obtain ⟨i, v, h1, h2, h3⟩ := item r1 S2 ry po
      exact ⟨_, _, _, v, rfl, h1, q1, h2, h3⟩
  | str x =>
    refine (pe_ix ix_str ha hb hs).run pins s σ H Q I (two fun ρ2 H2 u y S2 rx ry po => ?_)
    simp only [subF] at po
    split at po <;> try exact po.elim
    rename_i i
    split at po <;> try exact po.elim
    rename_i hz
    split at po <;> try exact po.elim
    rename_i c ev
    exact ⟨x, _, c, rx.strV, ry.intV, hz, by unfold atI; rw [Array.length_toList]; exact ev, PostV.now po S2 (.str _)⟩
  | ref l =>
    cases e : h2[l]? with
    | none => simp only [subF, e] at po2; exact po2.elim
    | some o =>
      cases o with
      | lst ps =>
        refine (pe_ix ix_list ha hb hs).run pins s σ H Q I (two fun ρ2 H2 x y S2 rx ry po => ?_)
        cases rx with
        | ref ea =>
          obtain ⟨xs, e3, r1⟩ := S2.lst e ea
          simp only [subF, e] at po
          obtain ⟨i, v, h1, h2, h3⟩ := item r1 S2 ry po
          exact ⟨_, _, _, v, rfl, h1, SqL.of e3, h2, h3⟩
      | dic kvs =>
        refine dict kvs (fun ρ2 H2 x S2 rx => ?_) (by simp only [subF, e])
        cases rx with
        | ref ea => obtain ⟨ks, e3, r3⟩ := S2.dic e ea; exact ⟨_, ks, rfl, .inl e3, r3⟩
      | lck kvs =>
        refine dict kvs (fun ρ2 H2 x S2 rx => ?_) (by simp only [subF, e])
        cases rx with
        | ref ea => obtain ⟨o, ks, e3, r3⟩ := S2.lck e ea; exact ⟨_, ks, rfl, .inr ⟨o, e3⟩, r3⟩
      | ins _ _ => simp only [subF, e] at po2; exact po2.elim
  | non => simp only [subF] at po2; exact po2.elim
  | bl _ => simp only [subF] at po2; exact po2.elim
  | int _ => simp only [subF] at po2; exact po2.elim
  | fro _ => simp only [subF] at po2; exact po2.elim
/-! slices -/
theorem sp_none : L2.PO X none (lP X.K fun _ h => .ok none h) := ⟨fun pins s σ H Q I ⟨ρ, s', h, S, R, po⟩ => po_none.run pins s σ H Q I (po.now S)⟩
theorem sp_some (ha : PE X a (lE X.K fa)) : L2.PO X (some a) (lP X.K fun s h => (fa s h).bnd fun x h => match x with
    | .int i => .ok (some i) h
    | _ => .bad) := ⟨fun pins s σ H Q I ⟨ρ, s', h, S, R, po⟩ => (po_some ha).run pins s σ H Q I (by
  refine lE.first S R po fun v ρ1 H1 h1 u x1 S1 R1 e1 ru po1 => ?_
  split at po1
  · exact ⟨_, ru.intV, po1.now S1⟩
  · exact po1.elim)⟩
theorem cut_rep {ρ : List Addr} {H : Hp} {ps : List PV} {vs : List V} (r : RepVs X.K ρ H ps vs) (lo hi : Option Int) : RepVs X.K ρ H (cutP ps lo hi) (cutV vs lo hi) := by
  unfold cutP cut cutV
  rw [r.length]
  exact (r.drop _).take _
theorem se_slc {lo hi : Option Expr} {fl fh : PSt → PH → Out (Option Int)} {p2 : Pos} (ha : PE X a (lE X.K fa)) (hl : L2.PO X lo (lP X.K fl)) (hh : L2.PO X hi (lP X.K fh)) :
    PE X (.Subscript a (.Slice lo hi none p2) pos) (lE X.K fun s h => (fa s h).bnd fun x h => (fl s h).bnd fun y h => (fh s h).bnd fun z h => slcF x y z h) := by
  refine ⟨fun pins s σ H Q I h => ?_⟩
  refine (pe_slice (sl_list.or sl_tupA) ha hl hh).run pins s σ H Q I ?_
  obtain ⟨ρ, s', h, S, R, po⟩ := h
  refine lE.first S R po fun v ρ1 H1 h1 u x1 S1 R1 e1 ru po1 => lP.first S1 R1 po1 fun l ρ2 H2 h2 x2 S2 R2 e2 po2 => lP.first S2 R2 po2 fun k ρ3 H3 h3 x3 S3 R3 e3 po3 => ?_
  have ru := (ru.ext x2).ext x3
  unfold slcF at po3
  split at po3
  · cases ru with
    | tup q r =>
      refine .inr ⟨_, _, rfl, q, fun e => ?_, fun _ => PostV.tup po3 S3 (cut_rep r l k)⟩
      refine PostV.now po3 S3 (.tup q ?_)
      have := cut_rep r l k
      rename_i vs0
      have e2 : cutV vs0 l k = vs0 := by
        unfold cutV
        rw [e.1, e.2]
        simp
      rw [e2] at this
      exact this
  · cases ru with
    | ref ea =>
      split at po3
      · rename_i h4
        obtain ⟨xs, e4, r⟩ := S3.lst h4 ea
        exact .inl ⟨_, xs, rfl, SqL.of e4, PostV.newL po3 S3 (cut_rep r l k)⟩
      · exact po3.elim
  · exact po3.elim
end
end MP

set_option Elab.async false
set_option linter.all false
set_option maxRecDepth 100000
set_option maxHeartbeats 1000000
namespace MP
open PySem PySem.Spec PyProof.Rows L2

/-! sorting, least, greatest -/
theorem insI_perm (x : Int) : ∀ l : List Int, (insI x l).Perm (x :: l)
  | [] => .refl _
  | y :: r => by
    unfold insI
    split
    · exact .refl _
    · exact ((insI_perm x r).cons y).trans (.swap x y r)
theorem sortI_perm : ∀ l : List Int, (sortI l).Perm l
  | [] => .refl _
  | x :: r => (insI_perm x _).trans ((sortI_perm r).cons x)
theorem insI_sorted (x : Int) : ∀ l : List Int, l.Pairwise (· ≤ ·) → (insI x l).Pairwise (· ≤ ·)
  | [], _ => by simp [insI]
  | y :: r, h => by
    have h' := List.pairwise_cons.mp h
    unfold insI
    split
    · rename_i hx
      refine List.pairwise_cons.mpr ⟨fun z hz => ?_, h⟩
      rcases List.mem_cons.mp hz with e | e
      · omega
      · have := h'.1 z e; omega
    · rename_i hx
      refine List.pairwise_cons.mpr ⟨fun z hz => ?_, insI_sorted x r h'.2⟩
      rcases List.mem_cons.mp ((insI_perm x r).mem_iff.mp hz) with e | e
      · omega
      · exact h'.1 z e
theorem sortI_sorted : ∀ l : List Int, (sortI l).Pairwise (· ≤ ·)
  | [] => List.Pairwise.nil
  | x :: r => insI_sorted x _ (sortI_sorted r)
theorem sorted_one : ∀ {a b : List Int}, a.Perm b → a.Pairwise (· ≤ ·) → b.Pairwise (· ≤ ·) → a = b
  | [], b, p, _, _ => by rw [List.nil_perm.mp p]
  | x :: r, b, p, ha, hb => by
    cases b with
    | nil => exact absurd p.symm (by simp)
    | cons y t =>
      have h1 := List.pairwise_cons.mp ha
      have h2 := List.pairwise_cons.mp hb
      have e : x = y := by
        have m1 : x ∈ y :: t := p.mem_iff.mp (by simp)
        have m2 : y ∈ x :: r := p.mem_iff.mpr (by simp)
        rcases List.mem_cons.mp m1 with e | e
        · exact e
        · rcases List.mem_cons.mp m2 with e' | e'
          · exact e'.symm
          · have := h1.1 y e'; have := h2.1 x e; omega
      subst e
      rw [sorted_one (List.perm_cons x |>.mp p) h1.2 h2.2]
theorem minI_spec : ∀ (l : List Int) (m : Int), minI l m ∈ m :: l ∧ ∀ y ∈ m :: l, minI l m ≤ y
  | [], m => by simp [minI]
  | x :: r, m => by
    obtain ⟨h1, h2⟩ := minI_spec r (if x < m then x else m)
    simp only [minI]
    constructor
    · rcases List.mem_cons.mp h1 with e | e
      · rw [e]; split <;> simp
      · simp [e]
    · intro y hy
      have h3 := h2 (if x < m then x else m) (by simp)
      rcases List.mem_cons.mp hy with e | e
      · split at h3 <;> rename_i hx <;> simp only [hx, if_true, if_false] <;> omega
      · rcases List.mem_cons.mp e with e | e
        · split at h3 <;> rename_i hx <;> simp only [hx, if_true, if_false] <;> omega
        · exact h2 y (by simp [e])
theorem maxI_spec : ∀ (l : List Int) (m : Int), maxI l m ∈ m :: l ∧ ∀ y ∈ m :: l, y ≤ maxI l m
  | [], m => by simp [maxI]
  | x :: r, m => by
    obtain ⟨h1, h2⟩ := maxI_spec r (if m < x then x else m)
    simp only [maxI]
    constructor
    · rcases List.mem_cons.mp h1 with e | e
      · rw [e]; split <;> simp
      · simp [e]
    · intro y hy
      have h3 := h2 (if m < x then x else m) (by simp)
      rcases List.mem_cons.mp hy with e | e
      · split at h3 <;> rename_i hx <;> simp only [hx, if_true, if_false] <;> omega
      · rcases List.mem_cons.mp e with e | e
        · split at h3 <;> rename_i hx <;> simp only [hx, if_true, if_false] <;> omega
        · exact h2 y (by simp [e])

/-! built-in functions -/
def Bi.name : Bi → Str
  | .len => "len" | .abs => "abs" | .int => "int" | .bool => "bool" | .max => "max" | .min => "min" | .list => "list" | .tuple => "tuple" | .sorted => "sorted"
  | .sum => "sum" | .any => "any" | .all => "all" | .dict => "dict" | .isStr => "str" | .isTuple => "reversed" | .isBool => "set" | .isInt => "repr" | _ => "isinstance"
def Bi.val : Bi → Value
  | .len => .builtin "len" | .abs => .builtin "abs" | .int => .type "int" | .bool => .type "bool" | .max => .builtin "max" | .min => .builtin "min" | .list => .type "list" | .tuple => .type "tuple" | .sorted => .builtin "sorted"
  | .sum => .builtin "sum" | .any => .builtin "any" | .all => .builtin "all" | .dict => .type "dict" | .isStr => .type "str" | .isTuple => .type "reversed" | .isBool => .type "set" | .isInt => .builtin "repr" | _ => .builtin "isinstance"
section
variable {X : Cx} {K : Fg} {ρ : List Addr} {H : Hp} {h : PH}
theorem RepVs.one {x : PV} {vs : List V} (r : RepVs K ρ H [x] vs) : ∃ v, vs = [v] ∧ RepV K ρ H x v := by
  cases r with
  | cons q t => cases t; exact ⟨_, rfl, q⟩
theorem RepVs.two {x y : PV} {vs : List V} (r : RepVs K ρ H [x, y] vs) : ∃ v w, vs = [v, w] ∧ RepV K ρ H x v ∧ RepV K ρ H y w := by
  cases r with
  | cons q t => obtain ⟨w, rfl, q'⟩ := t.one; exact ⟨_, w, rfl, q, q'⟩
theorem lstAt_V (S : Sim K ρ h H) {x : PV} {v : V} {ps : List PV} (e : lstAt h x = some ps) (r : RepV K ρ H x v) : ∃ a xs, v = .ref a ∧ H a = some (.lst xs) ∧ RepVs K ρ H ps xs := by
  unfold lstAt at e
  split at e
  · split at e
    · rename_i h1
      cases e
      cases r with
      | ref ea => obtain ⟨xs, e1, r1⟩ := S.lst h1 ea; exact ⟨_, xs, rfl, e1, r1⟩
    · cases e
  · cases e
theorem ints_V (S : Sim K ρ h H) {x : PV} {v : V} {ns : List Int} (e : (lstAt h x).bind intsOf = some ns) (r : RepV K ρ H x v) : ∃ a, v = .ref a ∧ H a = some (.lst (ns.map V.int)) := by
  obtain ⟨ps, e1, e2⟩ := Option.bind_eq_some_iff.mp e
  obtain ⟨a, xs, ev, e3, r3⟩ := lstAt_V S e1 r
  rw [r3.ints e2] at e3
  exact ⟨a, ev, e3⟩
theorem bools_V (S : Sim K ρ h H) {x : PV} {v : V} {ns : List Bool} (e : (lstAt h x).bind boolsOf = some ns) (r : RepV K ρ H x v) : ∃ a, v = .ref a ∧ H a = some (.lst (ns.map V.bl)) := by
  obtain ⟨ps, e1, e2⟩ := Option.bind_eq_some_iff.mp e
  obtain ⟨a, xs, ev, e3, r3⟩ := lstAt_V S e1 r
  rw [r3.bools e2] at e3
  exact ⟨a, ev, e3⟩
theorem call_bi (hc : X.calm = true) (f : Bi) : CallR X f.val (lC X.K (biF f)) := by
  intro pins s σ H xs us Q I rv h
  obtain ⟨ρ, h, ps, S, r, po⟩ := h
  unfold biF at po
  split at po
  · -- len
    split at po
    · obtain ⟨v, rfl, q⟩ := r.one
      split at po
      · rename_i hz
        cases q
        exact call_len pins s σ H _ us Q I rv ⟨_, _, rfl, ⟨hz, rfl⟩, PostV.now po S (.int _)⟩
      · exact po.elim
    · obtain ⟨v, rfl, q⟩ := r.one
      cases q with
      | tup q1 r1 => exact call_len pins s σ H _ us Q I rv ⟨_, _, rfl, .inr ⟨_, q1, rfl⟩, by rw [← r1.length]; exact PostV.now po S (.int _)⟩
    · obtain ⟨v, rfl, q⟩ := r.one
      split at po
      · rename_i h1
        cases q with
        | ref ea =>
          obtain ⟨vs, e1, r1⟩ := S.lst h1 ea
          exact call_len pins s σ H _ us Q I rv ⟨_, _, rfl, .inl ⟨_, SqL.of e1, rfl⟩, by rw [← r1.length]; exact PostV.now po S (.int _)⟩
      · rename_i h1
        cases q with
        | ref ea =>
          obtain ⟨vs, e1, r1⟩ := S.dic h1 ea
          exact call_lenD pins s σ H _ us Q I rv ⟨_, _, rfl, e1, by rw [← r1.length]; exact PostV.now po S (.int _)⟩
      · exact po.elim
    · exact po.elim
  · -- abs
    split at po
    · obtain ⟨v, rfl, q⟩ := r.one
      cases q
      exact call_abs pins s σ H _ us Q I rv ⟨_, rfl, PostV.now po S (.int _)⟩
    · exact po.elim
  · -- int
    split at po
    · obtain ⟨v, rfl, q⟩ := r.one
      cases q
      exact call_int1 pins s σ H _ us Q I rv (.inl ⟨_, rfl, PostV.now po S (.int _)⟩)
    · obtain ⟨v, rfl, q⟩ := r.one
      cases q
      exact call_int1 pins s σ H _ us Q I rv (.inr ⟨_, rfl, PostV.now po S (.int _)⟩)
    · exact po.elim
  · -- bool
    split at po
    · obtain ⟨v, rfl, q⟩ := r.one
      cases q
      exact call_bool1 pins s σ H _ us Q I rv (.inl ⟨_, rfl, PostV.now po S (.bl _)⟩)
    · obtain ⟨v, rfl, q⟩ := r.one
      cases q
      exact call_bool1 pins s σ H _ us Q I rv (.inr ⟨_, rfl, PostV.now po S (.bl _)⟩)
    · exact po.elim
  · -- max
    split at po
    · obtain ⟨v, w, rfl, q, q'⟩ := r.two
      cases q; cases q'
      exact call_max2 hc pins s σ H _ us Q I rv ⟨_, _, rfl, PostV.now po S (.int _)⟩
    · obtain ⟨v, rfl, q⟩ := r.one
      split at po
      · rename_i a t e1
        obtain ⟨p, rfl, e2⟩ := ints_V S e1 q
        refine cr_max hc pins s σ H _ us Q I rv ⟨_, a :: t, rfl, SqL.of e2, by simp, fun m hm hy => ?_⟩
        obtain ⟨h1, h2⟩ := maxI_spec t a
        have e : m = maxI t a := Int.le_antisymm (h2 m hm) (hy _ h1)
        rw [e]
        exact PostV.now po S (.int _)
      · exact po.elim
    · exact po.elim
  · -- min
    split at po
    · obtain ⟨v, w, rfl, q, q'⟩ := r.two
      cases q; cases q'
      exact call_min2 hc pins s σ H _ us Q I rv ⟨_, _, rfl, PostV.now po S (.int _)⟩
    · obtain ⟨v, rfl, q⟩ := r.one
      split at po
      · rename_i h1
        cases q with
        | ref ea =>
          obtain ⟨vs, e1, r1⟩ := S.lst h1 ea
          split at po
          · rename_i a t e2
            rw [r1.ints e2] at e1
            refine cr_min hc pins s σ H _ us Q I rv ⟨_, a :: t, rfl, SqL.of e1, by simp, fun m hm hy => ?_⟩
            obtain ⟨h1, h2⟩ := minI_spec t a
            have e : m = minI t a := Int.le_antisymm (hy _ h1) (h2 m hm)
            rw [e]
            exact PostV.now po S (.int _)
          · exact po.elim
      · rename_i h1
        cases q with
        | ref ea =>
          obtain ⟨vs, e1, r1⟩ := S.dic h1 ea
          split at po
          · rename_i a t e2
            refine cr_minK hc pins s σ H _ us Q I rv ⟨_, vs, a :: t, rfl, e1, r1.intKeys e2, by simp, fun m hm hy => ?_⟩
            obtain ⟨h1, h2⟩ := minI_spec t a
            have e : m = minI t a := Int.le_antisymm (hy _ h1) (h2 m hm)
            rw [e]
            exact PostV.now po S (.int _)
          · exact po.elim
      · exact po.elim
    · exact po.elim
  · -- list
    split at po
    · obtain ⟨v, rfl, q⟩ := r.one
      cases q with
      | tup q1 r1 => exact call_list_of pins s σ H _ us Q I rv ⟨_, _, rfl, .inr q1, PostV.newL po S r1⟩
    · obtain ⟨v, rfl, q⟩ := r.one
      split at po
      · rename_i h1
        cases q with
        | ref ea =>
          obtain ⟨vs, e1, r1⟩ := S.lst h1 ea
          exact call_list_of pins s σ H _ us Q I rv ⟨_, _, rfl, .inl (SqL.of e1), PostV.newL po S r1⟩
      · rename_i h1
        cases q with
        | ref ea =>
          obtain ⟨vs, e1, r1⟩ := S.dic h1 ea
          exact call_list_dK hc pins s σ H _ us Q I rv ⟨_, _, rfl, e1, PostV.newL po S r1.keys⟩
      · exact po.elim
    · exact po.elim
  · -- tuple
    split at po
    · obtain ⟨v, rfl, q⟩ := r.one
      cases q with
      | tup q1 r1 => exact call_tuple_of pins s σ H _ us Q I rv ⟨_, _, rfl, .inr ⟨q1, PostV.now po S (.tup q1 r1)⟩⟩
    · obtain ⟨v, rfl, q⟩ := r.one
      split at po
      · rename_i h1
        cases q with
        | ref ea =>
          obtain ⟨vs, e1, r1⟩ := S.lst h1 ea
          exact call_tuple_of pins s σ H _ us Q I rv ⟨_, _, rfl, .inl ⟨SqL.of e1, PostV.tup po S r1⟩⟩
      · exact po.elim
    · exact po.elim
  · -- sorted
    split at po
    · obtain ⟨v, rfl, q⟩ := r.one
      split at po
      · rename_i ns e1
        obtain ⟨p, rfl, e2⟩ := ints_V S e1 q
        refine cr_sortedI pins s σ H _ us Q I rv ⟨_, ns, rfl, SqL.of e2, fun ns' p hp hs hn => ?_⟩
        have e : ns' = sortI ns := sorted_one (hp.trans (sortI_perm ns).symm) hs (sortI_sorted ns)
        rw [e]
        exact PostV.newL po S (RepVs.ofInts _) p hn
      · split at po
        · rename_i x _ _ ns e1
          obtain ⟨ps, d1, d2⟩ := Option.bind_eq_some_iff.mp e1
          split at po <;> try exact po.elim
          rename_i h64
          unfold dicAt at d1
          split at d1 <;> try (cases d1; done)
          split at d1 <;> try (cases d1; done)
          rename_i kvs hl
          cases d1
          cases q with
          | ref ea =>
            obtain ⟨ks, e2, r2⟩ := S.dic hl ea
            refine call_sortedDI hc pins s σ H _ us Q I rv ⟨_, ks, ns, rfl, .inl e2, r2.intKeys d2, h64, fun ys p hp hs hn => ?_⟩
            have e : ys = sortI ns := sorted_one (hp.trans (sortI_perm ns).symm) hs (sortI_sorted ns)
            rw [e]
            exact PostV.newL po S (RepVs.ofInts _) p hn
        · exact po.elim
    · exact po.elim
  · -- sum
    split at po
    · obtain ⟨v, rfl, q⟩ := r.one
      split at po
      · rename_i ns e1
        obtain ⟨p, rfl, e2⟩ := ints_V S e1 q
        exact cr_sum hc pins s σ H _ us Q I rv ⟨_, ns, rfl, SqL.of e2, PostV.now po S (.int _)⟩
      · exact po.elim
    · exact po.elim
  · -- any
    split at po
    · obtain ⟨v, rfl, q⟩ := r.one
      split at po
      · rename_i ns e1
        obtain ⟨p, rfl, e2⟩ := bools_V S e1 q
        exact cr_any hc pins s σ H _ us Q I rv ⟨_, ns, rfl, SqL.of e2, PostV.now po S (.bl _)⟩
      · exact po.elim
    · exact po.elim
  · -- all
    split at po
    · obtain ⟨v, rfl, q⟩ := r.one
      split at po
      · rename_i ns e1
        obtain ⟨p, rfl, e2⟩ := bools_V S e1 q
        exact cr_all hc pins s σ H _ us Q I rv ⟨_, ns, rfl, SqL.of e2, PostV.now po S (.bl _)⟩
      · exact po.elim
    · exact po.elim
  · -- dict
    split at po
    · obtain ⟨v, rfl, q⟩ := r.one
      split at po
      · rename_i kvs e1
        cases q with
        | ref ea =>
          have fin : ∀ {ks}, RepKs X.K ρ H kvs ks → ∀ a, H a = none → Q (.ref a) (upd H a (.dK ks)) := fun {ks} r1 => PostV.new po S fun a ha => ⟨ks, upd_same, r1.ext (Ext.push ha)⟩
          unfold dAt at e1
          split at e1
          · rename_i h1
            cases e1
            obtain ⟨vs, e1, r1⟩ := S.dic h1 ea
            exact call_dictD pins s σ H _ us Q I rv ⟨_, _, rfl, .inl e1, fin r1⟩
          · rename_i h1
            cases e1
            obtain ⟨o, vs, e1, r1⟩ := S.lck h1 ea
            exact call_dictD pins s σ H _ us Q I rv ⟨_, _, rfl, .inr ⟨o, e1⟩, fin r1⟩
          · cases e1
      · exact po.elim
    · exact po.elim
  · exact po.elim
theorem Bi.boot (f : Bi) : bootBuiltins f.name = some f.val := by cases f <;> decide +kernel
theorem se_bi {f : Bi} {e : Expr} {es : List Expr} {fs : PSt → PH → Out (List PV)} {p pos : Pos} (hc : X.calm = true) (hg : Gl X f.name) (hm : X.mg f.name = none) (ha : PA X (e :: es) (lA X.K fs))
    (he : starEach (e :: es) X.env = (false, eval e X.env) :: starEach es X.env) (hpl : (backTo pos (starEach es X.env)).any (·.1) = false) : PE X (.Call (.Name f.name p) (e :: es) [] pos) (lE X.K fun s h => (fs s h).bnd fun xs h => biF f xs h) := by
  have hn : f.name ≠ "__name__" := by cases f <;> decide
  have hd : (f.name == ("__debug__" : Str)) = false := by cases f <;> decide
  have w : ∀ σ H Q, lE X.K (fun s h => (fs s h).bnd fun xs h => biF f xs h) σ H Q → tCB (lC X.K (biF f)) (lA X.K fs) σ H Q := fun σ H Q h => by
    obtain ⟨ρ, s, h, S, R, po⟩ := h
    exact lA.first S R po fun v ρ1 H1 h1 u x1 S1 R1 e1 ru po1 => ⟨ρ1, h1, v, S1, ru, po1⟩
  have hv := f.boot
  have k := call_bi hc f
  cases hval : f.val with
  | builtin id =>
    rw [hval] at hv k
    exact (pe_callB k hg hm hv ha hn hd he hpl).weak w
  | type T =>
    rw [hval] at hv k
    exact (pe_callTy k hg hm hv ha hn hd he hpl).weak w
  | _ => cases f <;> simp [Bi.val] at hval
end
end MP

set_option Elab.async false
set_option linter.all false
set_option maxRecDepth 100000
set_option maxHeartbeats 1000000
namespace MP
open PySem PySem.Spec PyProof.Rows L2

theorem Out.bnd_bnd {α β γ : Type} (o : Out α) (f : α → PH → Out β) (g : β → PH → Out γ) : (o.bnd f).bnd g = o.bnd fun x h => (f x h).bnd g := by
  cases o <;> rfl
def Mt.name : Mt → Str
  | .append => "append" | .extend => "extend" | .pop => "pop" | .get => "get" | .values => "values" | .items => "items" | .keys => "keys" | .index => "index" | .insert => "insert" | .setdefault => "setdefault"

section
variable {X : Cx} {o e e' : Expr} {fo f1 f2 : PSt → PH → Out PV} {apos pos : Pos}
theorem kind_lst {K : Fg} {ρ : List Addr} {H : Hp} {h : PH} {l : Nat} {v : V} (S : Sim K ρ h H) (r : RepV K ρ H (.ref l) v) (k : kind (.ref l) h = 1) : tyV K "list" v H := by
  unfold kind at k
  dsimp only at k
  split at k <;> try (simp at k; done)
  rename_i xs h1
  cases r with
  | ref ea => obtain ⟨ys, e1, r1⟩ := S.lst h1 ea; exact .inl ⟨rfl, _, SqL.of e1⟩
theorem kind_dic {K : Fg} {ρ : List Addr} {H : Hp} {h : PH} {l : Nat} {v : V} (S : Sim K ρ h H) (r : RepV K ρ H (.ref l) v) (k : kind (.ref l) h = 2) : ∃ a, v = .ref a ∧ IsD H a := by
  unfold kind at k
  dsimp only at k
  split at k <;> try (simp at k; done)
  · rename_i xs h1
    cases r with
    | ref ea => obtain ⟨ys, e1, r1⟩ := S.dic h1 ea; exact ⟨_, rfl, .inl ⟨_, .inl e1⟩⟩
  · rename_i xs h1
    cases r with
    | ref ea => obtain ⟨o, ys, e1, r1⟩ := S.lck h1 ea; exact ⟨_, rfl, .inl ⟨_, .inr ⟨o, e1⟩⟩⟩
/-- a write at a place -/
theorem PostV.wrote {K : Fg} {ρ : List Addr} {H : Hp} {h : PH} {l : Nat} {a : Addr} {v : PV} {u : V} {po : PO} {ho : HO} {Q : VK} (p : PostV K ρ H (.ok v (h.set l po)) Q) (S : Sim K ρ h H) (e : ρ[l]? = some a) (rv : RepV K ρ H v u)
    (r : RepO K ρ (upd H a ho) po a) (hm : ∀ ob w, H a ≠ some (.frz ob w)) : Q u (upd H a ho) := p ρ _ (Ext.set S e hm) (S.set e r) u (rv.mono (fun _ _ e => e) (set_tup S e))
theorem wroteL {K : Fg} {ρ : List Addr} {H : Hp} {h : PH} {l : Nat} {a : Addr} {ps : List PV} {vs : List V} (S : Sim K ρ h H) (e : ρ[l]? = some a) (r : RepVs K ρ H ps vs) : RepO K ρ (upd H a (.lst vs)) (.lst ps) a :=
  ⟨vs, upd_same, r.mono (fun _ _ e => e) (set_tup S e)⟩
theorem wroteD {K : Fg} {ρ : List Addr} {H : Hp} {h : PH} {l : Nat} {a : Addr} {ps : List (PV × PV)} {vs : List (L2.Key × V)} (S : Sim K ρ h H) (e : ρ[l]? = some a) (r : RepKs K ρ H ps vs) : RepO K ρ (upd H a (.dK vs)) (.dic ps) a :=
  ⟨vs, upd_same, r.mono (fun _ _ e => e) (set_tup S e)⟩

theorem mt_ref {m : Mt} {v : PV} {xs : List PV} {h : PH} {K : Fg} {ρ : List Addr} {H : Hp} {R : PV → List Addr → Hp → Prop} (po : PostG K ρ H (mtF m v xs h) R) :
    ∃ l, v = .ref l ∧ ((∃ ys, h[l]? = some (.lst ys) ∧ PostG K ρ H (lstM m l ys xs h) R) ∨ (∃ kvs, h[l]? = some (.dic kvs) ∧ PostG K ρ H (dicM m l kvs xs h) R) ∨ ∃ kvs, h[l]? = some (.lck kvs) ∧ PostG K ρ H (dicR m kvs xs h) R) := by
  unfold mtF at po
  split at po
  · rename_i l
    refine ⟨l, rfl, ?_⟩
    split at po
    · exact .inl ⟨_, by assumption, po⟩
    · exact .inr (.inl ⟨_, by assumption, po⟩)
    · exact .inr (.inr ⟨_, by assumption, po⟩)
    · exact po.elim
  · exact po.elim
theorem se_mt0 {m : Mt} (hbase : ∀ n, attributeBase o n X.env (eval o X.env) = eval o X.env) (hline : (apos.endLine == pos.line) = true) (ho : PE X o (lE X.K fo)) :
    PE X (.Call (.Attribute o m.name apos) [] [] pos) (lE X.K fun s h => (fo s h).bnd fun x h => mtF m x [] h) := by
  refine ⟨fun pins s σ H Q I h => ?_⟩
  obtain ⟨ρ, s, h, S, R, po⟩ := h
  obtain ⟨v, h1, e1, po1⟩ := po.okOf
  obtain ⟨l, rfl, ⟨ys, hl, po2⟩ | ⟨kvs, hl, po2⟩ | ⟨kvs, hl, po2⟩⟩ := mt_ref po1
  · cases m <;> simp only [lstM] at po2 <;> try exact po2.elim
    refine (pe_bm0 PySem.F.plainAttrs_list PySem.F.slot_list_pop PySem.F.type_list_pop mt_pop ho (hbase _) hline).run _ _ σ H Q I ?_
    refine lE.first S R po fun v ρ1 H1 h1' u x1 S1 R1 e1' ru po1 => ?_
    rw [e1] at e1'; cases e1'
    have po2 := PostG.ext po2 x1
    split at po2 <;> try exact po2.elim
    rename_i y hy
    cases ru with
    | ref ea =>
      obtain ⟨vs, e2, r2⟩ := S1.lst hl ea
      obtain ⟨w, hw, rw'⟩ := r2.get hy
      exact ⟨.inl ⟨rfl, _, SqL.of e2⟩, _, vs, w, rfl, rfl, e2, by rw [← r2.length]; exact hw, PostV.wrote po2 S1 ea rw' (wroteL S1 ea r2.dropLast) (nfL e2)⟩
  · cases m <;> simp only [dicM, dicR] at po2 <;> exact po2.elim
  · cases m <;> simp only [dicR] at po2 <;> exact po2.elim

/-- how a method's call with one argument looks -/
theorem m1_of (hbase : ∀ n, attributeBase o n X.env (eval o X.env) = eval o X.env) (hline : (apos.endLine == pos.line) = true) (hs : starEach [e] X.env = [(false, eval e X.env)]) (m : Str) : M1 X o m apos e pos := by
  refine ⟨hbase _, ?_, hline, ?_⟩
  · rw [hs]; rfl
  · rw [hs]; rfl
theorem m2_of (hbase : ∀ n, attributeBase o n X.env (eval o X.env) = eval o X.env) (hline : (apos.endLine == pos.line) = true) (hs : starEach [e, e'] X.env = [(false, eval e X.env), (false, eval e' X.env)]) (m : Str) : M2 X o m apos e e' pos := by
  refine ⟨hbase _, ?_, hline, ?_⟩
  · rw [hs]; rfl
  · rw [hs]; rfl
end
end MP

set_option Elab.async false
set_option linter.all false
set_option maxRecDepth 100000
set_option maxHeartbeats 1000000
namespace MP
open PySem PySem.Spec PyProof.Rows L2

section
variable {X : Cx} {o e e' : Expr} {fo f1 f2 : PSt → PH → Out PV} {apos pos : Pos}
theorem few1 (hs : starEach [e] X.env = [(false, eval e X.env)]) : ((backTo pos (starEach [e] X.env)).all (fun x => !x.1) && (backToKw pos (keywordEach [] X.env)).all (fun x => x.1.isSome)
      && decide (([e] : List Expr).length + ([] : List Keyword).length + (if ([] : List Keyword).isEmpty then 0 else 1) < 30)) = true := by rw [hs]; rfl
theorem few2 (hs : starEach [e, e'] X.env = [(false, eval e X.env), (false, eval e' X.env)]) : ((backTo pos (starEach [e, e'] X.env)).all (fun x => !x.1) && (backToKw pos (keywordEach [] X.env)).all (fun x => x.1.isSome)
      && decide (([e, e'] : List Expr).length + ([] : List Keyword).length + (if ([] : List Keyword).isEmpty then 0 else 1) < 30)) = true := by rw [hs]; rfl
theorem se_mt1 (hu : X.A.units + 65 < cLine) {m : Mt} (hbase : ∀ n, attributeBase o n X.env (eval o X.env) = eval o X.env) (hline : (apos.endLine == pos.line) = true) (hs : starEach [e] X.env = [(false, eval e X.env)]) (ho : PE X o (lE X.K fo)) (he : PE X e (lE X.K f1)) :
    PE X (.Call (.Attribute o m.name apos) [e] [] pos) (lE X.K fun s h => (fo s h).bnd fun x h1 => (f1 s h1).bnd fun y h => if kind x h1 = kind x h then mtF m x [y] h else .bad) := by
  refine ⟨fun pins s σ H Q I h => ?_⟩
  obtain ⟨ρ, s, h, S, R, po⟩ := h
  obtain ⟨v, h1, e1, po1⟩ := po.okOf
  obtain ⟨w, h2, e2, po2⟩ := po1.okOf
  split at po2 <;> try exact po2.elim
  rename_i hk
  have hs' : starEach [e] X.env = (false, eval e X.env) :: starEach [] X.env := hs
  have pa := pa_cons he pa_nil hs'
  -- the list's rules
  have bm : ∀ {id : String} {r : V → List V → Hp → VK → Prop} {l : Nat}, v = .ref l → kind v h1 = 1 → Slot "list" m.name id → typeOf (.builtin id) = pure (.type "method_descriptor") → MtM X id r →
      (∀ ρ2 H2 x y, Sim X.K ρ2 h2 H2 → RepV X.K ρ2 H2 v x → RepV X.K ρ2 H2 w y → PostV X.K ρ2 H2 (mtF m v [w] h2) Q → r x [y] H2 Q) →
      wpAny (model X.prog X.w) X.A (eval (.Call (.Attribute o m.name apos) [e] [] pos) X.env) (EP X pins σ Q) X.xe _ := fun {id r l} el kl slot ty hm k => by
    refine (pe_bm PySem.F.plainAttrs_list slot ty hm ho pa (hbase _) (few1 hs) hline hs' (by rfl)).run _ _ σ H Q I ?_
    refine lE.first S R po fun v' ρ1 H1 h1' u x1 S1 R1 e1' ru po1 => ?_
    rw [e1] at e1'; cases e1'
    refine ⟨kind_lst (l := l) S1 (el ▸ ru) (el ▸ kl), lE.first S1 R1 po1 fun w' ρ2 H2 h2' y x2 S2 R2 e2' ry po2 => ?_⟩
    rw [e2] at e2'; cases e2'
    rw [if_pos hk] at po2
    exact k ρ2 H2 u y S2 (ru.ext x2) ry po2
  obtain ⟨l, rfl, ⟨ys, hl, po3⟩ | ⟨kvs, hl, po3⟩ | ⟨kvs, hl, po3⟩⟩ := mt_ref po2
  · have kl : kind (.ref l) h1 = 1 := by rw [hk]; simp only [kind, hl]
    cases m <;> simp only [lstM] at po3 <;> try exact po3.elim
    · -- append
      refine bm rfl kl PySem.F.slot_list_append PySem.F.type_list_append mt_append fun ρ2 H2 x y S2 rx ry po => ?_
      simp only [mtF, hl, lstM] at po
      split at po <;> try exact po.elim
      rename_i hz
      cases rx with
      | ref ea =>
        obtain ⟨vs, e3, r3⟩ := S2.lst hl ea
        exact ⟨_, vs, y, rfl, rfl, e3, by rw [← r3.length]; exact hz, PostV.wrote po S2 ea .non (wroteL S2 ea (r3.append (.cons ry .nil))) (nfL e3)⟩
    · -- extend
      refine bm rfl kl PySem.F.slot_list_extend PySem.F.type_list_extend mt_extend fun ρ2 H2 x y S2 rx ry po => ?_
      simp only [mtF, hl, lstM] at po
      split at po <;> try exact po.elim
      rename_i hq
      split at po <;> try exact po.elim
      rename_i zs h3
      split at po <;> try exact po.elim
      rename_i hz
      cases hq
      cases rx with
      | ref ea =>
        cases ry with
        | ref eb =>
          obtain ⟨vs, e3, r3⟩ := S2.lst hl ea
          obtain ⟨ws, e4, r4⟩ := S2.lst h3 eb
          exact ⟨_, _, vs, ws, rfl, rfl, e3, e4, by rw [← r3.length, ← r4.length]; exact hz, PostV.wrote po S2 ea .non (wroteL S2 ea (r3.append r4)) (nfL e3)⟩
    · -- pop(i)
      refine bm rfl kl PySem.F.slot_list_pop PySem.F.type_list_pop mt_popAt fun ρ2 H2 x y S2 rx ry po => ?_
      simp only [mtF, hl, lstM] at po
      split at po <;> (try exact po.elim)
      · rename_i hq; simp at hq
      · rename_i i hq
        cases hq
        split at po <;> try exact po.elim
        rename_i hz
        split at po <;> try exact po.elim
        rename_i j hj
        split at po <;> try exact po.elim
        rename_i z hy
        have hz' := of_decide_eq_true hz
        cases rx with
        | ref ea =>
          obtain ⟨vs, e3, r3⟩ := S2.lst hl ea
          obtain ⟨u, hu', ru⟩ := r3.get hy
          exact ⟨_, vs, i, j, u, rfl, by rw [ry.intV], e3, by omega, by omega, by rw [← r3.length]; exact hj, hu', PostV.wrote po S2 ea ru (wroteL S2 ea (r3.erase j)) (nfL e3)⟩
  · have kl : kind (.ref l) h1 = 2 := by rw [hk]; simp only [kind, hl]
    cases m <;> simp only [dicM, dicR] at po3 <;> try exact po3.elim
    · -- pop(k)
      refine (pe_dpop1 ho he (m1_of hbase hline hs _)).run _ _ σ H Q I ?_
      refine lE.first S R po fun v' ρ1 H1 h1' u x1 S1 R1 e1' ru po1 => ?_
      rw [e1] at e1'; cases e1'
      obtain ⟨a, rfl, isd⟩ := kind_dic S1 ru kl
      refine ⟨a, rfl, isd, lE.first S1 R1 po1 fun w' ρ2 H2 h2' y x2 S2 R2 e2' ry po2 => ?_⟩
      rw [e2] at e2'; cases e2'
      have po4 := PostG.ext po3 (x1.trans x2)
      split at po4 <;> try exact po4.elim
      rename_i hkk
      split at po4 <;> try exact po4.elim
      rename_i z hz
      cases ru.ext x2 with
      | ref ea =>
        obtain ⟨ks, e3, r3⟩ := S2.dic hl ea
        obtain ⟨kk, ek⟩ := keyOf_some hkk
        obtain ⟨t, ht, rt⟩ := (r3.get ek).1 z hz
        exact ⟨ks, kk, t, e3, keyOf_V ek ry, ht, PostV.wrote po4 S2 ea rt (wroteD S2 ea (r3.drop ek)) (nfD e3)⟩
    · -- get(k)
      refine (pe_dget1 (by omega) ho he (m1_of hbase hline hs _)).run _ _ σ H Q I ?_
      refine lE.first S R po fun v' ρ1 H1 h1' u x1 S1 R1 e1' ru po1 => ?_
      rw [e1] at e1'; cases e1'
      obtain ⟨a, rfl, isd⟩ := kind_dic S1 ru kl
      refine ⟨a, rfl, isd, lE.first S1 R1 po1 fun w' ρ2 H2 h2' y x2 S2 R2 e2' ry po2 => ?_⟩
      rw [e2] at e2'; cases e2'
      have po4 := PostG.ext po3 (x1.trans x2)
      split at po4 <;> try exact po4.elim
      rename_i hkk
      cases ru.ext x2 with
      | ref ea =>
        obtain ⟨ks, e3, r3⟩ := S2.dic hl ea
        obtain ⟨kk, ek⟩ := keyOf_some hkk
        refine ⟨valV ks kk, .inl ⟨ks, kk, .inl e3, keyOf_V ek ry, rfl⟩, PostV.now po4 S2 ?_⟩
        cases ez : dGet kvs w with
        | none => rw [(r3.get ek).2 ez]; exact .non
        | some z => obtain ⟨t, ht, rt⟩ := (r3.get ek).1 z ez; rw [ht]; exact rt
  · have kl : kind (.ref l) h1 = 2 := by rw [hk]; simp only [kind, hl]
    cases m <;> simp only [dicR] at po3 <;> try exact po3.elim
    refine (pe_dget1 (by omega) ho he (m1_of hbase hline hs _)).run _ _ σ H Q I ?_
    refine lE.first S R po fun v' ρ1 H1 h1' u x1 S1 R1 e1' ru po1 => ?_
    rw [e1] at e1'; cases e1'
    obtain ⟨a, rfl, isd⟩ := kind_dic S1 ru kl
    refine ⟨a, rfl, isd, lE.first S1 R1 po1 fun w' ρ2 H2 h2' y x2 S2 R2 e2' ry po2 => ?_⟩
    rw [e2] at e2'; cases e2'
    have po4 := PostG.ext po3 (x1.trans x2)
    split at po4 <;> try exact po4.elim
    rename_i hkk
    cases ru.ext x2 with
    | ref ea =>
      obtain ⟨ob, ks, e3, r3⟩ := S2.lck hl ea
      obtain ⟨kk, ek⟩ := keyOf_some hkk
      refine ⟨valV ks kk, .inl ⟨ks, kk, .inr ⟨ob, e3⟩, keyOf_V ek ry, rfl⟩, PostV.now po4 S2 ?_⟩
      cases ez : dGet kvs w with
      | none => rw [(r3.get ek).2 ez]; exact .non
      | some z => obtain ⟨t, ht, rt⟩ := (r3.get ek).1 z ez; rw [ht]; exact rt
theorem se_mt2 (hu : X.A.units + 65 < cLine) {m : Mt} (hbase : ∀ n, attributeBase o n X.env (eval o X.env) = eval o X.env) (hline : (apos.endLine == pos.line) = true) (hs : starEach [e, e'] X.env = [(false, eval e X.env), (false, eval e' X.env)])
    (hs1 : starEach [e'] X.env = [(false, eval e' X.env)]) (ho : PE X o (lE X.K fo)) (he : PE X e (lE X.K f1)) (he' : PE X e' (lE X.K f2)) :
    PE X (.Call (.Attribute o m.name apos) [e, e'] [] pos) (lE X.K fun s h => (fo s h).bnd fun x h1 => (f1 s h1).bnd fun y h => (f2 s h).bnd fun z h => if kind x h1 = kind x h then mtF m x [y, z] h else .bad) := by
  refine ⟨fun pins s σ H Q I h => ?_⟩
  obtain ⟨ρ, s, h, S, R, po⟩ := h
  obtain ⟨v, h1, e1, po1⟩ := po.okOf
  obtain ⟨w, h2, e2, po2⟩ := po1.okOf
  obtain ⟨w', h3, e3, po3⟩ := po2.okOf
  split at po3 <;> try exact po3.elim
  rename_i hk
  obtain ⟨l, rfl, ⟨ys, hl, po4⟩ | ⟨kvs, hl, po4⟩ | ⟨kvs, hl, po4⟩⟩ := mt_ref po3
  · have kl : kind (.ref l) h1 = 1 := by rw [hk]; simp only [kind, hl]
    cases m <;> simp only [lstM] at po4 <;> try exact po4.elim
    -- insert
    have hs' : starEach [e, e'] X.env = (false, eval e X.env) :: starEach [e'] X.env := by rw [hs, hs1]
    refine (pe_bm PySem.F.plainAttrs_list PySem.F.slot_list_insert PySem.F.type_list_insert mt_insert ho (pa_cons he (pa_cons he' pa_nil hs1) hs') (hbase _) (few2 hs) hline hs' (by rw [hs1]; rfl)).run _ _ σ H Q I ?_
    refine lE.first S R po fun v' ρ1 H1 h1' u x1 S1 R1 e1' ru po1 => ?_
    rw [e1] at e1'; cases e1'
    refine ⟨kind_lst (l := l) S1 ru kl, lE.first S1 R1 po1 fun w' ρ2 H2 h2' y x2 S2 R2 e2' ry po2 => ?_⟩
    rw [e2] at e2'; cases e2'
    refine lE.first S2 R2 po2 fun w'' ρ3 H3 h3' z x3 S3 R3 e3' rz po3 => ?_
    rw [e3] at e3'; cases e3'
    have po5 := PostG.ext po4 ((x1.trans x2).trans x3)
    split at po5 <;> try exact po5.elim
    rename_i i y0 hq
    cases hq
    split at po5 <;> try exact po5.elim
    rename_i hz
    have hz' := of_decide_eq_true hz.2.2
    cases (ru.ext x2).ext x3 with
    | ref ea =>
      obtain ⟨vs, e4, r4⟩ := S3.lst hl ea
      refine ⟨_, vs, i, z, rfl, by rw [(ry.ext x3).intV], e4, by rw [← r4.length]; exact hz.1, hz.2.1, by omega, ?_⟩
      exact PostV.wrote po5 S3 ea .non (wroteL S3 ea (((r4.take _).append (.cons rz .nil)).append (r4.drop _))) (nfL (by assumption))
  · have kl : kind (.ref l) h1 = 2 := by rw [hk]; simp only [kind, hl]
    cases m <;> simp only [dicM, dicR] at po4 <;> try exact po4.elim
    refine (pe_dget2 (by omega) ho he he' (m2_of hbase hline hs _)).run _ _ σ H Q I ?_
    refine lE.first S R po fun v' ρ1 H1 h1' u x1 S1 R1 e1' ru po1 => ?_
    rw [e1] at e1'; cases e1'
    obtain ⟨a, rfl, isd⟩ := kind_dic S1 ru kl
    refine ⟨a, rfl, isd, lE.first S1 R1 po1 fun w' ρ2 H2 h2' y x2 S2 R2 e2' ry po2 => ?_⟩
    rw [e2] at e2'; cases e2'
    refine lE.first S2 R2 po2 fun w'' ρ3 H3 h3' z x3 S3 R3 e3' rz po3 => ?_
    rw [e3] at e3'; cases e3'
    have po5 := PostG.ext po4 ((x1.trans x2).trans x3)
    split at po5 <;> try exact po5.elim
    rename_i hkk
    cases (ru.ext x2).ext x3 with
    | ref ea =>
      obtain ⟨ks, e4, r4⟩ := S3.dic hl ea
      obtain ⟨kk, ek⟩ := keyOf_some hkk
      refine ⟨valV ks kk, .inl ⟨ks, kk, .inl e4, keyOf_V ek (ry.ext x3), rfl⟩, PostV.now po5 S3 ?_⟩
      cases ez : dGet kvs w with
      | none => rw [(r4.get ek).2 ez]; exact rz
      | some z => obtain ⟨t, ht, rt⟩ := (r4.get ek).1 z ez; rw [ht]; exact rt
  · have kl : kind (.ref l) h1 = 2 := by rw [hk]; simp only [kind, hl]
    cases m <;> simp only [dicR] at po4 <;> try exact po4.elim
    refine (pe_dget2 (by omega) ho he he' (m2_of hbase hline hs _)).run _ _ σ H Q I ?_
    refine lE.first S R po fun v' ρ1 H1 h1' u x1 S1 R1 e1' ru po1 => ?_
    rw [e1] at e1'; cases e1'
    obtain ⟨a, rfl, isd⟩ := kind_dic S1 ru kl
    refine ⟨a, rfl, isd, lE.first S1 R1 po1 fun w' ρ2 H2 h2' y x2 S2 R2 e2' ry po2 => ?_⟩
    rw [e2] at e2'; cases e2'
    refine lE.first S2 R2 po2 fun w'' ρ3 H3 h3' z x3 S3 R3 e3' rz po3 => ?_
    rw [e3] at e3'; cases e3'
    have po5 := PostG.ext po4 ((x1.trans x2).trans x3)
    split at po5 <;> try exact po5.elim
    rename_i hkk
    cases (ru.ext x2).ext x3 with
    | ref ea =>
      obtain ⟨ob, ks, e4, r4⟩ := S3.lck hl ea
      obtain ⟨kk, ek⟩ := keyOf_some hkk
      refine ⟨valV ks kk, .inl ⟨ks, kk, .inr ⟨ob, e4⟩, keyOf_V ek (ry.ext x3), rfl⟩, PostV.now po5 S3 ?_⟩
      cases ez : dGet kvs w with
      | none => rw [(r4.get ek).2 ez]; exact rz
      | some z => obtain ⟨t, ht, rt⟩ := (r4.get ek).1 z ez; rw [ht]; exact rt
end
end MP

set_option Elab.async false
set_option linter.all false
set_option maxRecDepth 100000
set_option maxHeartbeats 1000000
namespace MP
open PySem PySem.Spec PyProof.Rows L2

/-! ### walks -/
/-- the iterator J walks as it does -/
def Wk (K : Fg) (J : L2.It) (it : Itr) (ρ0 : List Addr) (H0 : Hp) : Prop := ∀ ρ h H (i : Nat), Ext K ρ0 H0 ρ H → Sim K ρ h H →
  (itStep it i h = some none → J.stop i H) ∧ ∀ p, itStep it i h = some (some p) → J.go i H ∧ ∀ x H', J.yld i H x H' → Ext K ρ H ρ H' ∧ Sim K ρ h H' ∧ RepV K ρ H' p x
def lI (K : Fg) (f : PSt → PH → Out Itr) : TI := fun σ H R => ∃ ρ s h, Sim K ρ h H ∧ RepSt K ρ H s σ ∧ PostG K ρ H (f s h) fun it ρ' H' => ∀ J, Wk K J it ρ' H' → R J H'
section
variable {K : Fg} {ρ : List Addr} {H : Hp} {h : PH}
theorem wk_tup {a : Addr} {xs : List V} {ps : List PV} (q : SqT K H a xs) (r : RepVs K ρ H ps xs) : Wk K (Itt K a) (.vals ps) ρ H := fun ρ' h' H' i x S => by
  have q' : SqT K H' a xs := x.tup a (true, xs) q
  have r' := r.ext x
  refine ⟨fun e => ?_, fun p e => ?_⟩
  · have e : ps[i]? = none := by simpa [itStep] using e
    refine ⟨xs, q', ?_⟩
    rw [← r.length]
    exact List.getElem?_eq_none_iff.mp e
  · have e : ps[i]? = some p := by simpa [itStep] using e
    obtain ⟨u, hu, ru⟩ := r'.get e
    refine ⟨⟨xs, u, q', hu⟩, fun y H2 hy => ?_⟩
    obtain ⟨rfl, hy⟩ := hy
    have := hy xs q'
    rw [hu] at this
    cases this
    exact ⟨.refl, S, ru⟩
theorem wk_fro {a : Addr} {xs : List V} {ps : List PV} (q : FrL K H a xs) (r : RepVs K ρ H ps xs) : Wk K (Itl K a) (.vals ps) ρ H := fun ρ' h' H' i x S => by
  have q' : FrL K H' a xs := x.tup a (false, xs) q
  have r' := r.ext x
  refine ⟨fun e => ?_, fun p e => ?_⟩
  · have e : ps[i]? = none := by simpa [itStep] using e
    refine ⟨xs, q'.sq, ?_⟩
    rw [← r.length]
    exact List.getElem?_eq_none_iff.mp e
  · have e : ps[i]? = some p := by simpa [itStep] using e
    obtain ⟨u, hu, ru⟩ := r'.get e
    refine ⟨⟨xs, u, q'.sq, hu⟩, fun y H2 hy => ?_⟩
    obtain ⟨rfl, hy⟩ := hy
    have := hy xs q'.sq
    rw [hu] at this
    cases this
    exact ⟨.refl, S, ru⟩
theorem wk_lst {l : Nat} {a : Addr} (e : ρ[l]? = some a) : Wk K (Itl K a) (.lst l) ρ H := fun ρ' h' H' i x S => by
  have e' := x.pre _ _ e
  refine ⟨fun e => ?_, fun p e => ?_⟩
  · unfold itStep at e
    dsimp only at e
    split at e <;> try (cases e; done)
    rename_i ps hl
    obtain ⟨xs, h1, r⟩ := S.lst hl e'
    have e : ps[i]? = none := by simpa using e
    refine ⟨xs, SqL.of h1, ?_⟩
    rw [← r.length]
    exact List.getElem?_eq_none_iff.mp e
  · unfold itStep at e
    dsimp only at e
    split at e <;> try (cases e; done)
    rename_i ps hl
    obtain ⟨xs, h1, r⟩ := S.lst hl e'
    have e : ps[i]? = some p := by simpa using e
    obtain ⟨u, hu, ru⟩ := r.get e
    refine ⟨⟨xs, u, SqL.of h1, hu⟩, fun y H2 hy => ?_⟩
    obtain ⟨rfl, hy⟩ := hy
    have := hy xs (SqL.of h1)
    rw [hu] at this
    cases this
    exact ⟨.refl, S, ru⟩
theorem rngI_len (lo : Int) (n : Nat) : (rngI lo n).length = n := by simp [rngI]
theorem wk_rng {lo : Int} {n : Nat} : Wk K (L2.Itr lo n) (.vals (rngI lo n)) ρ H := fun ρ' h' H' i x S => by
  refine ⟨fun e => ?_, fun p e => ?_⟩
  · have e : (rngI lo n)[i]? = none := by simpa [itStep] using e
    have := List.getElem?_eq_none_iff.mp e
    rw [rngI_len] at this
    exact this
  · have e : (rngI lo n)[i]? = some p := by simpa [itStep] using e
    have hl := (List.getElem?_eq_some_iff.mp e).1
    rw [rngI_len] at hl
    refine ⟨hl, fun y H2 hy => ?_⟩
    obtain ⟨rfl, rfl⟩ := hy
    simp [rngI, hl] at e
    subst e
    exact ⟨.refl, S, .int _⟩
theorem wk_str {x : Str} : Wk K (Its x) (.vals (x.cps.toList.map fun c => .str ⟨#[c]⟩)) ρ H := fun ρ' h' H' i _ S => by
  refine ⟨fun e => ?_, fun p e => ?_⟩
  · have e : (x.cps.toList.map fun c => PV.str ⟨#[c]⟩)[i]? = none := by simpa [itStep] using e
    have := List.getElem?_eq_none_iff.mp e
    simp at this
    exact this
  · have e : (x.cps.toList.map fun c => PV.str ⟨#[c]⟩)[i]? = some p := by simpa [itStep] using e
    rw [List.getElem?_map, Option.map_eq_some_iff] at e
    obtain ⟨c, hc, rfl⟩ := e
    have hc : x.cps[i]? = some c := by simpa using hc
    refine ⟨(Array.getElem?_eq_some_iff.mp hc).1, fun y H2 hy => ?_⟩
    obtain ⟨rfl, c', hc', rfl⟩ := hy
    rw [hc] at hc'
    cases hc'
    exact ⟨.refl, S, .str _⟩
end
section
variable {X : Cx} {tg e : Expr} {es : List Expr} {fe : PSt → PH → Out PV} {fs : PSt → PH → Out (List PV)} {p pos : Pos}
theorem _root_.L2.PI.weak {t t' : TI} (h : PI X tg e t) (w : ∀ σ H R, t' σ H R → t σ H R) : PI X tg e t' := ⟨fun pins s σ H R I q => h.run pins s σ H R I (w σ H R q)⟩
theorem si_ex (he : PE X e (lE X.K fe)) : PI X tg e (lI X.K fun s h => (fe s h).bnd fun x h => match x with
    | .tup xs => .ok (.vals xs) h
    | .fro xs => .ok (.vals xs) h
    | .ref l => (match h[l]? with
      | some (.lst _) => .ok (.lst l) h
      | _ => .bad)
    | .str x => .ok (.vals (x.cps.toList.map fun c => .str ⟨#[c]⟩)) h
    | _ => .bad) := by
  refine ⟨fun pins s σ H R I h => ?_⟩
  obtain ⟨ρ, s, h, S, Rs, po⟩ := h
  obtain ⟨v, h1, e1, po1⟩ := po.okOf
  cases v with
  | tup ps =>
    refine (pi_tup he).run _ _ σ H R I (lE.first S Rs po fun v' ρ1 H1 h1' u x1 S1 R1 e1' ru po1 => ?_)
    rw [e1] at e1'; cases e1'
    cases ru with
    | tup q r => exact ⟨_, rfl, ⟨_, q⟩, po1 ρ1 H1 .refl S1 _ (wk_tup q r)⟩
  | str x =>
    refine (pi_str he).run _ _ σ H R I (lE.first S Rs po fun v' ρ1 H1 h1' u x1 S1 R1 e1' ru po1 => ?_)
    rw [e1] at e1'; cases e1'
    exact ⟨x, ru.strV, po1 ρ1 H1 .refl S1 _ wk_str⟩
  | ref l =>
    refine (pi_list he).run _ _ σ H R I (lE.first S Rs po fun v' ρ1 H1 h1' u x1 S1 R1 e1' ru po1 => ?_)
    rw [e1] at e1'; cases e1'
    dsimp only at po1
    split at po1 <;> try exact po1.elim
    rename_i hl
    cases ru with
    | ref ea =>
      obtain ⟨xs, h2, r⟩ := S1.lst hl ea
      exact ⟨_, rfl, ⟨xs, SqL.of h2⟩, po1 ρ1 H1 .refl S1 _ (wk_lst ea)⟩
  | fro ps =>
    refine (pi_list he).run _ _ σ H R I (lE.first S Rs po fun v' ρ1 H1 h1' u x1 S1 R1 e1' ru po1 => ?_)
    rw [e1] at e1'; cases e1'
    cases ru with
    | fro q r => exact ⟨_, rfl, ⟨_, q.sq⟩, po1 ρ1 H1 .refl S1 _ (wk_fro q r)⟩
  | non => exact po1.elim
  | bl _ => exact po1.elim
  | int _ => exact po1.elim
theorem small_iff {i : Int} (h : small i = true) : -(2 ^ 62) ≤ i ∧ i < 2 ^ 62 := of_decide_eq_true h
theorem si_rng1 {a : Expr} {fa : PSt → PH → Out PV} (hg : Gl X "range") (hm : X.mg "range" = none) (ha : PE X a (lE X.K fa)) (hs : starEach [a] X.env = [(false, eval a X.env)]) :
    PI X tg (.Call (.Name "range" p) [a] [] pos) (lI X.K fun s h => (fa s h).bnd fun x h => match x with
      | .int n => if small n then .ok (.vals (rngI 0 n.toNat)) h else .bad
      | _ => .bad) :=
  (pi_range1 hg hm (pa_cons ha pa_nil (show starEach [a] X.env = (false, eval a X.env) :: starEach [] X.env from hs)) hs).weak fun σ H R h => by
    obtain ⟨ρ, s, h, S, Rs, po⟩ := h
    refine lE.first S Rs po fun v' ρ1 H1 h1' u x1 S1 R1 e1' ru po1 => ?_
    split at po1 <;> try exact po1.elim
    split at po1 <;> try exact po1.elim
    rename_i n hn
    obtain ⟨n1, n2⟩ := small_iff hn
    exact ⟨n, by rw [ru.intV], n1, n2, po1 ρ1 H1 .refl S1 _ wk_rng⟩
theorem si_rng2 {a b : Expr} {fa fb : PSt → PH → Out PV} (hg : Gl X "range") (hm : X.mg "range" = none) (ha : PE X a (lE X.K fa)) (hb : PE X b (lE X.K fb)) (hs : starEach [a, b] X.env = [(false, eval a X.env), (false, eval b X.env)])
    (hs2 : starEach [b] X.env = [(false, eval b X.env)]) :
    PI X tg (.Call (.Name "range" p) [a, b] [] pos) (lI X.K fun s h => (fa s h).bnd fun x h => (fb s h).bnd fun y h => match x, y with
      | .int i, .int j => if small i ∧ small j then .ok (.vals (rngI i (j - i).toNat)) h else .bad
      | _, _ => .bad) :=
  (pi_range2 hg hm (pa_cons ha (pa_cons hb pa_nil (show starEach [b] X.env = (false, eval b X.env) :: starEach [] X.env from hs2)) (by rw [hs, hs2])) hs hs2).weak fun σ H R h => by
    obtain ⟨ρ, s, h, S, Rs, po⟩ := h
    refine lE.first S Rs po fun v' ρ1 H1 h1' u x1 S1 R1 e1' ru po1 => lE.first S1 R1 po1 fun w ρ2 H2 h2 z x2 S2 R2 e2 rz po2 => ?_
    split at po2 <;> try exact po2.elim
    split at po2 <;> try exact po2.elim
    rename_i i j hn
    obtain ⟨n1, n2⟩ := small_iff hn.1
    obtain ⟨n3, n4⟩ := small_iff hn.2
    exact ⟨i, j, by rw [(ru.ext x2).intV, rz.intV], ⟨n1, n2, n3, n4⟩, po2 ρ2 H2 .refl S2 _ wk_rng⟩
end

/-! ### targets -/
def lT (K : Fg) (ws : List Nat) (f : PV → PSt → PH → Out PSt) : TG := fun v σ H Q => ∃ ρ s h p, Sim K ρ h H ∧ RepSt K ρ H s σ ∧ RepV K ρ H p v ∧
  PostG K ρ H (f p s h) fun s' ρ' H' => ∀ σ', RepSt K ρ' H' s' σ' → (∀ vs : List Nat, (∀ w ∈ ws, w ∈ vs) → wipe σ' vs = wipe σ vs) → Q σ' H'
theorem wipe_set {σ : L2.St} {i : Nat} {x : Option V} : ∀ {vs : List Nat}, i ∈ vs → wipe (σ.set i x) vs = wipe σ vs
  | [], h => by simp at h
  | v :: vs, h => by
    unfold wipe
    by_cases e : i = v
    · subst e
      have go : ∀ {vs : List Nat} {σ : L2.St}, (wipe (σ.set i x) vs).set i none = (wipe σ vs).set i none := by
        intro vs
        induction vs with
        | nil => intro σ; unfold wipe; rw [List.set_set]
        | cons w ws ih =>
          intro σ
          unfold wipe
          by_cases e : i = w
          · subst e
            rw [List.set_set, List.set_set]
            exact ih
          · rw [List.set_comm _ _ (Ne.symm e), ih, List.set_comm _ _ e]
      exact go
    · rw [wipe_set (by rcases List.mem_cons.mp h with q | q; exact absurd q e; exact q)]
theorem wipe_get {σ : L2.St} : ∀ (vs : List Nat) (i : Nat), (wipe σ vs)[i]? = if i ∈ vs then σ[i]?.map fun _ => none else σ[i]?
  | [], i => by simp [wipe]
  | v :: vs, i => by
    unfold wipe
    rw [List.getElem?_set]
    by_cases e : v = i
    · subst e
      simp only [if_true, List.mem_cons, true_or]
      rw [wipe_length]
      split
      · rename_i h; rw [List.getElem?_eq_getElem h]; rfl
      · rename_i h; rw [List.getElem?_eq_none (by omega)]; rfl
    · rw [if_neg e, wipe_get vs i]
      have : i ≠ v := Ne.symm e
      simp [this]
theorem wipe_wipe (σ : L2.St) (vs : List Nat) : wipe (wipe σ vs) vs = wipe σ vs := by
  apply List.ext_getElem?
  intro i
  rw [wipe_get, wipe_get]
  split
  · cases σ[i]? <;> rfl
  · rfl
theorem RepSt.set {K : Fg} {ρ : List Addr} {H : Hp} {s : PSt} {σ : L2.St} (R : RepSt K ρ H s σ) {p : PV} {v : V} (r : RepV K ρ H p v) (i : Nat) : RepSt K ρ H (s.set i (some p)) (σ.set i (some v)) := by
  refine ⟨by simp [R.1], fun j w e => ?_⟩
  by_cases hj : i = j
  · subst hj
    by_cases lt : i < s.length
    · rw [List.getElem?_set_self lt] at e
      cases e
      exact ⟨v, by rw [List.getElem?_set_self (by rw [← R.1]; exact lt)], r⟩
    · rw [List.getElem?_eq_none (by simpa using lt)] at e; cases e
  · rw [List.getElem?_set_ne hj] at e ⊢
    exact R.2 j w e
theorem RepSt.clear {K : Fg} {ρ : List Addr} {H : Hp} {s : PSt} {σ : L2.St} (R : RepSt K ρ H s σ) (i : Nat) : RepSt K ρ H (s.set i none) (σ.set i none) := by
  refine ⟨by simp [R.1], fun j w e => ?_⟩
  by_cases hj : i = j
  · subst hj
    by_cases lt : i < s.length
    · rw [List.getElem?_set_self lt] at e; cases e
    · rw [List.getElem?_eq_none (by simpa using lt)] at e; cases e
  · rw [List.getElem?_set_ne hj] at e ⊢
    exact R.2 j w e
theorem RepSt.wipe {K : Fg} {ρ : List Addr} {H : Hp} {s : PSt} {σ : L2.St} (R : RepSt K ρ H s σ) : ∀ vs : List Nat, RepSt K ρ H (wipeP s vs) (L2.wipe σ vs)
  | [] => R
  | v :: vs => (RepSt.wipe R vs).clear v
section
variable {X : Cx} {pos : Pos}
theorem _root_.L2.PG.weak {tg : Expr} {t t' : TG} (h : PG X tg t) (w : ∀ v σ H R, t' v σ H R → t v σ H R) : PG X tg t' := ⟨fun pins s σ H v u R I r q => h.run pins s σ H v u R I r (w v σ H R q)⟩
theorem sg_nm {x : Str} {i : Nat} (hN : X.N.Nodup) (hi : X.N[i]? = some x) (hx : Loc X.env.scope x) (hf : X.fn x = true ∨ X.env.scope.names.lookup x = some .local) : PG X (.Name x pos) (lT X.K [i] fun v s h => .ok (s.set i (some v)) h) :=
  (pg_name hN hi hx hf).weak fun v σ H Q h => by
    obtain ⟨ρ, s, h, p, S, R, r, po⟩ := h
    exact po ρ H .refl S _ (R.set r i) fun vs hv => wipe_set (hv i (by simp))
/-- names, one after the other -/
def lTs (K : Fg) (is : List Nat) : TGs := fun vs σ H Q => ∃ ρ s h ps, Sim K ρ h H ∧ RepSt K ρ H s σ ∧ RepVs K ρ H ps vs ∧ ∃ s', setAll s is ps = some s' ∧ ∀ σ', RepSt K ρ H s' σ' → (∀ vs : List Nat, (∀ w ∈ is, w ∈ vs) → wipe σ' vs = wipe σ vs) → Q σ' H
structure NameAt (X : Cx) (x : Str) (i : Nat) : Prop where
  ix : X.N[i]? = some x
  loc : Loc X.env.scope x
  fn : X.fn x = true ∨ X.env.scope.names.lookup x = some .local
theorem sgs_names (hN : X.N.Nodup) : ∀ {xs : List (Str × Pos)} {is : List Nat}, Paired (fun (x : Str × Pos) i => NameAt X x.1 i) xs is → PGs X (xs.map fun x => Expr.Name x.1 x.2) (lTs X.K is)
  | [], _, .nil => ⟨fun pins s σ H vs us Q I r h => by
    obtain ⟨ρ, s, h, ps, S, R, rp, s', e, k⟩ := h
    refine pgs_nil.run _ _ σ H vs us Q I r ?_
    cases rp with
    | nil =>
      simp [setAll] at e
      subst e
      exact ⟨rfl, k _ R fun _ _ => rfl⟩
    | cons _ _ => simp [setAll] at e⟩
  | x :: xs, i :: is, .cons n t => ⟨fun pins s σ H vs us Q I r h => by
    obtain ⟨ρ, s, h, ps, S, R, rp, s', e, k⟩ := h
    refine (pgs_cons (pg_name (pos := x.2) hN n.ix n.loc n.fn) (sgs_names hN t) (by rfl)).run _ _ σ H vs us Q I r ?_
    cases rp with
    | nil => simp [setAll] at e
    | cons q rr =>
      simp only [setAll] at e
      refine ⟨_, _, rfl, ρ, _, h, _, S, R.set q i, rr, s', e, fun σ' R' hw => k σ' R' fun vs hv => ?_⟩
      rw [hw vs fun w hw => hv w (List.mem_cons_of_mem _ hw)]
      exact wipe_set (hv i (by simp))⟩
theorem sg_tup (hc : X.calm = true) (hN : X.N.Nodup) {xs : List (Str × Pos)} {is : List Nat} {k : Nat} (n : Paired (fun (x : Str × Pos) i => NameAt X x.1 i) xs is) : PG X (.Tuple (xs.map fun x => Expr.Name x.1 x.2) k pos) (lT X.K is fun v s h => match v with
    | .tup vs => (match setAll s is vs with
      | some s => .ok s h
      | none => .bad)
    | _ => .bad) := by
  have hl : ∀ xs : List (Str × Pos), assignEach (xs.map fun x => Expr.Name x.1 x.2) X.env = xs.map fun x => (false, assign (.Name x.1 x.2) X.env) := by
    intro xs
    induction xs with
    | nil => rfl
    | cons x xs ih => rw [List.map_cons, List.map_cons, ← ih]; rfl
  refine (pg_tup (n := xs.length) hc (sgs_names hN n) (by rw [hl]; simp) ?_).weak fun v σ H Q h => ?_
  · rw [hl]
    rw [List.findIdx?_eq_none_iff]
    intro y hy
    obtain ⟨z, _, rfl⟩ := List.mem_map.mp hy
    rfl
  · obtain ⟨ρ, s, h, p, S, R, r, po⟩ := h
    dsimp only at po
    split at po <;> try exact po.elim
    rename_i vs
    split at po <;> try exact po.elim
    rename_i s' e
    cases r with
    | tup q rr =>
      refine ⟨_, _, rfl, q, ?_, ρ, s, h, vs, S, R, rr, s', e, fun σ' R' hw => po ρ H .refl S σ' R' hw⟩
      rw [← rr.length]
      have go : ∀ {is : List Nat} {s : PSt} {vs : List PV} {s'}, setAll s is vs = some s' → vs.length = is.length := by
        intro is
        induction is with
        | nil => intro s vs s' e; cases vs <;> simp [setAll] at e ⊢
        | cons i is ih => intro s vs s' e; cases vs with
          | nil => simp [setAll] at e
          | cons v vs => simp only [setAll] at e; simp [ih e]
      rw [go e]
      exact n.length.symm
end
end MP

set_option Elab.async false
set_option linter.all false
set_option maxRecDepth 100000
set_option maxHeartbeats 1000000
namespace MP
open PySem PySem.Spec PyProof.Rows L2

/-! ### o[i] = v -/
section
variable {X : Cx} {o i : Expr} {fo fi : PSt → PH → Out PV} {pos : Pos}
def rSet (K : Fg) : TSet := fun o i v H Q => ∃ ρ h p q r, Sim K ρ h H ∧ RepV K ρ H p o ∧ RepV K ρ H q i ∧ RepV K ρ H r v ∧ PostG K ρ H (setF p q r h) fun _ _ H' => Q H'
theorem set_ok (hu : X.A.units + 65 < cLine) : PSet X (rSet X.K) := by
  intro pins s σ H o i v ov iv u Q I ro ri rv h
  obtain ⟨ρ, h, p, q, r, S, rp, rq, rr, po⟩ := h
  unfold setF at po
  split at po <;> try exact po.elim
  rename_i l
  split at po <;> try exact po.elim
  · rename_i xs hl
    split at po <;> try exact po.elim
    rename_i k
    split at po <;> try exact po.elim
    rename_i j hj
    cases rp with
    | ref ea =>
      obtain ⟨vs, e1, r1⟩ := S.lst hl ea
      exact set_list pins s σ H _ _ v ov iv u Q I ro ri rv ⟨_, vs, k, j, rfl, rq.intV, e1, by rw [← r1.length]; exact hj, po ρ _ (Ext.set S ea (nfL e1)) (S.set ea (wroteL S ea (r1.set rr j)))⟩
  · rename_i kvs hl
    split at po <;> try exact po.elim
    rename_i hk
    cases rp with
    | ref ea =>
      obtain ⟨ks, e1, r1⟩ := S.dic hl ea
      obtain ⟨kk, ek⟩ := keyOf_some hk.1
      cases ro
      exact d_setItem (A := X.A) (by omega) I (DPut.k (k := kk) (v := v) e1 (by rw [← r1.length]; exact hk.2)) (keyOf_V ek rq ▸ ri) rv fun s' I' => ⟨_, I', po ρ _ (Ext.set S ea (nfD e1)) (S.set ea (wroteD S ea (r1.put ek rr)))⟩
theorem sg_sub (hu : X.A.units + 65 < cLine) (ho : PE X o (lE X.K fo)) (hi : PE X i (lE X.K fi))
    (ha : ∀ v, assign (.Subscript o i pos) X.env v = (do
      let ov ← holding [v] (eval o X.env)
      let iv ← holding [v, ov] (eval i X.env)
      standAt pos
      holding [v, ov, iv] (setItem ov iv v)
      release [v, ov, iv] [])) : PG X (.Subscript o i pos) (lT X.K [] fun v s h => (fo s h).bnd fun x h => (fi s h).bnd fun y h => (setF x y v h).bnd fun _ h => .ok s h) :=
  (pg_sub ho hi (set_ok hu) ha).weak fun v σ H Q h => by
    obtain ⟨ρ, s, h, p, S, R, r, po⟩ := h
    refine lE.first S R po fun w ρ1 H1 h1 u x1 S1 R1 e1 ru po1 => lE.first S1 R1 po1 fun z ρ2 H2 h2 t x2 S2 R2 e2 rt po2 => ?_
    refine ⟨ρ2, h2, w, z, p, S2, ru.ext x2, rt, (r.ext x1).ext x2, (PostG.bnd po2).mono fun _ ρ' H' x ⟨h', S', po'⟩ => ?_⟩
    exact po' ρ' H' .refl S' _ (R2.ext x) fun _ _ => rfl
end

/-! ### comprehensions -/
section
variable {K : Fg} {ρ ρ' ρ1 : List Addr} {H H' H1 : Hp} {h : PH}
theorem Ext.own {D : Addr} {u o : HO} (x : Ext K ρ1 H1 ρ H) (hD : H1 D = none) (hu : H D = some u) (h1 : ∀ xs, u ≠ .tup xs) (h2 : ∀ ob xs, u ≠ .frz ob (.tup xs) ∧ u ≠ .frz ob (.lst xs)) (h3 : ∀ ob w, u ≠ .frz ob w) : Ext K ρ1 H1 ρ (upd H D o) where
  pre := x.pre
  tup := fun a xs q => SqI.upd_old hu h1 h2 (x.tup a xs q)
  frm := fun a ob e n => by rw [upd_ne (ne_of_none e hD)]; exact x.frm a ob e n
  new := x.new
  lck := fun a ob ks e => by rw [upd_ne (ne_of_none e hD)]; exact x.lck a ob ks e
theorem Sim.own {D : Addr} {u o : HO} (S : Sim K ρ h H) (hn : D ∉ ρ) (hu : H D = some u) (h1 : ∀ xs, u ≠ .tup xs) (h2 : ∀ ob xs, u ≠ .frz ob (.tup xs) ∧ u ≠ .frz ob (.lst xs)) : Sim K ρ h (upd H D o) :=
  ⟨S.len, S.nd, fun l ob a e f => (S.ob l ob a e f).mono (fun _ _ e => e) (fun _ _ q => SqI.upd_old hu h1 h2 q) (by rw [upd_ne]; intro z; subst z; exact hn (mem_of_get f))⟩
theorem Sim.adopt {D : Addr} {po : PO} (S : Sim K ρ h H) (hn : D ∉ ρ) (r : RepO K ρ H po D) : Sim K (ρ ++ [D]) (h ++ [po]) H := by
  have pre : ∀ (l : Nat) a, ρ[l]? = some a → (ρ ++ [D])[l]? = some a := fun l a e => by rw [List.getElem?_append_left (List.getElem?_eq_some_iff.mp e).1]; exact e
  refine ⟨by simp [S.len], ?_, fun l ob a e f => ?_⟩
  · refine List.nodup_append.mpr ⟨S.nd, by simp, fun a ha b hb e => ?_⟩
    have : b = D := by simpa using hb
    subst this e
    exact hn ha
  · by_cases lt : l < h.length
    · rw [List.getElem?_append_left lt] at e
      rw [List.getElem?_append_left (by rw [S.len]; exact lt)] at f
      exact (S.ob l ob a e f).mono pre (fun _ _ q => q) rfl
    · have e2 : l = h.length := by
        have := (List.getElem?_eq_some_iff.mp e).1
        simp at this; omega
      subst e2
      rw [List.getElem?_append_right (Nat.le_refl _)] at e
      rw [List.getElem?_append_right (by rw [S.len]; exact Nat.le_refl _)] at f
      simp [S.len] at e f
      subst e f
      exact r.mono pre (fun _ _ q => q) rfl
theorem Ext.adopt {D : Addr} (x : Ext K ρ1 H1 ρ H) (hD : H1 D = none) : Ext K ρ1 H1 (ρ ++ [D]) H where
  pre := fun l a e => by
    have := x.pre l a e
    rw [List.getElem?_append_left (List.getElem?_eq_some_iff.mp this).1]; exact this
  tup := x.tup
  lck := x.lck
  frm := x.frm
  new := fun a e => by
    rcases List.mem_append.mp e with e | e
    · exact x.new a e
    · have : a = D := by simpa using e
      subst this
      exact .inr hD
theorem Ext.notin {D : Addr} {u : HO} (x : Ext K ρ H ρ' H') (hn : D ∉ ρ) (hu : H D = some u) : D ∉ ρ' ∧ H' D = some u := by
  refine ⟨fun e => ?_, x.frm D u hu hn⟩
  rcases x.new D e with q | q
  · exact hn q
  · rw [hu] at q; cases q
/-- an outcome's way: it is known, and what is wanted follows from the base -/
theorem PostG.okOf' {α β : Type} {o : Out α} {g : α → PH → Out β} {R : β → List Addr → Hp → Prop} (po : PostG K ρ H (o.bnd g) R) : ∃ v h', o = .ok v h' := let ⟨v, h', e, _⟩ := po.okOf; ⟨v, h', e⟩
end
section
variable {K : Fg} {fi : PSt → PH → Out MP.Itr} {fg : PV → PSt → PH → Out PSt} {ft : PSt → PH → Out Bool} {fe fk : PSt → PH → Out PV} {ws vs : List Nat} {σ : L2.St} {H : Hp} {Q : VK}
/-- the turn of a list comprehension -/
def lcTurn (fg : PV → PSt → PH → Out PSt) (ft : PSt → PH → Out Bool) (fe : PSt → PH → Out PV) (vs : List Nat) (s : PSt) (acc : List PV) (x : PV) (h : PH) : Out (List PV) :=
  (fg x (wipeP s vs) h).bnd fun s2 h => (ft s2 h).bnd fun k h => if k = true then (fe s2 h).bnd fun y h => if acc.length < sizeLine then .ok (acc ++ [y]) h else .bad else .ok acc h
theorem lc_read (hw : ∀ w ∈ ws, w ∈ vs) (q : lE K (fun s h => (fi s h).bnd fun r h => (each (lcTurn fg ft fe vs s) r [] h).bnd fun acc h => new (.lst acc) h) σ H Q) : tLc (lI K fi) (lT K ws fg) (lB K ft) (lE K fe) vs σ H Q := by
  obtain ⟨ρ, s, h, S, R, po⟩ := q
  refine ⟨ρ, s, h, S, R, ?_⟩
  obtain ⟨it, h1, e1, po1⟩ := po.okOf
  rw [e1]
  intro ρ1 H1 x1 S1 J wk D hD
  have po1 := PostG.ext po1 x1
  have R1 := R.ext x1
  refine ⟨fun i m H2 => ∃ ρ2 h2 acc us, Ext K ρ1 H1 ρ2 H2 ∧ Sim K ρ2 h2 H2 ∧ H2 D = some (.lst us) ∧ D ∉ ρ2 ∧ RepVs K ρ2 H2 acc us ∧ PostV K ρ1 H1 ((eachI (lcTurn fg ft fe vs s) it m i acc h2).bnd fun acc h => new (.lst acc) h) Q, ⟨it.fuel, ?_⟩, ?_⟩
  · refine ⟨ρ1, h1, [], [], Ext.tuple hD, S1.tuple hD, upd_same, fun z => ?_, .nil, po1⟩
    obtain ⟨u, hu, _⟩ := S1.tracked z
    rw [hD] at hu; cases hu
  · rintro i m H2 ⟨ρ2, h2, acc, us, x2, S2, hD2, nD2, ra, po2⟩
    cases m with
    | zero => exact (show False from po2).elim
    | succ m =>
      unfold eachI at po2
      obtain ⟨wstop, wgo⟩ := wk ρ2 h2 H2 i x2 S2
      cases es : itStep it i h2 with
      | none => rw [es] at po2; exact (show False from po2).elim
      | some o =>
        rw [es] at po2
        cases o with
        | none =>
          refine .inl ⟨wstop es, ?_⟩
          have po2 : PostV K ρ1 H1 (new (.lst acc) h2) Q := po2
          exact po2 (ρ2 ++ [D]) H2 (x2.adopt hD) (S2.adopt nD2 ⟨us, hD2, ra⟩) _ (.ref (push_at S2 D))
        | some p =>
          obtain ⟨go, yl⟩ := wgo p es
          refine .inr ⟨go, _, fun H' n => ⟨m, Nat.lt_succ_self m, n⟩, fun x H3 hy => ?_⟩
          obtain ⟨x3, S3, rp⟩ := yl x H3 hy
          have po3 : PostV K ρ1 H1 (((lcTurn fg ft fe vs s acc p h2).bnd fun a h => eachI (lcTurn fg ft fe vs s) it m (i + 1) a h).bnd fun acc h => new (.lst acc) h) Q := po2
          rw [Out.bnd_bnd] at po3
          obtain ⟨acc', h9, e9, po9⟩ := po3.okOf
          have R3 : RepSt K ρ2 H3 (wipeP s vs) (wipe σ vs) := (R1.ext (x2.trans x3)).wipe vs
          refine ⟨ρ2, _, h2, p, S3, R3, rp, ?_⟩
          unfold lcTurn at e9
          cases e4 : fg p (wipeP s vs) h2 with
          | exc _ _ => rw [e4] at e9; cases e9
          | bad => rw [e4] at e9; cases e9
          | ok s4 h4 =>
            rw [e4] at e9
            have e9 : ((ft s4 h4).bnd fun k h => if k = true then (fe s4 h).bnd fun y h => if acc.length < sizeLine then Out.ok (acc ++ [y]) h else .bad else .ok acc h) = .ok acc' h9 := e9
            intro ρ4 H4 x4 S4 σ4 R4 hwp
            have hwp' := hwp vs hw
            refine ⟨by rw [hwp', wipe_wipe], ?_⟩
            cases e5 : ft s4 h4 with
            | exc _ _ => rw [e5] at e9; cases e9
            | bad => rw [e5] at e9; cases e9
            | ok k h5 =>
              rw [e5] at e9
              have e9 : (if k = true then (fe s4 h5).bnd fun y h => if acc.length < sizeLine then Out.ok (acc ++ [y]) h else .bad else .ok acc h5) = .ok acc' h9 := e9
              refine ⟨ρ4, s4, h4, S4, R4, ?_⟩
              rw [e5]
              intro ρ5 H5 x5 S5
              have x25 := (x3.trans x4).trans x5
              obtain ⟨nD5, hD5⟩ := x25.notin nD2 hD2
              cases k with
              | false =>
                rw [if_neg Bool.false_ne_true] at e9
                cases e9
                refine iteF ?_
                exact ⟨ρ5, _, acc, us, x2.trans x25, S5, hD5, nD5, ra.ext x25, po9⟩
              | true =>
                rw [if_pos rfl] at e9
                refine iteT ?_
                refine ⟨ρ5, s4, h5, S5, R4.ext x5, ?_⟩
                cases e6 : fe s4 h5 with
                | exc _ _ => rw [e6] at e9; cases e9
                | bad => rw [e6] at e9; cases e9
                | ok y h6 =>
                  rw [e6] at e9
                  have e9 : (if acc.length < sizeLine then Out.ok (acc ++ [y]) h6 else .bad) = .ok acc' h9 := e9
                  split at e9 <;> try (cases e9; done)
                  rename_i hz
                  cases e9
                  intro ρ6 H6 x6 S6 Y ry
                  obtain ⟨nD6, hD6⟩ := x6.notin nD5 hD5
                  have n1 : ∀ xs, HO.lst us ≠ .tup xs := fun _ => nofun
                  have n2 : ∀ ob xs, HO.lst us ≠ .frz ob (.tup xs) ∧ HO.lst us ≠ .frz ob (.lst xs) := fun _ _ => ⟨nofun, nofun⟩
                  refine ⟨us, hD6, by rw [← ra.length]; exact hz, ρ6, _, acc ++ [y], us ++ [Y], ((x2.trans x25).trans x6).own hD hD6 n1 n2 (fun _ _ => nofun), S6.own nD6 hD6 n1 n2, upd_same, nD6, ?_, po9⟩
                  exact ((ra.ext (x25.trans x6)).append (.cons ry .nil)).mono (fun _ _ e => e) fun _ _ q => SqI.upd_old hD6 n1 n2 q
/-- the turn of a dict comprehension -/
def dcTurn (fg : PV → PSt → PH → Out PSt) (ft : PSt → PH → Out Bool) (fk fe : PSt → PH → Out PV) (vs : List Nat) (s : PSt) (acc : List (PV × PV)) (x : PV) (h : PH) : Out (List (PV × PV)) :=
  (fg x (wipeP s vs) h).bnd fun s2 h => (ft s2 h).bnd fun k h => if k = true then (fk s2 h).bnd fun y h => (fe s2 h).bnd fun z h => if isKey y ∧ acc.length < sizeLine then .ok (dPut acc y z) h else .bad else .ok acc h
theorem dc_read (hw : ∀ w ∈ ws, w ∈ vs) (q : lE K (fun s h => (fi s h).bnd fun r h => (each (dcTurn fg ft fk fe vs s) r [] h).bnd fun acc h => new (.dic acc) h) σ H Q) : tDc (lI K fi) (lT K ws fg) (lB K ft) (lE K fk) (lE K fe) vs σ H Q := by
  obtain ⟨ρ, s, h, S, R, po⟩ := q
  refine ⟨ρ, s, h, S, R, ?_⟩
  obtain ⟨it, h1, e1, po1⟩ := po.okOf
  rw [e1]
  intro ρ1 H1 x1 S1 J wk D hD
  have po1 := PostG.ext po1 x1
  have R1 := R.ext x1
  refine ⟨fun i m H2 => ∃ ρ2 h2 acc us, Ext K ρ1 H1 ρ2 H2 ∧ Sim K ρ2 h2 H2 ∧ H2 D = some (.dK us) ∧ D ∉ ρ2 ∧ RepKs K ρ2 H2 acc us ∧ PostV K ρ1 H1 ((eachI (dcTurn fg ft fk fe vs s) it m i acc h2).bnd fun acc h => new (.dic acc) h) Q, ⟨it.fuel, ?_⟩, ?_⟩
  · refine ⟨ρ1, h1, [], [], Ext.tuple hD, S1.tuple hD, upd_same, fun z => ?_, .nil, po1⟩
    obtain ⟨u, hu, _⟩ := S1.tracked z
    rw [hD] at hu; cases hu
  · rintro i m H2 ⟨ρ2, h2, acc, us, x2, S2, hD2, nD2, ra, po2⟩
    cases m with
    | zero => exact (show False from po2).elim
    | succ m =>
      unfold eachI at po2
      obtain ⟨wstop, wgo⟩ := wk ρ2 h2 H2 i x2 S2
      cases es : itStep it i h2 with
      | none => rw [es] at po2; exact (show False from po2).elim
      | some o =>
        rw [es] at po2
        cases o with
        | none =>
          refine .inl ⟨wstop es, ?_⟩
          have po2 : PostV K ρ1 H1 (new (.dic acc) h2) Q := po2
          exact po2 (ρ2 ++ [D]) H2 (x2.adopt hD) (S2.adopt nD2 ⟨us, hD2, ra⟩) _ (.ref (push_at S2 D))
        | some p =>
          obtain ⟨go, yl⟩ := wgo p es
          refine .inr ⟨go, _, fun H' n => ⟨m, Nat.lt_succ_self m, n⟩, fun x H3 hy => ?_⟩
          obtain ⟨x3, S3, rp⟩ := yl x H3 hy
          have po3 : PostV K ρ1 H1 (((dcTurn fg ft fk fe vs s acc p h2).bnd fun a h => eachI (dcTurn fg ft fk fe vs s) it m (i + 1) a h).bnd fun acc h => new (.dic acc) h) Q := po2
          rw [Out.bnd_bnd] at po3
          obtain ⟨acc', h9, e9, po9⟩ := po3.okOf
          have R3 : RepSt K ρ2 H3 (wipeP s vs) (wipe σ vs) := (R1.ext (x2.trans x3)).wipe vs
          refine ⟨ρ2, _, h2, p, S3, R3, rp, ?_⟩
          unfold dcTurn at e9
          cases e4 : fg p (wipeP s vs) h2 with
          | exc _ _ => rw [e4] at e9; cases e9
          | bad => rw [e4] at e9; cases e9
          | ok s4 h4 =>
            rw [e4] at e9
            have e9 : ((ft s4 h4).bnd fun k h => if k = true then (fk s4 h).bnd fun y h => (fe s4 h).bnd fun z h => if isKey y ∧ acc.length < sizeLine then Out.ok (dPut acc y z) h else .bad else .ok acc h) = .ok acc' h9 := e9
            intro ρ4 H4 x4 S4 σ4 R4 hwp
            have hwp' := hwp vs hw
            refine ⟨by rw [hwp', wipe_wipe], ?_⟩
            cases e5 : ft s4 h4 with
            | exc _ _ => rw [e5] at e9; cases e9
            | bad => rw [e5] at e9; cases e9
            | ok k h5 =>
              rw [e5] at e9
              have e9 : (if k = true then (fk s4 h5).bnd fun y h => (fe s4 h).bnd fun z h => if isKey y ∧ acc.length < sizeLine then Out.ok (dPut acc y z) h else .bad else .ok acc h5) = .ok acc' h9 := e9
              refine ⟨ρ4, s4, h4, S4, R4, ?_⟩
              rw [e5]
              intro ρ5 H5 x5 S5
              have x25 := (x3.trans x4).trans x5
              obtain ⟨nD5, hD5⟩ := x25.notin nD2 hD2
              cases k with
              | false =>
                rw [if_neg Bool.false_ne_true] at e9
                cases e9
                refine iteF ?_
                exact ⟨ρ5, _, acc, us, x2.trans x25, S5, hD5, nD5, ra.ext x25, po9⟩
              | true =>
                rw [if_pos rfl] at e9
                refine iteT ?_
                refine ⟨ρ5, s4, h5, S5, R4.ext x5, ?_⟩
                cases e6 : fk s4 h5 with
                | exc _ _ => rw [e6] at e9; cases e9
                | bad => rw [e6] at e9; cases e9
                | ok y h6 =>
                  rw [e6] at e9
                  have e9 : ((fe s4 h6).bnd fun z h => if isKey y ∧ acc.length < sizeLine then Out.ok (dPut acc y z) h else .bad) = .ok acc' h9 := e9
                  intro ρ6 H6 x6 S6 Y ry
                  refine ⟨ρ6, s4, h6, S6, (R4.ext x5).ext x6, ?_⟩
                  cases e7 : fe s4 h6 with
                  | exc _ _ => rw [e7] at e9; cases e9
                  | bad => rw [e7] at e9; cases e9
                  | ok z h7 =>
                    rw [e7] at e9
                    have e9 : (if isKey y ∧ acc.length < sizeLine then Out.ok (dPut acc y z) h7 else .bad) = .ok acc' h9 := e9
                    split at e9 <;> try (cases e9; done)
                    rename_i hz
                    cases e9
                    intro ρ7 H7 x7 S7 Z rz
                    obtain ⟨nD6, hD6⟩ := (x6.trans x7).notin nD5 hD5
                    obtain ⟨kk, ek⟩ := keyOf_some hz.1
                    have n1 : ∀ xs, HO.dK us ≠ .tup xs := fun _ => nofun
                    have n2 : ∀ ob xs, HO.dK us ≠ .frz ob (.tup xs) ∧ HO.dK us ≠ .frz ob (.lst xs) := fun _ _ => ⟨nofun, nofun⟩
                    refine ⟨us, kk, keyOf_V ek ry, hD6, by rw [← ra.length]; exact hz.2, ρ7, _, dPut acc y z, putK us kk Z, ((x2.trans x25).trans (x6.trans x7)).own hD hD6 n1 n2 (fun _ _ => nofun), S7.own nD6 hD6 n1 n2, upd_same, nD6, ?_, po9⟩
                    exact ((ra.ext (x25.trans (x6.trans x7))).put ek rz).mono (fun _ _ e => e) fun _ _ q => SqI.upd_old hD6 n1 n2 q
end
section
variable {X : Cx} {elt kx tg iter : Expr} {ifs : List Expr} {scope : Scope} {own : List (Str × Nat)} {pos : Pos} {fi : PSt → PH → Out MP.Itr} {fg : PV → PSt → PH → Out PSt} {ft : PSt → PH → Out Bool} {fe fk : PSt → PH → Out PV} {ws : List Nat}
theorem se_lc (hc : X.calm = true) (hN : X.N.Nodup) (hi : PI X tg iter (lI X.K fi)) (ok : BlkOk X.N X.env.scope scope own) (hw : ∀ w ∈ ws, w ∈ own.map (·.2))
    (hg : ∀ (s : Shared) (H : Hp) (C : Addr) (cl : List (Str × Addr)) (fp : List Addr), PG (X.blk s H scope (compEnvC scope cl C X.env) fp) tg (lT X.K ws fg)) (ht : ∀ (s : Shared) (H : Hp) (C : Addr) (cl : List (Str × Addr)) (fp : List Addr), PTs (X.blk s H scope (compEnvC scope cl C X.env) fp) ifs (lB X.K ft))
    (he : ∀ (s : Shared) (H : Hp) (C : Addr) (cl : List (Str × Addr)) (fp : List Addr), PE (X.blk s H scope (compEnvC scope cl C X.env) fp) elt (lE X.K fe)) (hs : ∀ x, foldedSetIterable iter X.env x = pure x) :
    PE X (.ListComp elt [⟨tg, iter, ifs, 0⟩] scope pos) (lE X.K fun s h => (fi s h).bnd fun r h => (each (lcTurn fg ft fe (own.map (·.2)) s) r [] h).bnd fun acc h => new (.lst acc) h) :=
  (pe_lc hc hN hi ok hg ht he hs).weak fun σ H Q h => lc_read hw h
theorem se_dc (hc : X.calm = true) (hN : X.N.Nodup) (hi : PI X tg iter (lI X.K fi)) (ok : BlkOk X.N X.env.scope scope own) (hw : ∀ w ∈ ws, w ∈ own.map (·.2))
    (hg : ∀ (s : Shared) (H : Hp) (C : Addr) (cl : List (Str × Addr)) (fp : List Addr), PG (X.blk s H scope (compEnvC scope cl C X.env) fp) tg (lT X.K ws fg)) (ht : ∀ (s : Shared) (H : Hp) (C : Addr) (cl : List (Str × Addr)) (fp : List Addr), PTs (X.blk s H scope (compEnvC scope cl C X.env) fp) ifs (lB X.K ft))
    (hk : ∀ (s : Shared) (H : Hp) (C : Addr) (cl : List (Str × Addr)) (fp : List Addr), PE (X.blk s H scope (compEnvC scope cl C X.env) fp) kx (lE X.K fk))
    (he : ∀ (s : Shared) (H : Hp) (C : Addr) (cl : List (Str × Addr)) (fp : List Addr), PE (X.blk s H scope (compEnvC scope cl C X.env) fp) elt (lE X.K fe)) (hs : ∀ x, foldedSetIterable iter X.env x = pure x) :
    PE X (.DictComp kx elt [⟨tg, iter, ifs, 0⟩] scope pos) (lE X.K fun s h => (fi s h).bnd fun r h => (each (dcTurn fg ft fk fe (own.map (·.2)) s) r [] h).bnd fun acc h => new (.dic acc) h) :=
  (pe_dc hc hN hi ok hg ht hk he hs).weak fun σ H Q h => dc_read hw h
end
end MP

set_option Elab.async false
set_option linter.all false
set_option maxRecDepth 100000
set_option maxHeartbeats 1000000
namespace MP
open PySem PySem.Spec PyProof.Rows L2

def PostS (K : Fg) (ρ : List Addr) (H : Hp) (o : SO) (D : Ends) : Prop :=
  match o with
  | .nx s h => ∀ ρ' H' σ', Ext K ρ H ρ' H' → Sim K ρ' h H' → RepSt K ρ' H' s σ' → D.nx σ' H'
  | .rt v h => ∀ ρ' H' V, Ext K ρ H ρ' H' → Sim K ρ' h H' → RepV K ρ' H' v V → D.rt V H'
  | .bk s h => ∀ ρ' H' σ', Ext K ρ H ρ' H' → Sim K ρ' h H' → RepSt K ρ' H' s σ' → D.bk σ' H'
  | .ct s h => ∀ ρ' H' σ', Ext K ρ H ρ' H' → Sim K ρ' h H' → RepSt K ρ' H' s σ' → D.ct σ' H'
  | _ => False
def lS (K : Fg) (f : PSt → PH → SO) : TS := fun D σ H => ∃ ρ s h, Sim K ρ h H ∧ RepSt K ρ H s σ ∧ PostS K ρ H (f s h) D

section
variable {K : Fg} {ρ ρ1 : List Addr} {H H1 : Hp} {h : PH} {σ : L2.St} {s : PSt} {D : Ends}
theorem PostS.ext {o : SO} (p : PostS K ρ H o D) (x : Ext K ρ H ρ1 H1) : PostS K ρ1 H1 o D := by
  cases o with
  | nx s h => exact fun ρ' H' σ' y S R => p ρ' H' σ' (x.trans y) S R
  | rt s h => exact fun ρ' H' σ' y S R => p ρ' H' σ' (x.trans y) S R
  | bk s h => exact fun ρ' H' σ' y S R => p ρ' H' σ' (x.trans y) S R
  | ct s h => exact fun ρ' H' σ' y S R => p ρ' H' σ' (x.trans y) S R
  | exc _ _ => exact p
  | bad => exact p
theorem PostS.okOf {α : Type} {o : Out α} {g : α → PH → SO} (po : PostS K ρ H (o.sbnd g) D) : ∃ v h', o = .ok v h' ∧ PostS K ρ H (g v h') D := by
  cases o with
  | ok v h' => exact ⟨v, h', rfl, po⟩
  | exc _ _ => exact po.elim
  | bad => exact po.elim
theorem lE.sfirst {f : PSt → PH → Out PV} {g : PV → PH → SO} {Q : VK} (S : Sim K ρ h H) (Rs : RepSt K ρ H s σ) (po : PostS K ρ H ((f s h).sbnd g) D)
    (k : ∀ v ρ' H' h' u, Ext K ρ H ρ' H' → Sim K ρ' h' H' → RepSt K ρ' H' s σ → RepV K ρ' H' v u → PostS K ρ' H' (g v h') D → Q u H') : lE K f σ H Q := by
  refine ⟨ρ, s, h, S, Rs, ?_⟩
  obtain ⟨v, h', e, po'⟩ := po.okOf
  rw [e]
  exact fun ρ' H' x S' u ru => k v ρ' H' h' u x S' (Rs.ext x) ru (po'.ext x)
theorem lB.sfirst {f : PSt → PH → Out Bool} {g : Bool → PH → SO} {Q : Bool → Hp → Prop} (S : Sim K ρ h H) (Rs : RepSt K ρ H s σ) (po : PostS K ρ H ((f s h).sbnd g) D)
    (k : ∀ v ρ' H' h', Ext K ρ H ρ' H' → Sim K ρ' h' H' → RepSt K ρ' H' s σ → PostS K ρ' H' (g v h') D → Q v H') : lB K f σ H Q := by
  refine ⟨ρ, s, h, S, Rs, ?_⟩
  obtain ⟨v, h', e, po'⟩ := po.okOf
  rw [e]
  exact fun ρ' H' x S' => k v ρ' H' h' x S' (Rs.ext x) (po'.ext x)
end

section
variable {X : Cx} {e c : Expr} {st : Stmt} {sts a b : List Stmt} {fe : PSt → PH → Out PV} {gc : PSt → PH → Out Bool} {f g : PSt → PH → SO} {pos : Pos}
theorem _root_.L2.PS.weak {t t' : TS} (h : PS X st t) (w : ∀ D σ H, t' D σ H → t D σ H) : PS X st t' := ⟨fun pins s σ H D I q => h.run pins s σ H D I (w D σ H q)⟩
theorem _root_.L2.PSs.weak {t t' : TS} (h : PSs X sts t) (w : ∀ D σ H, t' D σ H → t D σ H) : PSs X sts t' := ⟨fun pins s σ H D I q => h.run pins s σ H D I (w D σ H q)⟩
theorem ss_pass : PS X (.Pass pos) (lS X.K fun s h => .nx s h) := ps_pass.weak fun D σ H ⟨ρ, s, h, S, R, po⟩ => po ρ H σ .refl S R
theorem ss_brk : PS X (.Break pos) (lS X.K fun s h => .bk s h) := ps_break.weak fun D σ H ⟨ρ, s, h, S, R, po⟩ => po ρ H σ .refl S R
theorem ss_cont : PS X (.Continue pos) (lS X.K fun s h => .ct s h) := ps_continue.weak fun D σ H ⟨ρ, s, h, S, R, po⟩ => po ρ H σ .refl S R
theorem ss_retN : PS X (.Return none pos) (lS X.K fun s h => .rt .non h) := ps_retN.weak fun D σ H ⟨ρ, s, h, S, R, po⟩ => po ρ H _ .refl S .non
theorem ss_ret (he : PE X e (lE X.K fe)) : PS X (.Return (some e) pos) (lS X.K fun s h => (fe s h).sbnd fun v h => .rt v h) :=
  (ps_ret he).weak fun D σ H ⟨ρ, s, h, S, R, po⟩ => lE.sfirst S R po fun v ρ' H' h' u x S' R' ru po' => po' ρ' H' u .refl S' ru
theorem ss_ex (he : PE X e (lE X.K fe)) (hs : swapsWith e none pos.line X.env = pure false) : PS X (.Expr e pos) (lS X.K fun s h => (fe s h).sbnd fun _ h => .nx s h) :=
  (ps_expr he hs).weak fun D σ H ⟨ρ, s, h, S, R, po⟩ => lE.sfirst S R po fun v ρ' H' h' u x S' R' ru po' => po' ρ' H' σ .refl S' R'
theorem ss_never : PS X st (lS X.K fun _ _ => .bad) := ps_never.weak fun D σ H ⟨ρ, s, h, S, R, po⟩ => po
theorem asg_read {ws : List Nat} {fg : PV → PSt → PH → Out PSt} {D : Ends} {σ : L2.St} {H : Hp} (q : lS X.K (fun s h => (fe s h).sbnd fun v h => (fg v s h).sbnd fun s h => .nx s h) D σ H) : tAsg (lE X.K fe) (lT X.K ws fg) D σ H := by
  obtain ⟨ρ, s, h, S, R, po⟩ := q
  refine lE.sfirst S R po fun v ρ' H' h' u x S' R' ru po' => ⟨ρ', s, h', v, S', R', ru, ?_⟩
  obtain ⟨s2, h2, e2, po2⟩ := po'.okOf
  rw [e2]
  exact fun ρ2 H2 x2 S2 σ2 R2 _ => po2 ρ2 H2 σ2 x2 S2 R2
theorem ss_asg {ws : List Nat} {tg : Expr} {fg : PV → PSt → PH → Out PSt} (he : PE X e (lE X.K fe)) (hg : PG X tg (lT X.K ws fg)) (hs : swapsWithSole [tg] e pos.line X.env = pure false) (hw : swappedStores [tg] e X.env = pure none)
    (h1 : (assignEach [tg] X.env).map (·.2) = [assign tg X.env]) : PS X (.Assign [tg] e pos) (lS X.K fun s h => (fe s h).sbnd fun v h => (fg v s h).sbnd fun s h => .nx s h) :=
  (ps_asg he hg hs hw h1).weak fun D σ H q => asg_read q
theorem ss_if (hc : PT X c (lB X.K gc)) (ha : PSs X a (lS X.K f)) (hb : PSs X b (lS X.K g)) : PS X (.If c a b pos) (lS X.K fun s h => (gc s h).sbnd fun k h => if k = true then f s h else g s h) :=
  (ps_if hc ha hb).weak fun D σ H ⟨ρ, s, h, S, R, po⟩ => lB.sfirst S R po fun k ρ' H' h' x S' R' po' => by
    cases k with
    | true => rw [if_pos rfl] at po'; exact iteT ⟨ρ', s, h', S', R', po'⟩
    | false => rw [if_neg Bool.false_ne_true] at po'; exact iteF ⟨ρ', s, h', S', R', po'⟩
theorem sss_nil : PSs X [] (lS X.K fun s h => .nx s h) := pss_nil.weak fun D σ H ⟨ρ, s, h, S, R, po⟩ => po ρ H σ .refl S R
theorem sss_cons (h1 : PS X st (lS X.K f)) (h2 : PSs X sts (lS X.K g)) : PSs X (st :: sts) (lS X.K fun s h => match f s h with
    | .nx s h => g s h
    | o => o) :=
  (pss_cons h1 h2).weak fun D σ H ⟨ρ, s, h, S, R, po⟩ => by
    refine ⟨ρ, s, h, S, R, ?_⟩
    dsimp only at po
    cases e : f s h with
    | nx s' h' =>
      rw [e] at po
      exact fun ρ' H' σ' x S' R' => ⟨ρ', s', h', S', R', PostS.ext (o := g s' h') po x⟩
    | rt v h' => rw [e] at po; exact po
    | bk s' h' => rw [e] at po; exact po
    | ct s' h' => rw [e] at po; exact po
    | exc _ _ => rw [e] at po; exact po
    | bad => rw [e] at po; exact po
/-! x op= e -/
theorem ip_all {op : Operator} (hop : op = .Add ∨ op = .Sub ∨ op = .BitOr ∨ op = .Mult) : PIp X op (fun x y H Q => ∃ ρ h p q, Sim X.K ρ h H ∧ RepV X.K ρ H p x ∧ RepV X.K ρ H q y ∧ PostV X.K ρ H (match p, q with
      | .int _, .int _ => binF op p q h
      | .str _, .str _ => binF op p q h
      | _, _ => .bad) Q) := by
  intro pins s σ H x y v u Q I rx ry h
  obtain ⟨ρ, h, p, q, S, rp, rq, po⟩ := h
  split at po <;> try exact po.elim
  · cases rp; cases rq
    rcases hop with rfl | rfl | rfl | rfl
    · exact iop_add pins s σ H _ _ v u Q I rx ry ⟨_, _, rfl, rfl, PostV.now po S (.int _)⟩
    · exact iop_sub pins s σ H _ _ v u Q I rx ry ⟨_, _, rfl, rfl, PostV.now po S (.int _)⟩
    · exact iop_or pins s σ H _ _ v u Q I rx ry ⟨_, _, rfl, rfl, PostV.now po S (.int _)⟩
    · simp only [binF] at po
      split at po <;> try exact po.elim
      rename_i hz
      refine iop_mul pins s σ H _ _ v u Q I rx ry ⟨_, _, rfl, rfl, ?_, PostV.now po S (.int _)⟩
      rcases hz with hz | hz
      · exact .inl (by constructor <;> omega)
      · exact .inr (by constructor <;> omega)
  · cases rp; cases rq
    rcases hop with rfl | rfl | rfl | rfl
    · simp only [binF] at po
      split at po <;> try exact po.elim
      exact iop_add_str pins s σ H _ _ v u Q I rx ry ⟨_, _, rfl, rfl, by assumption, PostV.now po S (.str _)⟩
    · exact po.elim
    · exact po.elim
    · exact po.elim
theorem ss_aug {i : Nat} {x : Str} {op : Operator} {p : Pos} (hop : op = .Add ∨ op = .Sub ∨ op = .BitOr ∨ op = .Mult) (hN : X.N.Nodup) (hi : X.N[i]? = some x) (hx : Loc X.env.scope x) (hf : X.fn x = true ∨ X.env.scope.names.lookup x = some .local) (he : PE X e (lE X.K fe)) :
    PS X (.AugAssign (.Name x p) op e pos) (lS X.K fun s h => (slot s i h).sbnd fun x h => (fe s h).sbnd fun y h => (match x, y with
      | .int _, .int _ => binF op x y h
      | .str _, .str _ => binF op x y h
      | _, _ => Out.bad).sbnd fun z h => .nx (s.set i (some z)) h) :=
  (ps_aug hN hi hx he (ip_all hop) hf).weak fun D σ H ⟨ρ, s, h, S, R, po⟩ => by
    obtain ⟨v, h', e1, po1⟩ := po.okOf
    unfold slot at e1
    split at e1 <;> try (cases e1; done)
    rename_i v0 e0
    cases e1
    obtain ⟨u, hu, ru⟩ := R.2 i v e0
    refine ⟨u, hu, lE.sfirst S R po1 fun w ρ' H' h' z x S' R' rz po' => ?_⟩
    refine ⟨ρ', h', v, w, S', ru.ext x, rz, ?_⟩
    obtain ⟨t, h2, e2, po2⟩ := po'.okOf
    rw [e2]
    exact fun ρ2 H2 x2 S2 T rT => po2 ρ2 H2 _ x2 S2 ((R'.ext x2).set rT i)

/-! ### loops -/
theorem ss_whl {body : List Stmt} (hxe : X.xe = fun _ _ => False) (hc : PT X c (lB X.K gc)) (hb : PSs X body (lS X.K f)) (n : Nat) : PS X (.While c body [] pos) (lS X.K (whl gc f n)) := by
  have hp : PassesOwn (model X.prog X.w) X.A X.env X.xe := by rw [hxe]; exact .never
  refine (ps_while hp hc hb).weak fun D σ H q => ⟨fun m σ H => lS X.K (whl gc f m) D σ H, ⟨n, q⟩, fun m σ H q => ?_⟩
  obtain ⟨ρ, s, h, S, R, po⟩ := q
  cases m with
  | zero => exact (show False from po).elim
  | succ m =>
    unfold whl at po
    refine lB.sfirst S R po fun k ρ' H' h' x S' R' po' => ?_
    cases k with
    | false =>
      rw [if_neg Bool.false_ne_true] at po'
      exact iteF (po' ρ' H' σ .refl S' R')
    | true =>
      rw [if_pos rfl] at po'
      refine iteT ⟨fun σ' H' => lS X.K (whl gc f m) D σ' H', fun σ' H' q => ⟨m, Nat.lt_succ_self m, q⟩, ρ', s, h', S', R', ?_⟩
      cases e : f s h' with
      | nx s2 h2 => rw [e] at po'; exact fun ρ2 H2 σ2 x2 S2 R2 => ⟨ρ2, s2, h2, S2, R2, PostS.ext (o := whl gc f m s2 h2) po' x2⟩
      | ct s2 h2 => rw [e] at po'; exact fun ρ2 H2 σ2 x2 S2 R2 => ⟨ρ2, s2, h2, S2, R2, PostS.ext (o := whl gc f m s2 h2) po' x2⟩
      | bk s2 h2 => rw [e] at po'; exact po'
      | rt v h2 => rw [e] at po'; exact po'
      | exc _ _ => rw [e] at po'; exact po'
      | bad => rw [e] at po'; exact po'
theorem ss_for {tg iter : Expr} {body : List Stmt} {ws : List Nat} {fi : PSt → PH → Out MP.Itr} {fg : PV → PSt → PH → Out PSt} (hxe : X.xe = fun _ _ => False) (hc : X.calm = true) (hi : PI X tg iter (lI X.K fi)) (hg : PG X tg (lT X.K ws fg)) (hb : PSs X body (lS X.K f))
    (hs : ∀ x, foldedSetIterable iter X.env x = pure x) : PS X (.For tg iter body [] pos) (lS X.K fun s h => (fi s h).sbnd fun r h => forI fg f r r.fuel 0 s h) := by
  have hp : PassesOwn (model X.prog X.w) X.A X.env X.xe := by rw [hxe]; exact .never
  refine (ps_for hp hc hi hg hb hs).weak fun D σ H q => ?_
  obtain ⟨ρ, s, h, S, R, po⟩ := q
  refine ⟨ρ, s, h, S, R, ?_⟩
  obtain ⟨it, h1, e1, po1⟩ := po.okOf
  rw [e1]
  intro ρ1 H1 x1 S1 J wk
  refine ⟨fun i m σ H => ∃ ρ s h, Ext X.K ρ1 H1 ρ H ∧ Sim X.K ρ h H ∧ RepSt X.K ρ H s σ ∧ PostS X.K ρ H (forI fg f it m i s h) D, ⟨it.fuel, ρ1, s, h1, .refl, S1, R.ext x1, po1.ext x1⟩, ?_⟩
  rintro i m σ2 H2 ⟨ρ2, s2, h2, x2, S2, R2, po2⟩
  cases m with
  | zero => exact (show False from po2).elim
  | succ m =>
    unfold forI at po2
    obtain ⟨wstop, wgo⟩ := wk ρ2 h2 H2 i x2 S2
    cases es : itStep it i h2 with
    | none => rw [es] at po2; exact (show False from po2).elim
    | some o =>
      rw [es] at po2
      cases o with
      | none => exact .inl ⟨wstop es, po2 ρ2 H2 σ2 .refl S2 R2⟩
      | some p =>
        obtain ⟨go, yl⟩ := wgo p es
        refine .inr ⟨go, _, fun σ' H' n => ⟨m, Nat.lt_succ_self m, n⟩, fun x H3 hy => ?_⟩
        obtain ⟨x3, S3, rp⟩ := yl x H3 hy
        obtain ⟨s4, h4, e4, po4⟩ := (show PostS X.K ρ2 H2 ((fg p s2 h2).sbnd _) D from po2).okOf
        refine ⟨ρ2, s2, h2, p, S3, R2.ext x3, rp, ?_⟩
        rw [e4]
        intro ρ4 H4 x4 S4 σ4 R4 _
        have x24 := x3.trans x4
        have po4 := po4.ext x24
        refine ⟨ρ4, s4, h4, S4, R4, ?_⟩
        cases e : f s4 h4 with
        | nx s5 h5 => rw [e] at po4; exact fun ρ5 H5 σ5 x5 S5 R5 => ⟨ρ5, s5, h5, (x2.trans x24).trans x5, S5, R5, PostS.ext (o := forI fg f it m (i + 1) s5 h5) po4 x5⟩
        | ct s5 h5 => rw [e] at po4; exact fun ρ5 H5 σ5 x5 S5 R5 => ⟨ρ5, s5, h5, (x2.trans x24).trans x5, S5, R5, PostS.ext (o := forI fg f it m (i + 1) s5 h5) po4 x5⟩
        | bk s5 h5 => rw [e] at po4; exact po4
        | rt v h5 => rw [e] at po4; exact po4
        | exc _ _ => rw [e] at po4; exact po4
        | bad => rw [e] at po4; exact po4
/-- y = [..] on one line -/
theorem ss_setLc {i : Nat} {y : Str} {py : Pos} {elt tg iter : Expr} {ifs : List Expr} {scope : Scope} {own : List (Str × Nat)} {spos : Pos} {fi : PSt → PH → Out MP.Itr} {fg : PV → PSt → PH → Out PSt} {ft : PSt → PH → Out Bool} {ws : List Nat}
    (hc : X.calm = true) (hN : X.N.Nodup) (hy : X.N[i]? = some y) (hyl : X.env.scope.names.lookup y = some .local) (hsw : swapsWith (.ListComp elt [⟨tg, iter, ifs, 0⟩] scope pos) (some (.Name y py)) spos.line X.env = pure true)
    (hi : PI X tg iter (lI X.K fi)) (ok : BlkOk X.N X.env.scope scope own) (hw : ∀ w ∈ ws, w ∈ own.map (·.2))
    (hg : ∀ (s : Shared) (H : Hp) (C : Addr) (cl : List (Str × Addr)) (fp : List Addr), PG (X.blk s H scope (compEnvC scope cl C X.env) fp) tg (lT X.K ws fg)) (ht : ∀ (s : Shared) (H : Hp) (C : Addr) (cl : List (Str × Addr)) (fp : List Addr), PTs (X.blk s H scope (compEnvC scope cl C X.env) fp) ifs (lB X.K ft))
    (he : ∀ (s : Shared) (H : Hp) (C : Addr) (cl : List (Str × Addr)) (fp : List Addr), PE (X.blk s H scope (compEnvC scope cl C X.env) fp) elt (lE X.K fe)) (hs : ∀ x, foldedSetIterable iter X.env x = pure x) :
    PS X (.Assign [.Name y py] (.ListComp elt [⟨tg, iter, ifs, 0⟩] scope pos) spos) (lS X.K fun s h => ((fi s h).bnd fun r h => (each (lcTurn fg ft fe (own.map (·.2)) s) r [] h).bnd fun acc h => new (.lst acc) h).sbnd fun v h => .nx (s.set i (some v)) h) :=
  (ps_setLc hc hN hy hyl hsw hi ok hg ht he hs).weak fun D σ H q => by
    obtain ⟨ρ, s, h, S, R, po⟩ := q
    refine lc_read hw ⟨ρ, s, h, S, R, ?_⟩
    obtain ⟨v, h', e, po'⟩ := po.okOf
    have e : ((fi s h).bnd fun r h => (each (lcTurn fg ft fe (own.map (·.2)) s) r [] h).bnd fun acc h => new (.lst acc) h) = .ok v h' := e
    show PostG _ _ _ ((fi s h).bnd fun r h => (each (lcTurn fg ft fe (own.map (·.2)) s) r [] h).bnd fun acc h => new (.lst acc) h) _
    rw [e]
    exact fun ρ' H' x S' V rV => po' ρ' H' _ x S' ((R.ext x).set rV i)

/-! ### calls of own defs -/
def spOf (K : Fg) (n : Nat) (g : List PV → PH → Out PV) : Sp := fun vs H Q _ => vs.length = n ∧ lC K g vs H Q
/-- what a key of the table names: a def of the module, a method, a generator's def -/
inductive Plc where
  | glo | met (c m : Str) | gen
  deriving DecidableEq
/-- the facts of a law's text that are read of the head -/
structure KF where
  loc : Str → Plc
  cls : List Str
  noat : List (Str × Str)
  mkr : List Str
  kws : Str → List Str
def KF.none : KF := ⟨fun _ => .glo, [], [], [], fun _ => []⟩
def LocOk (K : Fg) (mg : Str → Option Value) (l : Plc) (f : Str) (fa : Addr) : Prop :=
  match l with
  | .glo => mg f = some (.ref fa)
  | .met c m => Meth K (He.ga K c) m fa
  | .gen => False
/-- where a def stands, and what it does -/
structure FnAt (X : Cx) (kf : KF) (k : Nat) (f : Str) (g : List PV → PH → Out PV) : Prop where
  ex : ∃ (fa : Addr) (fd : FuncData) (ps : List Str), LocOk X.K X.mg (kf.loc f) f fa ∧ PySem.W.keepIn X.K (.ref fa) = true ∧ (kf.kws f = [] → Binds X.K fd ps []) ∧ (kf.kws f ≠ [] → KBn X.K fd ps (ps.length - (kf.kws f).length) (kf.kws f) (fun us ws => us ++ ws) (fun us ws => us ++ ws)) ∧
    FnOk X.prog X.w X.K X.mg X.base CX0 k fa fd ps (spOf X.K ps.length g) ∧ ∀ xs h v h', g xs h = .ok v h' → xs.length = ps.length
theorem se_call {x : Str} {k : Nat} {g : List PV → PH → Out PV} {es : List Expr} {fs : PSt → PH → Out (List PV)} {p : Pos} {kf : KF} (F : FnAt X kf k x g) (hl : kf.loc x = .glo) (hkw : kf.kws x = []) (hr : Room k X.A) (hg : Gl X x) (hdb : (x == ("__debug__" : Str)) = false) (ha : PA X es (lA X.K fs))
    (he : ∀ a t, es = a :: t → starEach (a :: t) X.env = (false, eval a X.env) :: starEach t X.env) (hpl : ∀ a t, es = a :: t → (backTo pos (starEach t X.env)).any (·.1) = false) (hnil : es = [] → ∀ s h, fs s h = .ok [] h) :
    PE X (.Call (.Name x p) es [] pos) (lE X.K fun s h => (fs s h).bnd fun xs h => g xs h) := by
  obtain ⟨fa, fd, ps, hm, hk, hb, _, G, hlen⟩ := F.ex
  rw [hl] at hm
  have hm : X.mg x = some (.ref fa) := hm
  have hb := hb hkw
  cases es with
  | nil =>
    refine (pe_call0 (E := E0) G hr hg hm hk hb .nil pass0 hdb).weak fun σ H Q ⟨ρ, s, h, S, R, po⟩ => ?_
    have po : PostV X.K ρ H (g [] h) Q := by
      have po := po
      simp only [hnil rfl] at po
      exact po
    obtain ⟨v, h', e⟩ : ∃ v h', g [] h = .ok v h' := by
      cases e : g [] h with
      | ok v h' => exact ⟨v, h', rfl⟩
      | exc _ _ => rw [e] at po; exact po.elim
      | bad => rw [e] at po; exact po.elim
    exact ⟨hlen _ _ _ _ e, ρ, h, [], S, .nil, po⟩
  | cons a t =>
    refine (pe_call (E := E0) G hr hg hm hk hb .nil pass0 ha hdb (he a t rfl) (hpl a t rfl)).weak fun σ H Q ⟨ρ, s, h, S, R, po⟩ => ?_
    refine lA.first S R po fun v ρ1 H1 h1 u x1 S1 R1 e1 ru po1 => ?_
    obtain ⟨w, h', e⟩ : ∃ w h', g v h1 = .ok w h' := by
      cases e : g v h1 with
      | ok w h' => exact ⟨w, h', rfl⟩
      | exc _ _ => rw [e] at po1; exact po1.elim
      | bad => rw [e] at po1; exact po1.elim
    refine ⟨?_, ρ1, h1, v, S1, ?_, po1⟩
    · rw [List.append_nil, ← ru.length]; exact hlen _ _ _ _ e
    · rw [List.append_nil]; exact ru
end
end MP

set_option Elab.async false
set_option linter.all false
set_option maxRecDepth 100000
set_option maxHeartbeats 1000000
namespace MP
open PySem PySem.Spec PyProof.Rows L2

/-! ### displays of dicts -/
section
variable {K : Fg} {ρ : List Addr} {H : Hp}
inductive RepPs (K : Fg) (ρ : List Addr) (H : Hp) : List (PV × PV) → List (V × V) → Prop
  | nil : RepPs K ρ H [] []
  | cons {a b : PV} {x y : V} {r : List (PV × PV)} {t : List (V × V)} : RepV K ρ H a x → RepV K ρ H b y → RepPs K ρ H r t → RepPs K ρ H ((a, b) :: r) ((x, y) :: t)
theorem RepPs.keys : ∀ {ps : List (PV × PV)} {us : List (V × V)}, RepPs K ρ H ps us → (ps.all fun p => isKey p.1) = true → ∃ kvs : List (L2.Key × V), us = kvs.map (fun kv => (kV kv.1, kv.2)) ∧ RepKs K ρ H ps kvs ∧ kvs.length = ps.length
  | _, _, .nil, _ => ⟨[], rfl, .nil, rfl⟩
  | _, _, .cons (a := a) ra rb t, e => by
    simp only [List.all_cons, Bool.and_eq_true] at e
    obtain ⟨kvs, e1, e2, e3⟩ := RepPs.keys t e.2
    obtain ⟨kk, ek⟩ := keyOf_some e.1
    refine ⟨(kk, _) :: kvs, ?_, .cons ek rb e2, by simp [e3]⟩
    rw [keyOf_V ek ra, e1]
    rfl
theorem RepKs.all : ∀ {ps : List (PV × PV)} {kvs : List (L2.Key × V)} {acc : List (PV × PV)} {bcc : List (L2.Key × V)}, RepKs K ρ H ps kvs → RepKs K ρ H acc bcc → RepKs K ρ H (ps.foldl (fun a p => dPut a p.1 p.2) acc) (mergeK bcc kvs)
  | _, _, _, _, .nil, q => q
  | _, _, _, _, .cons e r t, q => by
    unfold mergeK
    rw [List.foldl_cons, List.foldl_cons]
    exact RepKs.all t (q.put e r)
end
section
variable {X : Cx} {pos : Pos}
def DispOk (X : Cx) (pos : Pos) (keys : List (Option Expr)) (values : List Expr) (fd : PSt → PH → Out (List (PV × PV))) : Prop :=
  ∃ trs, PPs X pos keys values trs ∧ ∀ ρ s h σ H (Q : List (V × V) → Hp → Prop), Sim X.K ρ h H → RepSt X.K ρ H s σ → PostG X.K ρ H (fd s h) (fun ps ρ' H' => ∀ us, RepPs X.K ρ' H' ps us → Q us H') → tPairs trs σ H Q
theorem disp_nil : DispOk X pos [] [] fun _ h => .ok [] h := ⟨[], pps_nil, fun ρ s h σ H Q S R po => po ρ H .refl S [] .nil⟩
theorem disp_cons {k v : Expr} {ks : List (Option Expr)} {vs : List Expr} {fk fv : PSt → PH → Out PV} {fd : PSt → PH → Out (List (PV × PV))} (hk : PE X k (lE X.K fk)) (hv : PE X v (lE X.K fv)) (hr : DispOk X pos ks vs fd) :
    DispOk X pos (some k :: ks) (v :: vs) fun s h => (fk s h).bnd fun x h => (fv s h).bnd fun y h => (fd s h).bnd fun ps h => .ok ((x, y) :: ps) h := by
  obtain ⟨trs, hp, hq⟩ := hr
  refine ⟨_, pps_cons hk hv hp, fun ρ s h σ H Q S R po => ?_⟩
  refine lE.first S R po fun v ρ1 H1 h1 u x1 S1 R1 e1 ru po1 => lE.first S1 R1 po1 fun w ρ2 H2 h2 z x2 S2 R2 e2 rz po2 => ?_
  refine hq ρ2 s h2 σ H2 _ S2 R2 ((PostG.bnd po2).mono fun ps ρ3 H3 x3 ⟨h3, S3, po3⟩ us r => ?_)
  exact po3 ρ3 H3 .refl S3 _ (.cons ((ru.ext x2).ext x3) (rz.ext x3) r)
theorem se_dic {keys : List (Option Expr)} {values : List Expr} {fd : PSt → PH → Out (List (PV × PV))} (hd : DispOk X pos keys values fd) (hall : keys.all (·.isSome) = true) (hl : keys.length = values.length) (h0 : keys ≠ []) (h15 : keys.length ≤ 15) :
    PE X (.Dict keys values pos) (lE X.K fun s h => (fd s h).bnd fun ps h => if (ps.all fun p => isKey p.1) = true ∧ ps.length ≤ 15 then new (.dic (dAll ps)) h else .bad) := by
  obtain ⟨trs, hp, hq⟩ := hd
  refine (pe_disp hp hall hl h0 h15).weak fun σ H Q ⟨ρ, s, h, S, R, po⟩ => fun p hp => ?_
  have x0 : Ext X.K ρ H ρ (upd H p (.dK [])) := Ext.tuple hp
  have np : p ∉ ρ := fun z => by
    obtain ⟨u, hu, _⟩ := S.tracked z
    rw [hp] at hu; cases hu
  refine hq ρ s h σ _ _ (S.tuple hp) (R.ext x0) ?_
  obtain ⟨ps, h1, e1, po1⟩ := po.okOf
  rw [e1]
  intro ρ1 H1 x1 S1 us rp
  obtain ⟨n1, e2⟩ := x1.notin np upd_same
  split at po1 <;> try exact po1.elim
  rename_i hz
  obtain ⟨kvs, e3, rk, el⟩ := rp.keys hz.1
  refine ⟨e2, kvs, e3, by rw [el]; exact hz.2, ?_⟩
  have m1 : ∀ xs, HO.dK [] ≠ .tup xs := fun _ => nofun
  have m2 : ∀ ob xs, HO.dK [] ≠ .frz ob (.tup xs) ∧ HO.dK [] ≠ .frz ob (.lst xs) := fun _ _ => ⟨nofun, nofun⟩
  have x2 := (x0.trans x1).own (o := .dK (mergeK [] kvs)) hp e2 m1 m2 (fun _ _ => nofun)
  have rk' : RepKs X.K ρ1 (upd H1 p (.dK (mergeK [] kvs))) (dAll ps) (mergeK [] kvs) := (RepKs.all rk .nil).mono (fun _ _ e => e) fun _ _ q => SqI.upd_old e2 m1 m2 q
  exact po1 (ρ1 ++ [p]) _ (x2.adopt hp) ((S1.own n1 e2 m1 m2).adopt n1 ⟨_, upd_same, rk'⟩) _ (.ref (push_at S1 p))
theorem se_dic0 : PE X (.Dict [] [] pos) (lE X.K fun s h => new (.dic []) h) :=
  pe_dnewK.weak fun σ H Q ⟨ρ, s, h, S, R, po⟩ => PostV.new po S fun a ha => ⟨[], upd_same, .nil⟩
end
end MP

set_option Elab.async false
set_option linter.all false
set_option maxRecDepth 100000
set_option maxHeartbeats 1000000
namespace MP
open PySem PySem.Spec PyProof.Rows L2

/-! ### x in d.values() -/
theorem entry_ci : entryFor table "proto.contains_iter" = some Builtin.«proto.contains_iter» := entryFor_of_fast (by kernel_rfl)
theorem plain_ci : plainId "proto.contains_iter" = true := by decide +kernel
theorem no_contains : typeLookup (.type "dict_values") "__contains__" = pure none := by rw [typeLookup_type, builtinLookup_eq_fast]; kernel_rfl
section
variable {prog : Program} {w : World} {κ : Type} [DecidableEq κ] {knd : KeyKind prog w κ} {A : Around}
theorem code_ci {it d : Addr} {ep : Nat} {kvs : List (κ × Value)} {xi : Int} {xt : Tok} {ns : List Int} {R : Result → Shared → Prop} (hh : A.handled = none) (hne : d ≠ it) (hl : ns.length = kvs.length)
    (hv : ∀ (i : Nat) (n : Int), ns[i]? = some n → ∃ k t, kvs[i]? = some (k, .int n t)) : ∀ (m i : Nat) (s : Shared), kvs.length - i = m → s.heap.IsValIter it d i kvs.length ep → s.heap.DictAt knd d kvs ep →
    (∀ h', Heap.ExtBut it s.heap h' → R (.ok (.ret (.bool (decide (xi ∈ ns.drop i))))) { s with heap := h' }) → codeAny (model prog w) A (.builtin "proto.contains_iter" ⟨[.ref it, .int xi xt], []⟩) R s := by
  intro m
  induction m with
  | zero =>
    intro i s hm hit hd hR
    refine codeAny_builtin entry_ci ?_
    rw [Around.under_plainId plain_ci]
    unfold Builtin.«proto.contains_iter»
    refine wpAny_bind (wpAny_pyNext_values_end (A := A.in1) hh hit hd (List.getElem?_eq_none (by omega)) fun h' hx => ?_)
    refine wpAny_bind (wpAny_rule ?_)
    have := hR h' hx
    rw [List.drop_eq_nil_of_le (by omega)] at this
    exact wpAny_pure this
  | succ m ih =>
    intro i s hm hit hd hR
    have hi : i < ns.length := by omega
    obtain ⟨k, t, hk⟩ := hv i ns[i] (List.getElem?_eq_getElem hi)
    refine codeAny_builtin entry_ci ?_
    rw [Around.under_plainId plain_ci]
    unfold Builtin.«proto.contains_iter»
    refine wpAny_bind (wpAny_pyNext_values_item (A := A.in1) hit hd hk fun h' hit' sb => ?_)
    have hx : Heap.ExtBut it s.heap h' := fun b o hb e => (sb.2 b hb).trans e
    rw [List.drop_eq_getElem_cons hi] at hR
    refine wpAny_bind (wpAny_eqBool_int ?_)
    by_cases e : ns[i] = xi
    · rw [if_pos (by simpa using e)]
      refine wpAny_bind (wpAny_rule ?_)
      have := hR h' hx
      rw [show decide (xi ∈ ns[i] :: ns.drop (i + 1)) = true from decide_eq_true (List.mem_cons.mpr (.inl e.symm))] at this
      exact wpAny_pure this
    · rw [if_neg (by simpa using e)]
      refine wpAny_pure ⟨plainId_quiet plain_ci _, ih (i + 1) _ (by omega) hit' (hd.extBut hx hne) fun h2 hx2 => ?_⟩
      have := hR h2 fun b o hb e => hx2 b o hb (hx b o hb e)
      rw [show decide (xi ∈ ns[i] :: ns.drop (i + 1)) = decide (xi ∈ ns.drop (i + 1)) from decide_eq_decide.mpr (List.mem_cons.trans (or_iff_right (Ne.symm e)))] at this
      exact this
theorem contains_values {E : Value → Shared → Prop} {v d : Addr} {ep : Nat} {kvs : List (κ × Value)} {xi : Int} {xt : Tok} {ns : List Int} {Q : Bool → Shared → Prop} {s : Shared} (hh : A.handled = none) (hl : ns.length = kvs.length)
    (hv : ∀ (i : Nat) (n : Int), ns[i]? = some n → ∃ k t, kvs[i]? = some (k, .int n t)) (hV : s.heap.IsValuesView v d) (hd : s.heap.DictAt knd d kvs ep)
    (hQ : ∀ h', (∀ b o, s.heap.get? b = some o → h'.get? b = some o) → Q (decide (xi ∈ ns)) { s with heap := h' }) : wpAny (model prog w) A (contains (.ref v) (.int xi xt)) Q E s := by
  unfold contains
  refine wpAny_holding ?_
  rw [stdlibNamesSay?_of_typeIs hV.typeIs]
  refine wpAny_bind (wpAny_specialOf hV.typeIs no_contains ?_)
  show wpAny _ _ (if (none == some Value.none) = true then _ else _) _ _ s
  rw [if_neg (by simp)]
  refine wpAny_bind ?_
  unfold callSpecialUnlessNone?
  refine wpAny_bind (wpAny_specialOf hV.typeIs no_contains (wpAny_pure ?_))
  refine wpAny_bind (wpAny_rule ?_)
  refine wpAny_bind ?_
  refine wpAny_tryCatch (wpAny_pyIter_values hV hd ?_)
  have hlt : d < s.heap.objs.size := hd.lt_size
  refine wpAny_bind (wpAny_runValue (code_ci (knd := knd) (kvs := kvs) (d := d) (ep := ep) (ns := ns) hh (Nat.ne_of_lt hlt) hl hv _ 0 _ rfl ⟨_, Heap.get?_push_size _ rfl, rfl, rfl⟩ (hd.push _) fun h' hx => ?_))
  refine wpAny_pure (hQ h' fun b o e => hx b o (Nat.ne_of_lt (Heap.lt_size e)) (Heap.get?_push_of_some _ e))
end
section
variable {X : Cx} {a e : Expr} {fa fe : PSt → PH → Out PV} {pos cpos apos : Pos}
theorem RepKs.ints {K : Fg} {ρ : List Addr} {H : Hp} : ∀ {kvs : List (PV × PV)} {ks : List (L2.Key × V)} {ns : List Int}, RepKs K ρ H kvs ks → intsOf (kvs.map (·.2)) = some ns → ks.map (·.2) = ns.map V.int
  | _, _, ns, .nil, e => by simp [intsOf] at e; subst e; rfl
  | (_, p) :: r, _, ns, .cons _ q t, e => by
    cases p <;> simp only [List.map_cons, intsOf, reduceCtorEq] at e
    obtain ⟨l, e1, e2⟩ := Option.map_eq_some_iff.mp e
    subst e2
    cases q
    simp only [List.map_cons, RepKs.ints t e1]
theorem kv_ints {ks : List (L2.Key × V)} {vs : List (L2.Key × Value)} {ns : List Int} (h : KV ks vs) (e : ks.map (·.2) = ns.map V.int) : ns.length = vs.length ∧ ∀ (i : Nat) (n : Int), ns[i]? = some n → ∃ k t, vs[i]? = some (k, .int n t) := by
  have l1 : ks.length = vs.length := Paired.length h
  have l2 : ks.length = ns.length := by simpa using congrArg List.length e
  refine ⟨by omega, fun i n hn => ?_⟩
  have hi : (ks.map (·.2))[i]? = some (V.int n) := by rw [e, List.getElem?_map, hn]; rfl
  rw [List.getElem?_map, Option.map_eq_some_iff] at hi
  obtain ⟨⟨k, x⟩, h1, h2⟩ := hi
  simp only at h2
  subst h2
  obtain ⟨u, hu, t, rfl⟩ := kv_get h h1
  exact ⟨k, t, hu⟩
theorem pc_inv {op : CmpOp} (hc : X.calm = true) (hop : op = .In ∨ op = .NotIn) (ha : PE X a (lE X.K fa)) (he : PE X e (lE X.K fe)) (hbase : attributeBase e "values" X.env (eval e X.env) = eval e X.env) (hline : (apos.endLine == cpos.line) = true) :
    PC X op a (.Call (.Attribute e "values" apos) [] [] cpos) (lE X.K fun s h => (fa s h).bnd fun x h => (fe s h).bnd fun y h => invF (decide (op = .NotIn)) x y h) := by
  refine ⟨fun pins s σ H Q I ⟨ρ, s', h, S, R, po⟩ => ?_⟩
  refine thn (ha.run pins s σ H _ I (lE.first S R po fun v ρ1 H1 h1 u x1 S1 R1 e1 ru po1 => (show (fun (x : V) (H1 : Hp) => ∃ ρ1 v h1, Sim X.K ρ1 h1 H1 ∧ RepSt X.K ρ1 H1 s' σ ∧ RepV X.K ρ1 H1 v x ∧ PostV X.K ρ1 H1 ((fe s' h1).bnd fun y h => invF (decide (op = .NotIn)) v y h) Q) u H1 from ⟨ρ1, v, h1, S1, R1, ru, po1⟩))) fun xv s1 ⟨x, H1, I1, rx, ρ1, v, h1, S1, R1, ru, po1⟩ => ?_
  refine wpAny_Call_method (T := "dict") (id := "dict.values") hbase rfl hline PySem.F.plainAttrs_dict PySem.F.slot_dict_values PySem.F.type_dict_values (thn (he.run pins s1 σ H1 _ I1 (lE.first S1 R1 po1 fun y ρ2 H2 h2 u x2 S2 R2 e2 ry po2 => (show (fun (z : V) (H2 : Hp) => ∃ ρ2 v y h2, Sim X.K ρ2 h2 H2 ∧ RepV X.K ρ2 H2 v x ∧ RepV X.K ρ2 H2 y z ∧ PostV X.K ρ2 H2 (invF (decide (op = .NotIn)) v y h2) Q) u H2 from ⟨ρ2, v, y, h2, S2, ru.ext x2, ry, po2⟩))) fun uv s2 ⟨z, H2, I2, rz, ρ2, v2, y, h2, S2, rv2, ry, po2⟩ => ?_)
  unfold invF at po2
  split at po2 <;> try exact po2.elim
  rename_i i l
  split at po2 <;> try exact po2.elim
  rename_i kvs hl
  split at po2 <;> try exact po2.elim
  rename_i ns hns
  cases rv2
  cases ry with
  | @ref _ d ea =>
    obtain ⟨o, ks, eD, rK⟩ := S2.lck hl ea
    obtain ⟨xt, rfl⟩ := rx
    obtain rfl : uv = Value.ref d := rz
    obtain ⟨hs, hgd, hx, es, ep, vs, hdt, hsz, kv, hm⟩ := I2.frzK eD
    obtain ⟨kl, kg⟩ := kv_ints kv (rK.ints hns)
    refine ⟨hm.dictOf.typeIs, hm.dictOf.mapOf.noDict, ?_⟩
    have fin : wpAny (model X.prog X.w) X.A (contains (.ref s2.heap.objs.size) (.int i xt)) (fun b s' => b = decide (i ∈ ns) ∧ Inv X pins σ H2 s') X.xe { s2 with heap := s2.heap.push { cls := .type "dict_values", data := .fields #[.ref d] } } :=
      contains_values (knd := mixKind X.prog X.w) (I2.ok.hd hc) kl kg ⟨_, Heap.get?_push_size _ rfl, rfl, rfl⟩ (hm.push _) fun h' k => ⟨rfl, I2.kept (t' := s2.toks) fun b ob q => k b ob (Heap.get?_push_of_some _ q)⟩
    have fin2 : wpAny (model X.prog X.w) X.A (compareOp op (.int i xt) (.ref s2.heap.objs.size)) (EP X pins σ Q) X.xe { s2 with heap := s2.heap.push { cls := .type "dict_values", data := .fields #[.ref d] } } := by
      rcases hop with rfl | rfl
      · show wpAny _ _ (do return Value.bool (← contains _ _)) _ _ _
        exact wpAny_bind (thn fin fun b s' ⟨eb, I'⟩ => wpAny_pure ⟨.bl b, H2, I', rfl, by rw [eb]; exact (show PostV X.K ρ2 H2 (.ok (.bl (decide (CmpOp.In = CmpOp.NotIn) != decide (i ∈ ns))) h2) Q from po2).now S2 (by simpa using RepV.bl _)⟩)
      · show wpAny _ _ (do return Value.bool (!(← contains _ _))) _ _ _
        exact wpAny_bind (thn fin fun b s' ⟨eb, I'⟩ => wpAny_pure ⟨.bl (!b), H2, I', rfl, by rw [eb]; exact (show PostV X.K ρ2 H2 (.ok (.bl (decide (CmpOp.NotIn = CmpOp.NotIn) != decide (i ∈ ns))) h2) Q from po2).now S2 (by simpa using RepV.bl _)⟩)
    show wpAny _ _ (callWith cpos (.builtin "dict.values") [.ref d] [] []) _ X.xe s2
    exact method_meetsIn PySem.F.slot_dict_values PySem.F.entry_dict_values rfl (PySem.evalArgs_none ⟨rfl, hm.dictOf.typeIs, PySem.F.args_dict_values_1 _, _, meets_dict_values (mixKind X.prog X.w) d hs, ⟨vs, hm.dictOf⟩, fin2⟩)
theorem invF_bl {n : Bool} {x y z : PV} {h h' : PH} (e : invF n x y h = .ok z h') : ∃ b, z = .bl b := by
  unfold invF at e
  split at e <;> try (cases e; done)
  split at e <;> try (cases e; done)
  split at e <;> try (cases e; done)
  cases e
  exact ⟨_, rfl⟩
theorem behind_call {op : CmpOp} {f : Expr} {as : List Expr} {ks : List Keyword} {p : Pos} : behindInMarks op (.Call f as ks p) = false := rfl
theorem se_inv {op : CmpOp} (hc : X.calm = true) (hop : op = .In ∨ op = .NotIn) (ha : PE X a (lE X.K fa)) (he : PE X e (lE X.K fe)) (hbase : attributeBase e "values" X.env (eval e X.env) = eval e X.env) (hline : (apos.endLine == cpos.line) = true) :
    PE X (.Compare a [op] [.Call (.Attribute e "values" apos) [] [] cpos] pos) (lE X.K fun s h => (fa s h).bnd fun x h => (fe s h).bnd fun y h => invF (decide (op = .NotIn)) x y h) := pe_cmp (pc_inv hc hop ha he hbase hline) behind_call
theorem st_inv {op : CmpOp} (hc : X.calm = true) (hop : op = .In ∨ op = .NotIn) (ha : PE X a (lE X.K fa)) (he : PE X e (lE X.K fe)) (hbase : attributeBase e "values" X.env (eval e X.env) = eval e X.env) (hline : (apos.endLine == cpos.line) = true) :
    PT X (.Compare a [op] [.Call (.Attribute e "values" apos) [] [] cpos] pos) (lB X.K fun s h => (fa s h).bnd fun x h => (fe s h).bnd fun y h => (invF (decide (op = .NotIn)) x y h).bnd asB) := by
  refine (pt_cmp (pc_inv hc hop ha he hbase hline) behind_call).weak fun σ H Q ⟨ρ, s, h, S, R, po⟩ => ?_
  obtain ⟨x, h1, e1, po1⟩ := po.okOf
  obtain ⟨y, h2, e2, po2⟩ := po1.okOf
  obtain ⟨z, h3, e3, po3⟩ := po2.okOf
  obtain ⟨b, rfl⟩ := invF_bl e3
  refine ⟨ρ, s, h, S, R, ?_⟩
  have ea : ((fa s h).bnd fun x h => (fe s h).bnd fun y h => invF (decide (op = .NotIn)) x y h) = .ok (.bl b) h3 := by
    rw [e1]
    show ((fe s h1).bnd _) = _
    rw [e2]
    exact e3
  show PostV X.K ρ H ((fa s h).bnd fun x h => (fe s h).bnd fun y h => invF (decide (op = .NotIn)) x y h) _
  rw [ea]
  intro ρ' H' x' S' V rV
  cases rV
  exact ⟨b, rfl, po3 ρ' H' x' S'⟩

/-! ### a dict that is walked -/
theorem Ext.unlock {K : Fg} {ρ ρ' : List Addr} {H H' : Hp} {p : Addr} {od : Obj} {u : HO} {ks : List (L2.Key × V)} (hu : u = .dK ks) (hp : H p = some u) (hm : p ∈ ρ) (x : Ext K ρ (upd H p (.frz od u)) ρ' H') (ht : ∀ a xs, SqI K H a xs → SqI K (upd H p (.frz od u)) a xs)
    (ht' : ∀ a xs, SqI K H' a xs → SqI K (upd H' p u) a xs) : Ext K ρ H ρ' (upd H' p u) where
  pre := x.pre
  tup := fun a xs q => ht' a xs (x.tup a xs (ht a xs q))
  frm := fun a o e n => by
    have ne : a ≠ p := fun z => n (z ▸ hm)
    rw [upd_ne ne]
    exact x.frm a o (by rw [upd_ne ne]; exact e) n
  new := fun a e => by
    rcases x.new a e with q | q
    · exact .inl q
    · by_cases z : a = p
      · rw [z, upd_same] at q; cases q
      · rw [upd_ne z] at q; exact .inr q
  lck := fun a o w e => by
    have ne : a ≠ p := fun z => by rw [z, hp, hu] at e; cases e
    rw [upd_ne ne]
    exact x.lck a o w (by rw [upd_ne ne]; exact e)
theorem se_lock {i : Nat} (he : PE X e (lE X.K fe)) : PE X e (lE X.K fun s h => (slot s i h).bnd fun x h => match x with
    | .ref l => (match h[l]? with
      | some (.dic kvs) => (fe s (h.set l (.lck kvs))).bnd fun v h => (match h[l]? with
        | some (.lck kvs) => .ok v (h.set l (.dic kvs))
        | _ => .bad)
      | _ => .bad)
    | _ => .bad) := by
  refine (pe_lock he).weak fun σ H Q ⟨ρ, s, h, S, R, po⟩ => ?_
  obtain ⟨v, h1, ev, po⟩ := po.okOf
  unfold slot at ev
  split at ev <;> cases ev
  rename_i hv
  split at po <;> try exact po.elim
  rename_i l
  split at po <;> try exact po.elim
  rename_i kvs hl
  obtain ⟨u, hu, ru⟩ := R.2 i _ hv
  cases ru with
  | @ref _ d ea =>
    obtain ⟨ks, eD, rK⟩ := S.dic hl ea
    refine ⟨d, .dK ks, eD, True.intro, fun od => ?_⟩
    have t1 : ∀ a xs, SqI X.K H a xs → SqI X.K (upd H d (.frz od (.dK ks))) a xs := set_tup S ea
    have x1 : Ext X.K ρ H ρ (upd H d (.frz od (.dK ks))) := Ext.set S ea (nfD eD)
    have S1 : Sim X.K ρ (h.set l (.lck kvs)) (upd H d (.frz od (.dK ks))) := S.set ea ⟨od, ks, upd_same, rK.ext x1⟩
    refine ⟨ρ, s, h.set l (.lck kvs), S1, R.ext x1, ?_⟩
    obtain ⟨w, h2, e2, po2⟩ := po.okOf
    rw [e2]
    intro ρ2 H2 x2 S2 V rV
    split at po2 <;> try exact po2.elim
    rename_i kvs2 hl2
    have ea2 := x2.pre _ _ ea
    have eL : H2 d = some (.frz od (.dK ks)) := x2.lck d od ks upd_same
    obtain ⟨o2, ks2, eD2, rK2⟩ := S2.lck hl2 ea2
    rw [eL] at eD2
    cases eD2
    have t2 : ∀ a xs, SqI X.K H2 a xs → SqI X.K (upd H2 d (.dK ks)) a xs := set_tup S2 ea2
    have x3 : Ext X.K ρ H ρ2 (upd H2 d (.dK ks)) := Ext.unlock rfl eD (mem_of_get ea) x2 t1 t2
    exact ⟨eL, po2 ρ2 _ x3 (S2.set ea2 ⟨ks, upd_same, rK2.mono (fun _ _ e => e) t2⟩) V (rV.mono (fun _ _ e => e) t2)⟩
theorem wk_keys {K : Fg} {ρ : List Addr} {H : Hp} {d : Addr} {o : Obj} {kvs : List (PV × PV)} {ks : List (L2.Key × V)} (e : H d = some (.frz o (.dK ks))) (r : RepKs K ρ H kvs ks) : Wk K (Itk d o ks) (.vals (kvs.map (·.1))) ρ H := fun ρ' h' H' i x S => by
  have e' := x.lck d o ks e
  have r' := r.ext x
  have rk := r'.keys
  refine ⟨fun ei => ?_, fun p ei => ?_⟩
  · have ei : (kvs.map (·.1))[i]? = none := by simpa [itStep] using ei
    refine ⟨e', ?_⟩
    have := List.getElem?_eq_none_iff.mp ei
    rw [rk.length, List.length_map] at this
    exact this
  · have ei : (kvs.map (·.1))[i]? = some p := by simpa only [itStep, Option.some.injEq] using ei
    obtain ⟨u, hu, ru⟩ := rk.get ei
    rw [List.getElem?_map, Option.map_eq_some_iff] at hu
    obtain ⟨⟨k, v⟩, hk, rfl⟩ := hu
    refine ⟨⟨e', (List.getElem?_eq_some_iff.mp hk).1⟩, fun y H2 hy => ?_⟩
    obtain ⟨rfl, k', v', hk', rfl⟩ := hy
    rw [hk] at hk'
    cases hk'
    exact ⟨.refl, S, ru⟩
theorem si_keys {tg : Expr} (he : PE X e (lE X.K fe)) : PI X tg e (lI X.K fun s h => (fe s h).bnd fun x h => match x with
    | .ref l => (match h[l]? with
      | some (.lck kvs) => .ok (.vals (kvs.map (·.1))) h
      | _ => .bad)
    | _ => .bad) := by
  refine (pi_keys he).weak fun σ H R ⟨ρ, s, h, S, Rs, po⟩ => ?_
  refine lE.first S Rs po fun v ρ1 H1 h1 u x1 S1 R1 e1 ru po1 => ?_
  split at po1 <;> try exact po1.elim
  rename_i l
  split at po1 <;> try exact po1.elim
  rename_i kvs hl
  cases ru with
  | @ref _ d ea =>
    obtain ⟨o, ks, eD, rK⟩ := S1.lck hl ea
    exact ⟨d, o, rfl, .inl ⟨ks, eD, po1.now S1 _ (wk_keys eD rK)⟩⟩

/-! ### isinstance -/
theorem tyP_ok {ρ : List Addr} {H : Hp} {h : PH} (S : Sim X.K ρ h H) {p : PV} {v : V} {t : String} (r : RepV X.K ρ H p v) (e : tyP p h = some t) : TyX X.K H v (.type t) := by
  cases r with
  | non => cases e; exact .base .non
  | bl b => cases e; exact .base (.bl _)
  | int b => cases e; exact .base (.int _)
  | str b => cases e; exact .base (.str _)
  | tup q _ =>
    cases e
    rcases q with (q | ⟨o, q⟩) | ⟨o, its, n, q1, q2, _⟩
    · exact .base (.tup q)
    · exact .fTuple q
    · exact .kTuple q1 q2
  | fro q _ =>
    cases e
    rcases q with ⟨o, q⟩ | ⟨o, its, n, q1, q2, _⟩
    · exact .base (.frz q)
    · exact .kList q1 q2
  | ref ea =>
    unfold tyP at e
    dsimp only at e
    split at e
    · rename_i hl; cases e; obtain ⟨_, e1, _⟩ := S.lst hl ea; exact .base (.lst e1)
    · rename_i hl; cases e; obtain ⟨_, e1, _⟩ := S.dic hl ea; exact .base (.dK e1)
    · rename_i hl; cases e; obtain ⟨_, _, e1, _⟩ := S.lck hl ea; exact .fDict e1
    · cases e
theorem ty_val {f : Bi} {t : String} (e : f.ty = some t) : f.val = .type t := by
  cases f <;> simp [Bi.ty] at e <;> subst e <;> rfl
theorem se_isi {f : Bi} {x : Expr} {p1 p2 pos : Pos} {fx : PSt → PH → Out PV} (ht : f.ty.isSome = true) (hg : Gl X "isinstance") (hm : X.mg "isinstance" = none) (hg2 : Gl X f.name) (hm2 : X.mg f.name = none) (ha : PE X x (lE X.K fx))
    (hs : starEach (x :: [Expr.Name f.name p2]) X.env = (false, eval x X.env) :: starEach [Expr.Name f.name p2] X.env) : PE X (.Call (.Name "isinstance" p1) [x, .Name f.name p2] [] pos) (lE X.K fun s h => (fx s h).bnd fun v h => isiF f v h) := by
  obtain ⟨t, ht⟩ := Option.isSome_iff_exists.mp ht
  have hn : f.name ≠ "__name__" := by cases f <;> decide
  have hd : (f.name == ("__debug__" : Str)) = false := by cases f <;> decide
  have hv := f.boot
  rw [ty_val ht] at hv
  have p2' : PE X (.Name f.name p2) (tC (.ty t)) := pe_bltn hg2 hm2 hv rfl hn hd
  refine (pe_callB call_isi hg hm (by decide +kernel) (pa_cons ha (pa_cons p2' pa_nil rfl) hs) (by decide) (by decide) hs rfl).weak fun σ H Q ⟨ρ, s, h, S, R, po⟩ => ?_
  refine lE.first S R po fun v ρ1 H1 h1 u x1 S1 R1 e1 ru po1 => ?_
  unfold isiF at po1
  split at po1 <;> try exact po1.elim
  rename_i a b ea eb
  split at po1 <;> try exact po1.elim
  rename_i r er
  rw [ht] at eb
  cases eb
  exact ⟨u, .ty t, _, _, r, rfl, .ty t, tyP_ok S1 ru ea, kit_ty er, PostV.now po1 S1 (.bl r)⟩

/-! ### list(range(..)) -/
theorem rg_rep {K : Fg} {ρ : List Addr} {H : Hp} (a b : Int) : RepVs K ρ H (rngI a (b - a).toNat) (rgV a b) := by
  unfold rngI rgV
  generalize List.range (b - a).toNat = l
  induction l with
  | nil => exact .nil
  | cons x r ih => exact .cons (.int _) ih
def tLr (tup : Bool) (a b : Int) (H : Hp) (Q : VK) : Prop := RgOk a b ∧ ∀ q, H q = none → Q (.ref q) (upd H q (if tup = true then .tup (rgV a b) else .lst (rgV a b)))
theorem lr_post {tup : Bool} {a b : Int} {ρ : List Addr} {H : Hp} {h : PH} {Q : VK} (S : Sim X.K ρ h H) (ha : small a = true) (hb : small b = true) (hn : (b - a).toNat ≤ 2 ^ 24)
    (po : PostV X.K ρ H (if tup = true then .ok (.tup (rngI a (b - a).toNat)) h else new (.lst (rngI a (b - a).toNat)) h) Q) : tLr tup a b H Q := by
  have h1 := small_iff ha
  have h2 := small_iff hb
  refine ⟨⟨h1.1, h1.2, h2.1, h2.2, hn⟩, ?_⟩
  cases tup with
  | true => exact PostV.tup po S (rg_rep a b)
  | false => exact PostV.newL po S (rg_rep a b)
theorem pe_lr {tup : Bool} {e : Expr} {te : L2.St → Hp → (Int → Int → Hp → Prop) → Prop} {p pos : Pos} (hc : X.calm = true) {x : Str} (hx : x = if tup = true then ("tuple" : Str) else "list") (hg : Gl X x) (hm : X.mg x = none) (he : PRg X e te)
    (na : starEach [e] X.env = (false, eval e X.env) :: starEach [] X.env) : PE X (.Call (.Name x p) [e] [] pos) (fun σ H Q => te σ H fun a b H1 => tLr tup a b H1 Q) := by
  cases tup with
  | true => subst hx; exact pe_tupRg hc hg hm he na
  | false => subst hx; exact pe_listRg hc hg hm he na
theorem se_lrg1 {tup : Bool} {a : Expr} {fa : PSt → PH → Out PV} {p p2 pos pos2 : Pos} (hc : X.calm = true) {x : Str} (hx : x = if tup = true then ("tuple" : Str) else "list") (hg : Gl X x) (hm : X.mg x = none) (hg2 : Gl X "range") (hm2 : X.mg "range" = none)
    (ha : PE X a (lE X.K fa)) (hs : starEach [a] X.env = (false, eval a X.env) :: starEach [] X.env) : PE X (.Call (.Name x p) [.Call (.Name "range" p2) [a] [] pos2] [] pos) (lE X.K fun s h => (fa s h).bnd fun x h => lrgF tup [x] h) := by
  refine (pe_lr hc hx hg hm (prg_1 hg2 hm2 ha hs) rfl).weak fun σ H Q ⟨ρ, s, h, S, R, po⟩ => ?_
  refine lE.first S R po fun v ρ1 H1 h1 u x1 S1 R1 e1 ru po1 => ?_
  unfold lrgF at po1
  split at po1
  · rename_i n eq
    cases eq
    split at po1 <;> try exact po1.elim
    rename_i hz
    cases ru
    exact ⟨_, rfl, lr_post S1 (by decide) hz.1 (by simpa using hz.2) (by simpa using po1)⟩
  · rename_i eq; cases eq
  · exact po1.elim
theorem se_lrg2 {tup : Bool} {a b : Expr} {fa fb : PSt → PH → Out PV} {p p2 pos pos2 : Pos} (hc : X.calm = true) {x : Str} (hx : x = if tup = true then ("tuple" : Str) else "list") (hg : Gl X x) (hm : X.mg x = none) (hg2 : Gl X "range") (hm2 : X.mg "range" = none)
    (ha : PE X a (lE X.K fa)) (hb : PE X b (lE X.K fb)) (hs : starEach [a, b] X.env = (false, eval a X.env) :: starEach [b] X.env) (hs2 : starEach [b] X.env = (false, eval b X.env) :: starEach [] X.env) (hp : (backTo pos2 (starEach [b] X.env)).any (·.1) = false) :
    PE X (.Call (.Name x p) [.Call (.Name "range" p2) [a, b] [] pos2] [] pos) (lE X.K fun s h => (fa s h).bnd fun x h => (fb s h).bnd fun y h => lrgF tup [x, y] h) := by
  refine (pe_lr hc hx hg hm (prg_2 hg2 hm2 ha hb hs hs2 hp) rfl).weak fun σ H Q ⟨ρ, s, h, S, R, po⟩ => ?_
  refine lE.first S R po fun v ρ1 H1 h1 u x1 S1 R1 e1 ru po1 => ?_
  refine lE.first S1 R1 po1 fun w ρ2 H2 h2 z x2 S2 R2 e2 rz po2 => ?_
  unfold lrgF at po2
  split at po2
  · rename_i eq; cases eq
  · rename_i i j eq
    cases eq
    split at po2 <;> try exact po2.elim
    rename_i hz
    cases ru
    cases rz
    exact ⟨_, _, rfl, rfl, lr_post S2 hz.1 hz.2.1 hz.2.2 po2⟩
  · exact po2.elim
end
end MP

set_option Elab.async false
set_option linter.all false
set_option maxRecDepth 100000
set_option maxHeartbeats 1000000
namespace MP
open PySem PySem.Spec PyProof.Rows L2
section
variable {X : Cx} {e : Expr} {fe : PSt → PH → Out PV} {pos : Pos}
/-! ### reversed(tuple) -/
theorem wk_rev {K : Fg} {ρ : List Addr} {H : Hp} {a : Addr} {xs : List V} {ps : List PV} (q : SqT K H a xs) (r : RepVs K ρ H ps xs) : Wk K (RT.ItvT K a xs.length) (.vals ps.reverse) ρ H := fun ρ' h' H' i x S => by
  have q' : SqT K H' a xs := x.tup a (true, xs) q
  have r' := r.ext x
  have hl := r.length
  refine ⟨fun e => ?_, fun p e => ?_⟩
  · have e : ps.reverse[i]? = none := by simpa [itStep] using e
    have := List.getElem?_eq_none_iff.mp e
    rw [List.length_reverse, hl] at this
    exact this
  · have e : ps.reverse[i]? = some p := by simpa only [itStep, Option.some.injEq] using e
    have lt := (List.getElem?_eq_some_iff.mp e).1
    rw [List.length_reverse] at lt
    rw [List.getElem?_reverse lt] at e
    obtain ⟨u, hu, ru⟩ := r'.get e
    rw [hl] at hu
    refine ⟨⟨by rw [← hl]; exact lt, xs, u, q', hu⟩, fun y H2 hy => ?_⟩
    obtain ⟨rfl, hy⟩ := hy
    have := hy xs q'
    rw [hu] at this
    cases this
    exact ⟨.refl, S, ru⟩
theorem si_rev {tg : Expr} {p : Pos} (hg : Gl X "reversed") (hm : X.mg "reversed" = none) (he : PE X e (lE X.K fe)) (hs : starEach [e] X.env = (false, eval e X.env) :: starEach [] X.env) :
    PI X tg (.Call (.Name "reversed" p) [e] [] pos) (lI X.K fun s h => (fe s h).bnd fun x h => match x with
    | .tup xs => .ok (.vals xs.reverse) h
    | _ => .bad) := by
  refine (RT.pi_revA hg hm he hs).weak fun σ H R ⟨ρ, s, h, S, Rs, po⟩ => ?_
  refine lE.first S Rs po fun v ρ1 H1 h1 u x1 S1 R1 e1 ru po1 => ?_
  split at po1 <;> try exact po1.elim
  cases ru with
  | tup q r => exact ⟨_, _, rfl, .inr ⟨q, po1.now S1 _ (wk_rev q r)⟩⟩

/-! ### a statement while a dict is walked -/
theorem ss_lk {st : Stmt} {C : PSt → PH → Out PV} {f : PSt → PH → SO} (hst : PS X st (lS X.K f)) : PS X st (lS X.K fun s h => (C s h).sbnd fun x _ => match x with
    | .ref l => (match h[l]? with
      | some (.dic kvs) => unlk l (f s (h.set l (.lck kvs)))
      | _ => .bad)
    | _ => .bad) := by
  refine (ps_lock hst).weak fun D σ H ⟨ρ, s, h, S, R, po⟩ => ?_
  obtain ⟨v, h1, ev, po⟩ := po.okOf
  split at po <;> try exact po.elim
  rename_i l
  split at po <;> try exact po.elim
  rename_i kvs hl
  obtain ⟨d, ea, kobj⟩ := S.at hl
  obtain ⟨ks, eD, rK⟩ := S.dic hl ea
  refine ⟨d, .dK ks, eD, True.intro, fun od => ?_⟩
  have t1 : ∀ a xs, SqI X.K H a xs → SqI X.K (upd H d (.frz od (.dK ks))) a xs := set_tup S ea
  have x1 : Ext X.K ρ H ρ (upd H d (.frz od (.dK ks))) := Ext.set S ea (nfD eD)
  have S1 : Sim X.K ρ (h.set l (.lck kvs)) (upd H d (.frz od (.dK ks))) := S.set ea ⟨od, ks, upd_same, rK.ext x1⟩
  refine ⟨ρ, s, h.set l (.lck kvs), S1, R.ext x1, ?_⟩
  have fin : ∀ {ρ2 : List Addr} {H2 : Hp} {h2 h3 : PH}, Ext X.K ρ (upd H d (.frz od (.dK ks))) ρ2 H2 → Sim X.K ρ2 h2 H2 → free l h2 = some h3 →
      H2 d = some (.frz od (.dK ks)) ∧ Ext X.K ρ H ρ2 (upd H2 d (.dK ks)) ∧ Sim X.K ρ2 h3 (upd H2 d (.dK ks)) ∧ (∀ a xs, SqI X.K H2 a xs → SqI X.K (upd H2 d (.dK ks)) a xs) := by
    intro ρ2 H2 h2 h3 x2 S2 ef
    unfold free at ef
    split at ef <;> cases ef
    rename_i kvs2 hl2
    have ea2 := x2.pre _ _ ea
    have eL : H2 d = some (.frz od (.dK ks)) := x2.lck d od ks upd_same
    obtain ⟨o2, ks2, eD2, rK2⟩ := S2.lck hl2 ea2
    rw [eL] at eD2
    cases eD2
    have t2 : ∀ a xs, SqI X.K H2 a xs → SqI X.K (upd H2 d (.dK ks)) a xs := set_tup S2 ea2
    exact ⟨eL, Ext.unlock rfl eD (mem_of_get ea) x2 t1 t2, S2.set ea2 ⟨ks, upd_same, rK2.mono (fun _ _ e => e) t2⟩, t2⟩
  cases ef : f s (h.set l (.lck kvs)) with
  | nx s2 h2 =>
    rw [ef] at po
    unfold unlk at po
    dsimp only at po
    split at po <;> try exact po.elim
    rename_i h3 e3
    exact fun ρ2 H2 σ2 x2 S2 R2 => let ⟨f1, f2, f3, f4⟩ := fin x2 S2 e3; ⟨f1, po ρ2 _ σ2 f2 f3 ⟨R2.1, fun i v e => let ⟨u, a, b⟩ := R2.2 i v e; ⟨u, a, b.mono (fun _ _ e => e) f4⟩⟩⟩
  | ct s2 h2 =>
    rw [ef] at po
    unfold unlk at po
    dsimp only at po
    split at po <;> try exact po.elim
    rename_i h3 e3
    exact fun ρ2 H2 σ2 x2 S2 R2 => let ⟨f1, f2, f3, f4⟩ := fin x2 S2 e3; ⟨f1, po ρ2 _ σ2 f2 f3 ⟨R2.1, fun i v e => let ⟨u, a, b⟩ := R2.2 i v e; ⟨u, a, b.mono (fun _ _ e => e) f4⟩⟩⟩
  | bk s2 h2 =>
    rw [ef] at po
    unfold unlk at po
    dsimp only at po
    split at po <;> try exact po.elim
    rename_i h3 e3
    exact fun ρ2 H2 σ2 x2 S2 R2 => let ⟨f1, f2, f3, f4⟩ := fin x2 S2 e3; ⟨f1, po ρ2 _ σ2 f2 f3 ⟨R2.1, fun i v e => let ⟨u, a, b⟩ := R2.2 i v e; ⟨u, a, b.mono (fun _ _ e => e) f4⟩⟩⟩
  | rt v2 h2 =>
    rw [ef] at po
    unfold unlk at po
    dsimp only at po
    split at po <;> try exact po.elim
    rename_i h3 e3
    exact fun ρ2 H2 V x2 S2 rV => let ⟨f1, f2, f3, f4⟩ := fin x2 S2 e3; ⟨f1, po ρ2 _ V f2 f3 (rV.mono (fun _ _ e => e) f4)⟩
  | exc _ _ => rw [ef] at po; exact po.elim
  | bad => rw [ef] at po; exact po.elim
end
end MP

set_option Elab.async false
set_option linter.all false
set_option maxRecDepth 100000
set_option maxHeartbeats 4000000
namespace MP
open PySem PySem.Spec PyProof.Rows L2
/-! ### instances -/
section
variable {X : Cx} {K : Fg} {ρ : List Addr} {H : Hp} {h : PH} {c f m : Str} {o e : Expr} {fo fe : PSt → PH → Out PV} {fs : PSt → PH → Out (List PV)} {pos apos : Pos}
theorem fldsAt_ok (S : Sim K ρ h H) {x : PV} {u : V} {l : Nat} {gs : List (Str × PV)} (e : fldsAt c x h = some (l, gs)) (r : RepV K ρ H x u) :
    ∃ a dx vs, x = .ref l ∧ u = .ref a ∧ ρ[l]? = some a ∧ H a = some (.ins (He.ga K c) dx vs) ∧ RepFs K ρ H gs vs := by
  unfold fldsAt at e
  split at e <;> try (cases e; done)
  split at e <;> try (cases e; done)
  rename_i c' fs' hl
  split at e <;> try (cases e; done)
  rename_i hc
  cases e
  subst hc
  cases r with
  | ref ea =>
    obtain ⟨dx, vs, e1, e2⟩ := S.ob _ _ _ hl ea
    exact ⟨_, dx, vs, rfl, rfl, ea, e1, e2⟩
theorem se_fld (ho : PE X o (lE X.K fo)) (hc : Cls X.K (He.ga X.K c)) (hn : NoAttr X.K (He.ga X.K c) f) (hb : attributeBase o f X.env (eval o X.env) = eval o X.env) :
    PE X (.Attribute o f pos) (lE X.K fun s h => (fo s h).bnd fun x h => fldF c f x h) :=
  (pe_fld ho hb).weak fun σ H Q ⟨ρ, s, h, S, R, po⟩ => lE.first S R po fun v ρ1 H1 h1 u x1 S1 R1 e1 ru po1 => by
    unfold fldF at po1
    split at po1 <;> try exact po1.elim
    rename_i l gs e2
    split at po1 <;> try exact po1.elim
    rename_i w e3
    obtain ⟨a, dx, vs, _, rfl, _, ea, rf⟩ := fldsAt_ok S1 e2 ru
    obtain ⟨z, ez, rz⟩ := rf.look e3
    exact ⟨a, _, dx, vs, z, rfl, ea, hc, hn, ez, PostV.now po1 S1 rz⟩
theorem ss_sfld (ho : PE X o (lE X.K fo)) (he : PE X e (lE X.K fe)) (hc : Cls X.K (He.ga X.K c)) (hn : NoAttr X.K (He.ga X.K c) f) (hs : swapsWith e (some (.Attribute o f apos)) pos.line X.env = pure false) :
    PS X (.Assign [.Attribute o f apos] e pos) (lS X.K fun s h => (fe s h).sbnd fun y h1 => (fo s h1).sbnd fun x h2 => (fldS c f x y h2).sbnd fun _ h3 => .nx s h3) :=
  (ps_fld ho he hs).weak fun D σ H ⟨ρ, s, h, S, R, po⟩ => by
    refine lE.sfirst S R po fun v ρ1 H1 h1 u x1 S1 R1 ru po1 => lE.sfirst S1 R1 po1 fun w ρ2 H2 h2 z x2 S2 R2 rz po2 => ?_
    obtain ⟨_, h3, e3, po3⟩ := po2.okOf
    unfold fldS at e3
    split at e3 <;> try (cases e3; done)
    rename_i l gs e4
    split at e3 <;> try (cases e3; done)
    rename_i hz
    cases e3
    obtain ⟨a, dx, vs, _, rfl, ea, eH, rf⟩ := fldsAt_ok S2 e4 rz
    refine ⟨a, _, dx, vs, rfl, eH, hc, hn, by rw [← rf.length]; exact hz, ?_⟩
    have X3 : Ext X.K ρ2 H2 ρ2 (upd H2 a (.ins (He.ga X.K c) dx (putF f u vs))) := Ext.set S2 ea fun ob w z => by rw [eH] at z; cases z
    have S3 : Sim X.K ρ2 (h2.set l (.ins c (fPut f v gs))) (upd H2 a (.ins (He.ga X.K c) dx (putF f u vs))) := S2.set ea ⟨dx, _, upd_same, (RepFs.put (ru.ext x2) rf).mono X3.pre X3.tup⟩
    exact po3 ρ2 _ _ X3 S3 (R2.ext X3)
theorem ss_augF {op : Operator} (hop : op = .Add ∨ op = .Sub ∨ op = .BitOr ∨ op = .Mult) (ho : PE X o (lE X.K fo)) (he : PE X e (lE X.K fe)) (hc : Cls X.K (He.ga X.K c)) (hn : NoAttr X.K (He.ga X.K c) f) :
    PS X (.AugAssign (.Attribute o f apos) op e pos) (lS X.K fun s h => (fo s h).sbnd fun x h1 => (fldF c f x h1).sbnd fun y h1 => (fe s h1).sbnd fun z h2 => (match y, z with
      | .int _, .int _ => binF op y z h2
      | _, _ => Out.bad).sbnd fun w h3 => (fldS c f x w h3).sbnd fun _ h4 => .nx s h4) :=
  (ps_fldaug ho he (ip_all hop)).weak fun D σ H ⟨ρ, s, h, S, R, po⟩ => by
    refine lE.sfirst S R po fun v ρ1 H1 h1 u x1 S1 R1 ru po1 => ?_
    obtain ⟨w, h1', e1, po1⟩ := po1.okOf
    unfold fldF at e1
    split at e1 <;> try (cases e1; done)
    rename_i l gs e2
    split at e1 <;> try (cases e1; done)
    rename_i w' e3
    cases e1
    obtain ⟨a, dx, vs, rfl, rfl, ea, eH, rf⟩ := fldsAt_ok S1 e2 ru
    obtain ⟨z, ez, rz⟩ := rf.look e3
    refine ⟨a, _, dx, vs, z, rfl, eH, hc, hn, ez, lE.sfirst S1 R1 po1 fun y ρ2 H2 h2 t x2 S2 R2 rt po2 => ?_⟩
    obtain ⟨r, h3, e5, po3⟩ := po2.okOf
    split at e5 <;> try (cases e5; done)
    have fin : ∀ ρ3 H3, Ext X.K ρ2 H2 ρ3 H3 → Sim X.K ρ3 h3 H3 → ∀ T, RepV X.K ρ3 H3 r T → ∃ dx' fs', H3 a = some (.ins (He.ga X.K c) dx' fs') ∧ fs'.length < 1000 ∧ D.nx σ (upd H3 a (.ins (He.ga X.K c) dx' (putF f T fs'))) := by
      intro ρ3 H3 x3 S3 T rT
      have po4 := PostS.ext (o := (fldS c f (.ref l) r h3).sbnd fun _ h4 => .nx s h4) po3 x3
      obtain ⟨_, h4, e6, po4⟩ := po4.okOf
      unfold fldS at e6
      split at e6 <;> try (cases e6; done)
      rename_i l2 gs2 e7
      split at e6 <;> try (cases e6; done)
      rename_i hz
      cases e6
      obtain ⟨a2, dx2, vs2, el, ea2, eb, eH2, rf2⟩ := fldsAt_ok S3 e7 (.ref (x3.pre _ _ (x2.pre _ _ ea)))
      cases el; cases ea2
      have X4 : Ext X.K ρ3 H3 ρ3 (upd H3 a (.ins (He.ga X.K c) dx2 (putF f T vs2))) := Ext.set S3 eb fun ob w z => by rw [eH2] at z; cases z
      have S4 : Sim X.K ρ3 (h3.set l (.ins c (fPut f r gs2))) (upd H3 a (.ins (He.ga X.K c) dx2 (putF f T vs2))) := S3.set eb ⟨dx2, _, upd_same, (RepFs.put rT rf2).mono X4.pre X4.tup⟩
      exact ⟨dx2, vs2, eH2, by rw [← rf2.length]; exact hz, po4 ρ3 _ _ X4 S4 ((R2.ext x3).ext X4)⟩
    refine ⟨ρ2, h2, _, _, S2, rz.ext x2, rt, ?_⟩
    simp only [e5]
    exact fun ρ3 H3 x3 S3 T rT => fin ρ3 H3 x3 S3 T rT
/-- C(..) -/
theorem se_mk {kf : KF} {k : Nat} {key : Str} {g : List PV → PH → Out PV} {a : Expr} {t : List Expr} {p : Pos} (F : FnAt X kf k key g) (hl : kf.loc key = .met c "__init__") (hkw : kf.kws key = [])
    (M : ∃ f, Mk X.K (He.ga X.K c) f) (hr : Room (k + 1) X.A) (hg : Gl X c) (hmg : X.mg c = some (.ref (He.ga X.K c))) (hdb : (c == ("__debug__" : Str)) = false) (ha : PA X (a :: t) (lA X.K fs))
    (he : starEach (a :: t) X.env = (false, eval a X.env) :: starEach t X.env) (hpl : (backTo pos (starEach t X.env)).any (·.1) = false) :
    PE X (.Call (.Name c p) (a :: t) [] pos) (lE X.K fun s h => (fs s h).bnd fun xs h => (g (.ref h.length :: xs) (h ++ [.ins c []])).bnd (mkR h.length)) := by
  obtain ⟨fa, fd, ps, hm, hk, hb, _, G, hlen⟩ := F.ex
  rw [hl] at hm
  have hm : Meth X.K (He.ga X.K c) "__init__" fa := hm
  obtain ⟨f0, M⟩ := M
  have ef : f0 = fa := by
    have := M.init.symm.trans hm.at_
    injection this with e1; injection e1 with e1; injection e1
  subst ef
  refine (pe_make (E := E0) M G hr hg hmg (hb hkw) .nil pass0 ha hdb he hpl).weak fun σ H Q ⟨ρ, s, h, S, R, po⟩ => ?_
  refine lA.first S R po fun v ρ1 H1 h1 u x1 S1 R1 e1 ru po1 => fun x dx hx hdx hne => ?_
  have hx2 : upd H1 dx (.own x) x = none := by rw [upd_ne (Ne.symm hne)]; exact hx
  have S2 : Sim X.K ρ1 h1 (upd H1 dx (.own x)) := S1.tuple hdx
  have X2 : Ext X.K ρ1 H1 ρ1 (upd H1 dx (.own x)) := Ext.tuple hdx
  have S3 : Sim X.K (ρ1 ++ [x]) (h1 ++ [.ins c []]) (upd (upd H1 dx (.own x)) x (.ins (He.ga X.K c) dx [])) := S2.push hx2 ⟨dx, [], upd_same, .nil⟩
  have X3 : Ext X.K ρ1 H1 (ρ1 ++ [x]) (upd (upd H1 dx (.own x)) x (.ins (He.ga X.K c) dx [])) := X2.trans (Ext.push hx2)
  have po2 := PostG.ext (o := (g (.ref h1.length :: v) (h1 ++ [.ins c []])).bnd (mkR h1.length)) po1 X3
  obtain ⟨w, h4, e4, po3⟩ := po2.okOf
  refine ⟨?_, ρ1 ++ [x], _, .ref h1.length :: v, S3, .cons (.ref (push_at S1 x)) ?_, ?_⟩
  · rw [List.append_nil, List.length_cons, ← ru.length, ← hlen _ _ _ _ e4]; rfl
  · rw [List.append_nil]; exact ru.ext X3
  · rw [e4]
    unfold mkR at po3
    split at po3 <;> try exact po3.elim
    intro ρ4 H4 x4 S4 V rV
    cases rV
    exact ⟨rfl, po3 ρ4 H4 x4 S4 _ (.ref (x4.pre _ _ (push_at S1 x)))⟩
/-- o.m(..) -/
theorem se_um {kf : KF} {k : Nat} {key : Str} {g : List PV → PH → Out PV} {a : Expr} {t : List Expr} {pl : Sem Bool} (F : FnAt X kf k key g) (hl : kf.loc key = .met c m) (hkw : kf.kws key = []) (hc : Cls X.K (He.ga X.K c)) (hr : Room k X.A)
    (ho : PE X o (lE X.K fo)) (ha : PA X (a :: t) (lA X.K fs)) (he : starEach (a :: t) X.env = (false, eval a X.env) :: starEach t X.env) (hpl : (backTo pos (starEach t X.env)).any (·.1) = false)
    (hev : eval (.Call (.Attribute o m apos) (a :: t) [] pos) X.env = do
      let ov ← eval o X.env
      standAt apos.atName
      let __x ← holding [ov] (getMethod ov m pl)
      match __x with
        | (f, first) => callWith pos f first (backTo pos (starEach (a :: t) X.env)) (backToKw pos (keywordEach [] X.env))) :
    PE X (.Call (.Attribute o m apos) (a :: t) [] pos) (lE X.K fun s h => (fo s h).bnd fun x h1 => match fldsAt c x h1 with
      | some (_, gs) => if (gs.lookup m).isNone = true then (fs s h1).bnd fun xs h2 => g (x :: xs) h2 else .bad
      | none => .bad) := by
  obtain ⟨fa, fd, ps, hm, hk, hb, _, G, hlen⟩ := F.ex
  rw [hl] at hm
  have hm : Meth X.K (He.ga X.K c) m fa := hm
  refine (pe_meth (E := E0) ho hc hm G hr (hb hkw) .nil pass0 ha he hpl hev).weak fun σ H Q ⟨ρ, s, h, S, R, po⟩ => ?_
  refine lE.first S R po fun v ρ1 H1 h1 u x1 S1 R1 e1 ru po1 => ?_
  split at po1 <;> try exact po1.elim
  rename_i l gs e2
  split at po1 <;> try exact po1.elim
  rename_i hno
  obtain ⟨b, dx, vs, rfl, rfl, eb, eH, rf⟩ := fldsAt_ok S1 e2 ru
  refine ⟨b, dx, vs, rfl, eH, rf.noLook (Option.isNone_iff_eq_none.mp hno), lA.first S1 R1 po1 fun w ρ2 H2 h2 us x2 S2 R2 e3 rus po2 => ?_⟩
  obtain ⟨r, h', e⟩ : ∃ w' h', g (.ref l :: w) h2 = .ok w' h' := by
    cases e : g (.ref l :: w) h2 with
    | ok w h' => exact ⟨w, h', rfl⟩
    | exc _ _ => rw [e] at po2; exact po2.elim
    | bad => rw [e] at po2; exact po2.elim
  refine ⟨?_, ρ2, h2, .ref l :: w, S2, .cons (ru.ext x2) ?_, po2⟩
  · rw [List.append_nil, List.length_cons, ← rus.length, ← hlen _ _ _ _ e]; rfl
  · rw [List.append_nil]; exact rus
theorem se_um0 {kf : KF} {k : Nat} {key : Str} {g : List PV → PH → Out PV} {pl : Sem Bool} (F : FnAt X kf k key g) (hl : kf.loc key = .met c m) (hkw : kf.kws key = []) (hc : Cls X.K (He.ga X.K c)) (hr : Room k X.A)
    (ho : PE X o (lE X.K fo))
    (hev : eval (.Call (.Attribute o m apos) [] [] pos) X.env = do
      let ov ← eval o X.env
      standAt apos.atName
      let __x ← holding [ov] (getMethod ov m pl)
      match __x with
        | (f, first) => callWith pos f first (backTo pos (starEach [] X.env)) (backToKw pos (keywordEach [] X.env))) :
    PE X (.Call (.Attribute o m apos) [] [] pos) (lE X.K fun s h => (fo s h).bnd fun x h1 => match fldsAt c x h1 with
      | some (_, gs) => if (gs.lookup m).isNone = true then g [x] h1 else .bad
      | none => .bad) := by
  obtain ⟨fa, fd, ps, hm, hk, hb, _, G, hlen⟩ := F.ex
  rw [hl] at hm
  have hm : Meth X.K (He.ga X.K c) m fa := hm
  refine (pe_meth0 (E := E0) ho hc hm G hr (hb hkw) .nil pass0 hev).weak fun σ H Q ⟨ρ, s, h, S, R, po⟩ => ?_
  refine lE.first S R po fun v ρ1 H1 h1 u x1 S1 R1 e1 ru po1 => ?_
  split at po1 <;> try exact po1.elim
  rename_i l gs e2
  split at po1 <;> try exact po1.elim
  rename_i hno
  obtain ⟨b, dx, vs, rfl, rfl, eb, eH, rf⟩ := fldsAt_ok S1 e2 ru
  obtain ⟨r, h', e⟩ : ∃ w' h', g [.ref l] h1 = .ok w' h' := by
    cases e : g [.ref l] h1 with
    | ok w h' => exact ⟨w, h', rfl⟩
    | exc _ _ => rw [e] at po1; exact po1.elim
    | bad => rw [e] at po1; exact po1.elim
  exact ⟨b, dx, vs, rfl, eH, rf.noLook (Option.isNone_iff_eq_none.mp hno), by rw [← hlen _ _ _ _ e]; rfl, ρ1, h1, [.ref l], S1, .cons ru .nil, po1⟩
end
/-! ### keyword arguments -/
section
variable {X : Cx} {e : Expr} {fe : PSt → PH → Out PV} {fs fk : PSt → PH → Out (List PV)} {pos : Pos}
theorem PK.weak' {kws : List Keyword} {t t' : TA} (p : PK X kws t) (w : ∀ σ H Q, t' σ H Q → t σ H Q) : PK X kws t' := ⟨fun pos pins s σ H Q I h => p.run pos pins s σ H Q I (w σ H Q h)⟩
theorem sk_nil : PK X [] (lA X.K fun s h => .ok [] h) := PK.weak' pk_nil fun σ H Q ⟨ρ, s, h, S, R, po⟩ => po ρ H .refl S [] .nil
theorem sk_cons {nm : Option Str} {kpos : Pos} {kws : List Keyword} (ha : PE X e (lE X.K fe)) (hr : PK X kws (lA X.K fk)) : PK X (⟨nm, e, kpos⟩ :: kws) (lA X.K fun s h => (fe s h).bnd fun x h => (fk s h).bnd fun xs h => .ok (x :: xs) h) :=
  PK.weak' (pk_cons ha hr) fun σ H Q ⟨ρ, s, h, S, R, po⟩ =>
    lE.first S R po fun v ρ1 H1 h1 u x1 S1 R1 e1 ru po1 => lA.first S1 R1 po1 fun w ρ2 H2 h2 z x2 S2 R2 e2 rz po2 => po2 ρ2 H2 .refl S2 _ (.cons (ru.ext x2) rz)
/-- the names of the keywords -/
def kwNames : List Keyword → Option (List Str)
  | [] => some []
  | ⟨some n, _, _⟩ :: r => (kwNames r).map (n :: ·)
  | _ => none
theorem kw_each {env : Env} {pos : Pos} : ∀ {kws : List Keyword} {ks : List Str}, kwNames kws = some ks → (backToKw pos (keywordEach kws env)).all (fun x => x.1.isSome) = true ∧ (backToKw pos (keywordEach kws env)).filterMap (fun x => x.1) = ks ∧ (backToKw pos (keywordEach kws env)).any (fun x => x.1.isNone) = false
  | [], ks, h => by
    simp only [kwNames, Option.some.injEq] at h
    subst h
    exact ⟨rfl, rfl, rfl⟩
  | ⟨some n, v, p⟩ :: r, ks, h => by
    simp only [kwNames, Option.map_eq_some_iff] at h
    obtain ⟨ks', h1, rfl⟩ := h
    obtain ⟨a, b, c⟩ := kw_each (env := env) (pos := pos) h1
    have e : backToKw pos (keywordEach (⟨some n, v, p⟩ :: r) env) = (some n, do let v ← eval v env; standAt pos; pure v) :: backToKw pos (keywordEach r env) := rfl
    rw [e]
    refine ⟨?_, ?_, ?_⟩
    · rw [List.all_cons, a]; rfl
    · rw [List.filterMap_cons, b]
    · rw [List.any_cons, c]; rfl
  | ⟨none, _, _⟩ :: _, ks, h => by simp [kwNames] at h
theorem se_kcall {kf : KF} {k : Nat} {x : Str} {g : List PV → PH → Out PV} {a : Expr} {t : List Expr} {kws : List Keyword} {p : Pos} (F : FnAt X kf k x g) (hl : kf.loc x = .glo) (hkw : kf.kws x ≠ []) (hr : Room k X.A) (hg : Gl X x) (hdb : (x == ("__debug__" : Str)) = false)
    (ha : PA X (a :: t) (lA X.K fs)) (hk : PK X kws (lA X.K fk)) (hn : kwNames kws = some (kf.kws x)) (hlen : ∀ s h v h', fk s h = .ok v h' → v.length = (kf.kws x).length)
    (he : starEach (a :: t) X.env = (false, eval a X.env) :: starEach t X.env) (hpl : (backTo pos (starEach (a :: t) X.env)).any (·.1) = false) :
    PE X (.Call (.Name x p) (a :: t) kws pos) (lE X.K fun s h => (fs s h).bnd fun xs h => (fk s h).bnd fun ys h => g (xs ++ ys) h) := by
  obtain ⟨fa, fd, ps, hm, hkp, _, hb, G, hlg⟩ := F.ex
  rw [hl] at hm
  have hm : X.mg x = some (.ref fa) := hm
  obtain ⟨k1, k2, k3⟩ := kw_each (env := X.env) (pos := pos) hn
  refine (pe_callN (E := E0) G hr hg hm hkp (hb hkw) pass0 ha hk k1 k2 hdb he (by rw [hpl, k3]; rfl)).weak fun σ H Q ⟨ρ, s, h, S, R, po⟩ => ?_
  refine lA.first S R po fun v ρ1 H1 h1 u x1 S1 R1 e1 ru po1 => lA.first S1 R1 po1 fun w ρ2 H2 h2 z x2 S2 R2 e2 rz po2 => ?_
  obtain ⟨r, h', e⟩ : ∃ w' h', g (v ++ w) h2 = .ok w' h' := by
    cases e : g (v ++ w) h2 with
    | ok w h' => exact ⟨w, h', rfl⟩
    | exc _ _ => rw [e] at po2; exact po2.elim
    | bad => rw [e] at po2; exact po2.elim
  have l1 := hlg _ _ _ _ e
  have l2 := hlen _ _ _ _ e2
  rw [List.length_append] at l1
  have l3 := ru.length
  have l4 := rz.length
  exact ⟨by omega, by omega, by rw [List.length_append]; omega, ρ2, h2, v ++ w, S2, (ru.ext x2).append rz, po2⟩
end
/-! ### repr -/
section
variable {X : Cx} {e : Expr} {fe : PSt → PH → Out PV} {pos p : Pos}
theorem call_reprT (hg : X.A.guards = some []) (hu : X.A.units + 65 < cLine) : CallR X (.builtin "repr") (lC X.K reprA) := by
  intro pins s σ H xs us Q I rv h
  obtain ⟨ρ, h, ps, S, r, po⟩ := h
  unfold reprA at po
  split at po <;> try exact po.elim
  rename_i x
  obtain ⟨v, rfl, q⟩ := r.one
  unfold reprF at po
  split at po <;> try exact po.elim
  rename_i ds ed
  split at po <;> try exact po.elim
  rename_i hs
  obtain ⟨s1, s2, s3, s4⟩ := hs
  have dp := datum_ok S _ _ _ _ ed q
  cases rv with
  | cons r1 rest =>
    cases rest
    rename_i u
    obtain ⟨as, rd⟩ := Dp.reads I _ _ _ dp r1
    cases dp with
    | tup q1 q2 =>
      cases r1
      refine repr_of_reads' rd s1 (by rw [s2]; exact fun z => by cases z) hg (by omega) (fun _ _ e => e) (fun h' t tk hk => ?_) s4
      exact ⟨.str _, H, I.kept hk, ⟨t, rfl⟩, po.now S (.str _)⟩
theorem se_rpr (hg : Gl X "repr") (hm : X.mg "repr" = none) (hgd : X.A.guards = some []) (hu : X.A.units + 65 < cLine) (he : PE X e (lE X.K fe)) (hs : starEach [e] X.env = [(false, eval e X.env)]) :
    PE X (.Call (.Name "repr" p) [e] [] pos) (lE X.K fun s h => (fe s h).bnd fun x h => reprF x h) := by
  have hs' : starEach [e] X.env = (false, eval e X.env) :: starEach [] X.env := hs
  refine (pe_callB (call_reprT hgd hu) hg hm (by decide +kernel) (sa_cons he sa_nil hs') (by decide) (by decide) hs' rfl).weak fun σ H Q ⟨ρ, s, h, S, R, po⟩ => ?_
  refine lA.first (g := reprA) S R ?_ fun v ρ1 H1 h1 u x1 S1 R1 e1 ru po1 => ⟨ρ1, h1, v, S1, ru, po1⟩
  have e0 : ((fe s h).bnd fun x h => (Out.ok ([] : List PV) h).bnd fun xs h => Out.ok (x :: xs) h).bnd reprA = (fe s h).bnd fun x h => reprF x h := by
    cases fe s h <;> rfl
  rw [e0]
  exact po
end
end MP

set_option Elab.async false
set_option linter.all false
set_option maxRecDepth 100000
set_option maxHeartbeats 4000000
namespace MP
open PySem PySem.Spec PyProof.Rows L2
/-! ### generators -/
def spG (K : Fg) (n : Nat) (g : List PV → PH → Out PV) : SpG := fun vs H cont _ => vs.length = n ∧ ∃ ρ h ps, Sim K ρ h H ∧ RepVs K ρ H ps vs ∧ PostG K ρ H (g ps h) fun v ρ' H' => ∃ ys, v = .tup ys ∧ ∀ us, RepVs K ρ' H' ys us → cont us H'
structure GnAt (X : Cx) (kf : KF) (k : Nat) (f : Str) (g : List PV → PH → Out PV) : Prop where
  ex : ∃ (fa : Addr) (fd : FuncData) (ps : List Str), X.mg f = some (.ref fa) ∧ PySem.W.keepIn X.K (.ref fa) = true ∧ (kf.kws f ≠ [] → KBn X.K fd ps (ps.length - (kf.kws f).length) (kf.kws f) (fun us ws => us ++ ws) (fun us ws => us ++ ws)) ∧
    GFn X.prog X.w X.K X.mg X.base k fa fd ps (spG X.K ps.length g) ∧ ∀ xs h v h', g xs h = .ok v h' → xs.length = ps.length
section
variable {X : Cx} {pos pos2 : Pos} {fs fk : PSt → PH → Out (List PV)}
theorem run_gfnK {k n : Nat} {f : Addr} {fd : FuncData} {ps ks : List Str} {sp : SpG} {pins : List (Addr × Obj)} {σ : L2.St} {H : Hp} {s : Shared} {us ws : List Value} {vs zs : List V} {cont : List V → Hp → Prop} {E : XK} {E1 : Value → Shared → Prop} {g : List Value → List Value → List Value} {gV : List V → List V → List V}
    (F : GFn X.prog X.w X.K X.mg X.base k f fd ps sp) (hr : Room k X.A) (hb : KBn X.K fd ps n ks g gV) (I : L2.Inv X pins σ H s) (r : Vals vs us) (rz : Vals zs ws) (l1 : vs.length = n) (l2 : zs.length = ks.length) (h : sp (gV vs zs) H cont E) :
    wpAny (model X.prog X.w) X.A (call (.ref f) us (ks.zip ws)) (fun u s' => ∃ H1 sc ex, L2.Inv X pins σ H1 sc ∧ ExOk X pins ex ∧ GMade X.prog X.w k X.stack H1 sc ex cont E u s') E1 s := by
  refine wpAny_call (codeAny_mono (F.run X.A X.stack s H { pos := us, kw := ks.zip ws } (g us ws) (gV vs zs) cont E hr (Inv.env0 I) (hb.to s us ws (Inv.kIn I) (by rw [← l1]; exact (Vals.length r).symm) (by rw [← l2]; exact (Vals.length rz).symm)) (hb.rel r rz) h) fun r s' hq => ?_)
  cases r with
  | error e => exact hq.elim
  | ok fl => cases fl <;> first | exact hq.elim | exact ⟨H, s, [], I, ExOk.nil, hq⟩
theorem se_lgen {kf : KF} {k : Nat} {x : Str} {g : List PV → PH → Out PV} {a : Expr} {t : List Expr} {kws : List Keyword} {p p2 : Pos} (F : GnAt X kf k x g) (hkw : kf.kws x ≠ []) (hr : Room (k + 3) X.A) (hgl : Gl X "list") (hml : X.mg "list" = none) (hg : Gl X x) (hdb : (x == ("__debug__" : Str)) = false)
    (ha : PA X (a :: t) (lA X.K fs)) (hk : PK X kws (lA X.K fk)) (hn : kwNames kws = some (kf.kws x)) (hlen : ∀ s h v h', fk s h = .ok v h' → v.length = (kf.kws x).length)
    (he : starEach (a :: t) X.env = (false, eval a X.env) :: starEach t X.env) (hpl : (backTo pos2 (starEach (a :: t) X.env)).any (·.1) = false) :
    PE X (.Call (.Name "list" p) [.Call (.Name x p2) (a :: t) kws pos2] [] pos) (lE X.K fun s h => (fs s h).bnd fun xs h => (fk s h).bnd fun ys h => (g (xs ++ ys) h).bnd lgenR) := by
  obtain ⟨fa, fd, ps, hm, hkp, hb, G, hlg⟩ := F.ex
  obtain ⟨k1, k2, k3⟩ := kw_each (env := X.env) (pos := pos2) hn
  have PG : PGen X k (.Call (.Name x p2) (a :: t) kws pos2) (fun σ H cont => lA X.K fs σ H fun vs H1 => lA X.K fk σ H1 fun zs H2 => vs.length = ps.length - (kf.kws x).length ∧ zs.length = (kf.kws x).length ∧ spG X.K ps.length g (vs ++ zs) H2 cont E0) E0 := by
    refine ⟨fun pins s σ H cont I h => wpAny_Call_Name_kw (ld_glob I hg hm (PySem.W.callWith_KW I.ok.mod.kin hkp k1 (thn (ha.run pos2 pins s σ H _ I h) fun us s1 ⟨vs, H1, I1, r, q⟩ =>
      thn (hk.run pos2 pins s1 σ H1 _ I1 q) fun ws s2 ⟨zs, H2, I2, rz, l1, l2, q2⟩ => ⟨Inv.kIn I2, ?_⟩) (by rw [hpl, k3]; rfl) he) hdb)⟩
    rw [k2]
    exact run_gfnK G (hr.mono (by omega)) (hb hkw) I2 r rz l1 l2 q2
  refine (pe_listG (E := E0) PG (fun pins σ H s e s' I z => ?_) (fun _ _ _ z => z.elim) hr hgl hml (by decide +kernel) (by decide) (by decide) rfl).weak fun σ H Q ⟨ρ, s, h, S, R, po⟩ => ?_
  · obtain ⟨a, B, H', cls, d, _, _, _, _, _, _, _, q⟩ := z
    exact q.elim
  · refine lA.first S R po fun v ρ1 H1 h1 u x1 S1 R1 e1 ru po1 => lA.first S1 R1 po1 fun w ρ2 H2 h2 z x2 S2 R2 e2 rz po2 => ?_
    obtain ⟨r, h', e, po3⟩ := po2.okOf
    have l1 := hlg _ _ _ _ e
    have l2 := hlen _ _ _ _ e2
    rw [List.length_append] at l1
    have l3 := ru.length
    have l4 := rz.length
    refine ⟨by omega, by omega, by rw [List.length_append]; omega, ρ2, h2, v ++ w, S2, (ru.ext x2).append rz, ?_⟩
    rw [e]
    unfold lgenR at po3
    split at po3 <;> try exact po3.elim
    rename_i ys
    intro ρ' H' x' S'
    exact ⟨ys, rfl, fun us rus => PostV.newL (PostG.ext (o := new (.lst ys) h') po3 x') S' rus⟩
/-! the body -/
def PostY (K : Fg) (ρ : List Addr) (H : Hp) (o : YO) (D : List V → L2.St → Hp → Prop) : Prop :=
  match o with
  | .nx ys s h => ∀ ρ' H' us σ', Ext K ρ H ρ' H' → Sim K ρ' h H' → RepSt K ρ' H' s σ' → RepVs K ρ' H' ys us → D us σ' H'
  | .bad => False
theorem PostY.ext {K : Fg} {ρ ρ1 : List Addr} {H H1 : Hp} {o : YO} {D : List V → L2.St → Hp → Prop} (p : PostY K ρ H o D) (x : Ext K ρ H ρ1 H1) : PostY K ρ1 H1 o D := by
  cases o with
  | nx ys s h => exact fun ρ' H' us σ' y S R r => p ρ' H' us σ' (x.trans y) S R r
  | bad => exact p
def lY (K : Fg) (f : List PV → PSt → PH → YO) : TGn := fun D us σ H => ∃ ρ s h ys, Sim K ρ h H ∧ RepSt K ρ H s σ ∧ RepVs K ρ H ys us ∧ PostY K ρ H (f ys s h) D.nx
theorem GS.weak' {st : Stmt} {t t' : TGn} (p : GS X st t) (w : ∀ D ys σ H, t' D ys σ H → t D ys σ H) : GS X st t' := ⟨fun A S ip R n ys s₀ c fs K J gd lv s σ H D h1 h2 h3 h4 h5 => p.run A S ip R n ys s₀ c fs K J gd lv s σ H D h1 h2 h3 h4 (w _ _ _ _ h5)⟩
theorem GSs.weak' {st : List Stmt} {t t' : TGn} (p : GSs X st t) (w : ∀ D ys σ H, t' D ys σ H → t D ys σ H) : GSs X st t' := ⟨fun A S ip R n ys s₀ c fs K J gd lv s σ H D h1 h2 h3 h4 h5 => p.run A S ip R n ys s₀ c fs K J gd lv s σ H D h1 h2 h3 h4 (w _ _ _ _ h5)⟩
def plY (f : PSt → PH → SO) (ys : List PV) (s : PSt) (h : PH) : YO :=
  match f s h with
  | .nx s h => .nx ys s h
  | _ => .bad
theorem gy_pl {st : Stmt} {f : PSt → PH → SO} (p : PS X st (lS X.K f)) : GS X st (lY X.K (plY f)) :=
  GS.weak' (gs_ps p) fun D us σ H ⟨ρ, s, h, ys, S, R, r, po⟩ => by
    refine ⟨ρ, s, h, S, R, ?_⟩
    unfold plY at po
    cases e : f s h with
    | nx s' h' => rw [e] at po; exact fun ρ' H' σ' x S' R' => po ρ' H' us σ' x S' R' (r.ext x)
    | _ => rw [e] at po; exact po.elim
def yldY (f : PSt → PH → Out PV) (ys : List PV) (s : PSt) (h : PH) : YO :=
  if ys.length < sizeLine then (match f s h with
    | .ok v h => .nx (ys ++ [v]) s h
    | _ => .bad) else .bad
theorem gy_yld {e : Expr} {yp : Pos} {f : PSt → PH → Out PV} (p : PE X e (lE X.K f)) (h1 : X.env.scope.isCoroutine = false) (h2 : interactive X.env = false) : GS X (.Expr (.Yield (some e) yp) pos) (lY X.K (yldY f)) :=
  GS.weak' (gs_yield p h1 h2) fun D us σ H ⟨ρ, s, h, ys, S, R, r, po⟩ => by
    unfold yldY at po
    split at po <;> try exact po.elim
    rename_i hz
    refine ⟨by rw [← r.length]; exact hz, ρ, s, h, S, R, ?_⟩
    cases e : f s h with
    | ok v h' => rw [e] at po; exact fun ρ' H' x S' V rV => po ρ' H' _ σ x S' (R.ext x) ((r.ext x).append (.cons rV .nil))
    | _ => rw [e] at po; exact po.elim
theorem gy_whl {test : Expr} {body : List Stmt} {c : PSt → PH → Out Bool} {b : List PV → PSt → PH → YO} (hp : PassesOwn (model X.prog X.w) X.A X.env X.xe) (hc : PT X test (lB X.K c)) (hb : GSs X body (lY X.K b)) (n : Nat) :
    GS X (.While test body [] pos) (lY X.K (ywhl c b n)) :=
  GS.weak' (gs_while hp hc hb) fun D us σ H ⟨ρ, s, h, ys, S, R, r, po⟩ => by
    refine ⟨fun m us σ H => ∃ ρ s h ys, Sim X.K ρ h H ∧ RepSt X.K ρ H s σ ∧ RepVs X.K ρ H ys us ∧ PostY X.K ρ H (ywhl c b m ys s h) D.nx, ⟨n, ρ, s, h, ys, S, R, r, po⟩, fun m us σ H ⟨ρ, s, h, ys, S, R, r, po⟩ => ?_⟩
    cases m with
    | zero => exact po.elim
    | succ m =>
      unfold ywhl at po
      refine ⟨ρ, s, h, S, R, ?_⟩
      cases e : c s h with
      | ok k h1 =>
        rw [e] at po
        intro ρ1 H1 x1 S1
        cases k with
        | false =>
          rw [if_neg Bool.false_ne_true]
          have po : PostY X.K ρ H (.nx ys s h1) D.nx := po
          exact po ρ1 H1 us σ x1 S1 (R.ext x1) (r.ext x1)
        | true =>
          have po : PostY X.K ρ H (match b ys s h1 with
            | .nx ys s h => ywhl c b m ys s h
            | .bad => .bad) D.nx := po
          rw [if_pos rfl]
          refine ⟨fun us σ H => ∃ ρ s h ys, Sim X.K ρ h H ∧ RepSt X.K ρ H s σ ∧ RepVs X.K ρ H ys us ∧ PostY X.K ρ H (ywhl c b m ys s h) D.nx, fun us' σ' H' q => ⟨m, Nat.lt_succ_self m, q⟩, ρ1, s, h1, ys, S1, R.ext x1, r.ext x1, ?_⟩
          cases e2 : b ys s h1 with
          | nx ys2 s2 h2 =>
            rw [e2] at po
            exact fun ρ2 H2 us2 σ2 x2 S2 R2 r2 => ⟨ρ2, s2, h2, ys2, S2, R2, r2, PostY.ext (o := ywhl c b m ys2 s2 h2) po (x1.trans x2)⟩
          | bad => rw [e2] at po; exact po.elim
      | exc _ _ => rw [e] at po; exact po.elim
      | bad => rw [e] at po; exact po.elim
theorem gys_nil : GSs X [] (lY X.K fun ys s h => .nx ys s h) :=
  GSs.weak' gss_nil fun D us σ H ⟨ρ, s, h, ys, S, R, r, po⟩ => po ρ H us σ .refl S R r
def consY (f g : List PV → PSt → PH → YO) (ys : List PV) (s : PSt) (h : PH) : YO :=
  match f ys s h with
  | .nx ys s h => g ys s h
  | .bad => .bad
theorem gys_cons {st : Stmt} {rest : List Stmt} {f g : List PV → PSt → PH → YO} (a : GS X st (lY X.K f)) (b : GSs X rest (lY X.K g)) : GSs X (st :: rest) (lY X.K (consY f g)) :=
  GSs.weak' (gss_cons a b) fun D us σ H ⟨ρ, s, h, ys, S, R, r, po⟩ => by
    refine ⟨ρ, s, h, ys, S, R, r, ?_⟩
    unfold consY at po
    cases e : f ys s h with
    | nx ys' s' h' => rw [e] at po; exact fun ρ' H' us' σ' x S' R' r' => ⟨ρ', s', h', ys', S', R', r', PostY.ext (o := g ys' s' h') po x⟩
    | bad => rw [e] at po; exact po.elim
theorem GS.fn {st : Stmt} {f f' : List PV → PSt → PH → YO} (h : GS X st (lY X.K f)) (q : f' = f) : GS X st (lY X.K f') := q ▸ h
theorem GSs.fn {st : List Stmt} {f f' : List PV → PSt → PH → YO} (h : GSs X st (lY X.K f)) (q : f' = f) : GSs X st (lY X.K f') := q ▸ h
end
end MP

set_option Elab.async false
set_option linter.all false
set_option maxRecDepth 100000
set_option maxHeartbeats 2000000
namespace MP
open PySem PySem.Spec PyProof.Rows L2

/-! ### is the text mine? -/
structure Sc where
  N : List Str
  sc : Scope
  blk : Option Scope
  kf : KF
  rp : Bool
def Sc.inner (g : Sc) (scope : Scope) : Sc := ⟨g.N, relS scope g.sc, some scope, g.kf, g.rp⟩
/-- an object whose method is asked of: a name, an item, a field -/
def okObj : Expr → Bool
  | .Name _ _ => true
  | .Subscript _ _ _ => true
  | .Attribute _ _ _ => true
  | _ => false
def Sc.fn (g : Sc) (x : Str) : Bool := match g.blk with
  | none => true
  | some s => s.names.lookup x == some .cell
def visB (sc : Scope) (x : Str) : Bool := match sc.names.lookup x with
  | some .local => true
  | some .cell => true
  | some .free => true
  | _ => false
def locB (sc : Scope) (x : Str) : Bool := match sc.names.lookup x with
  | some .local => true
  | some .cell => true
  | _ => false
def isLocal (sc : Scope) (x : Str) : Bool := match sc.names.lookup x with
  | some .local => true
  | _ => false
def glB (sc : Scope) (x : Str) : Bool := match sc.names.lookup x with
  | some .globalImplicit => true
  | _ => false
def nameB (g : Sc) (x : Str) (i : Nat) : Bool := decide (g.N[i]? = some x) && locB g.sc x && (g.fn x || isLocal g.sc x)
def noStar : List Expr → Bool
  | [] => true
  | .Starred _ _ :: _ => false
  | _ :: r => noStar r
def isSlice : Expr → Bool
  | .Slice _ _ _ _ => true
  | _ => false
def isSet : Expr → Bool
  | .Set _ _ _ => true
  | _ => false
def isComp : Expr → Bool
  | .ListComp .. => true
  | .SetComp .. => true
  | .DictComp .. => true
  | _ => false
def okBase : Expr → Bool
  | .Call (.Name id _) [] [] _ => id != "super"
  | _ => true
def plainT : Expr → Bool
  | .UnaryOp .Not _ _ => false
  | .BoolOp _ _ _ => false
  | .IfExp _ _ _ _ => false
  | .Compare _ _ _ _ => false
  | _ => true
def ownOf (N : List Str) (own : List Nat) : List (Str × Nat) := own.map fun i => (N[i]?.getD "", i)
/-- the names of a tuple's target -/
def namesB (g : Sc) : List Nat → List Expr → Bool
  | [], [] => true
  | i :: is, .Name x _ :: es => nameB g x i && namesB g is es
  | _, _ => false
def tgSlots : Tg → List Nat
  | .nm i => [i]
  | .tup is => is
  | _ => []
def invB (neg : Bool) : CmpOp → Bool
  | .In => !neg
  | .NotIn => neg
  | _ => false
mutual
def chkE (g : Sc) : E → Expr → Bool
  | .non, .Constant .none _ _ => true
  | .bl b, .Constant (.bool c) _ _ => b == c
  | .int i, .Constant (.int j) _ _ => decide (i = j)
  | .str x, .Constant (.str y) _ _ => decide (x = y)
  | .var i, .Name x _ => decide (g.N[i]? = some x) && visB g.sc x && !(x == ("__debug__" : Str)) && !(x == ("__classdict__" : Str))
  | .bin op a b, .BinOp l o r _ => decide (op = o) && chkE g a l && chkE g b r
  | .neg a, .UnaryOp .USub x _ => chkE g a x
  | .cmp op a b, .Compare l [o] [r] _ => decide (op = o) && chkE g a l && chkE g b r && !behindInMarks o r
  | .cmp2 op op' a b c, .Compare l [o, o'] [r, t] _ => decide (op = o) && decide (op' = o') && chkE g a l && chkE g b r && chkE g c t && !lastMarks [o, o'] [r, t]
  | .and a b, .BoolOp .And (x :: y :: r) p => chkE g a x && (match r with
    | [] => chkE g b y
    | _ => chkE g b (.BoolOp .And (y :: r) p))
  | .or a b, .BoolOp .Or (x :: y :: r) p => chkE g a x && (match r with
    | [] => chkE g b y
    | _ => chkE g b (.BoolOp .Or (y :: r) p))
  | .not a, .UnaryOp .Not x _ => chkE g a x
  | .ite c a b, .IfExp t x y _ => chkT g c t && chkE g a x && chkE g b y
  | .tup es, .Tuple xs _ _ => noStar xs && chkEs g es xs
  | .lst es, .List xs _ => noStar xs && chkEs g es xs
  | .dic ks, .Dict keys vals _ => (match keys with
    | [] => (match ks, vals with
      | .nil, [] => true
      | _, _ => false)
    | _ => chkKs g ks keys vals && decide (keys.length ≤ 15))
  | .sub a i, .Subscript x y _ => !isSlice y && chkE g a x && chkE g i y
  | .slc a lo hi, .Subscript x (.Slice l h none _) _ => chkE g a x && chkP g lo l && chkP g hi h
  | .fld c o f, .Attribute x n _ => decide (f = n) && okBase x && decide (c ∈ g.kf.cls) && decide ((c, f) ∈ g.kf.noat) && chkE g o x
  | .mk c key es, .Call (.Name x _) (y :: xs) [] _ => decide (c = x) && decide (g.kf.loc key = .met c "__init__") && decide (g.kf.kws key = []) && decide (c ∈ g.kf.mkr) && glB g.sc x && !(x == ("__debug__" : Str)) && noStar (y :: xs) && chkEs g es (y :: xs)
  | .um c key m o es, .Call (.Attribute x n apos) xs [] pos => decide (m = n) && decide (g.kf.loc key = .met c m) && decide (g.kf.kws key = []) && decide (c ∈ g.kf.cls) && okBase x && (apos.endLine == pos.line) && decide (xs.length ≤ 20) && noStar xs && chkE g o x && chkEs g es xs
  | .kcall f es ks, .Call (.Name x _) (y :: xs) kws _ => decide (f = x) && decide (g.kf.loc f = .glo) && decide (g.kf.kws f ≠ []) && decide (kwNames kws = some (g.kf.kws f)) && glB g.sc x && !(x == ("__debug__" : Str)) && noStar (y :: xs) && chkEs g es (y :: xs) && chkKw g ks kws
  | .lgen f es ks, .Call (.Name l _) [.Call (.Name x _) (y :: xs) kws _] [] _ => decide (l = ("list" : Str)) && decide (f = x) && decide (g.kf.loc f = .gen) && decide (g.kf.kws f ≠ []) && decide (kwNames kws = some (g.kf.kws f)) && glB g.sc l && glB g.sc x && !(x == ("__debug__" : Str)) && noStar (y :: xs) && chkEs g es (y :: xs) && chkKw g ks kws
  | .rpr e, .Call (.Name x _) [y] [] _ => decide (x = ("repr" : Str)) && g.rp && glB g.sc x && noStar [y] && chkE g e y
  | .call f es, .Call (.Name x _) xs [] _ => decide (f = x) && decide (g.kf.loc f = .glo) && decide (g.kf.kws f = []) && glB g.sc x && !(x == ("__debug__" : Str)) && noStar xs && chkEs g es xs
  | .bi f es, .Call (.Name x _) (y :: xs) [] _ => decide (f.name = x) && glB g.sc x && noStar (y :: xs) && chkEs g es (y :: xs)
  | .mt m o es, .Call (.Attribute oe n apos) xs [] pos => decide (m.name = n) && (apos.endLine == pos.line) && okBase oe && noStar xs && decide (xs.length ≤ 2) && chkE g o oe && chkEs g es xs
  | .lc elt tg it ifs own, .ListComp ee [c] scope _ => (match c.is_async with
    | 0 => blkC g.N g.sc scope (ownOf g.N own) && (tgSlots tg).all (own.contains ·) && chkI g it c.iter && !isSet c.iter && chkG (g.inner scope) tg c.target && chkTs (g.inner scope) ifs c.ifs && chkE (g.inner scope) elt ee
    | _ => false)
  | .dc kx vx tg it ifs own, .DictComp ke ve [c] scope _ => (match c.is_async with
    | 0 => blkC g.N g.sc scope (ownOf g.N own) && (tgSlots tg).all (own.contains ·) && chkI g it c.iter && !isSet c.iter && chkG (g.inner scope) tg c.target && chkTs (g.inner scope) ifs c.ifs && chkE (g.inner scope) kx ke && chkE (g.inner scope) vx ve
    | _ => false)
  | .isi f e, .Call (.Name x _) [y, .Name t _] [] _ => decide (x = ("isinstance" : Str)) && decide (f.name = t) && f.ty.isSome && glB g.sc x && glB g.sc t && noStar [y] && chkE g e y
  | .lock _ e, x => chkE g e x
  | .lrg t es, .Call (.Name x _) [.Call (.Name y _) xs [] _] [] _ => decide (x = if t = true then ("tuple" : Str) else "list") && decide (y = ("range" : Str)) && glB g.sc x && glB g.sc y && noStar xs && (decide (xs.length = 1) || decide (xs.length = 2)) && chkEs g es xs
  | .inv neg a d, .Compare l [o] [.Call (.Attribute de n apos) [] [] cpos] _ => decide (n = ("values" : Str)) && invB neg o && (apos.endLine == cpos.line) && okBase de && chkE g a l && chkE g d de
  | _, _ => false
def chkEs (g : Sc) : Es → List Expr → Bool
  | .nil, [] => true
  | .cons e r, x :: xs => chkE g e x && chkEs g r xs
  | _, _ => false
def chkKw (g : Sc) : Es → List Keyword → Bool
  | .nil, [] => true
  | .cons e r, ⟨_, x, _⟩ :: xs => chkE g e x && chkKw g r xs
  | _, _ => false
def chkKs (g : Sc) : Ks → List (Option Expr) → List Expr → Bool
  | .nil, [], [] => true
  | .cons k v r, some x :: xs, y :: ys => chkE g k x && chkE g v y && chkKs g r xs ys
  | _, _, _ => false
def chkT (g : Sc) : T → Expr → Bool
  | .e c, x => plainT x && chkE g c x
  | .and a b, .BoolOp .And (x :: y :: r) p => chkT g a x && (match r with
    | [] => chkT g b y
    | _ => chkT g b (.BoolOp .And (y :: r) p))
  | .or a b, .BoolOp .Or (x :: y :: r) p => chkT g a x && (match r with
    | [] => chkT g b y
    | _ => chkT g b (.BoolOp .Or (y :: r) p))
  | .not a, .UnaryOp .Not x _ => chkT g a x
  | .cmp op a b, .Compare l [o] [r] _ => decide (op = o) && chkE g a l && chkE g b r && !behindInMarks o r
  | .cmp2 op op' a b c, .Compare l [o, o'] [r, t] _ => decide (op = o) && decide (op' = o') && chkE g a l && chkE g b r && chkE g c t && !lastMarks [o, o'] [r, t]
  | .inv neg a d, .Compare l [o] [.Call (.Attribute de n apos) [] [] cpos] _ => decide (n = ("values" : Str)) && invB neg o && (apos.endLine == cpos.line) && okBase de && chkE g a l && chkE g d de
  | _, _ => false
def chkTs (g : Sc) : Ts → List Expr → Bool
  | .nil, [] => true
  | .cons t r, [x] => chkT g t x && (match r with
    | .nil => true
    | _ => false)
  | _, _ => false
def chkP (g : Sc) : Pt → Option Expr → Bool
  | .none, none => true
  | .some e, some x => chkE g e x
  | _, _ => false
def chkI (g : Sc) : It → Expr → Bool
  | .ex e, x => chkE g e x
  | .keys e, x => chkE g e x
  | .rev e, .Call (.Name x _) [y] [] _ => decide (x = ("reversed" : Str)) && glB g.sc x && noStar [y] && chkE g e y
  | .rng es, .Call (.Name x _) xs [] _ => decide (x = ("range" : Str)) && glB g.sc x && noStar xs && (decide (xs.length = 1) || decide (xs.length = 2)) && chkEs g es xs
  | _, _ => false
def chkG (g : Sc) : Tg → Expr → Bool
  | .nm i, .Name x _ => nameB g x i
  | .tup is, .Tuple es _ _ => namesB g is es
  | .sub o i, .Subscript x y _ => chkE g o x && chkE g i y && !isSlice y
  | _, _ => false
end
/-- a comprehension that is stored at once on its line -/
def atOnce (sc : Scope) (v tg : Expr) : Bool := match v, tg with
  | .ListComp _ _ s p, .Name t q => isLocal sc t && (q.line == p.line) && !(s.names.any fun (n, k) => n == t && (k == .local || k == .cell))
  | .SetComp _ _ s p, .Name t q => isLocal sc t && (q.line == p.line) && !(s.names.any fun (n, k) => n == t && (k == .local || k == .cell))
  | .DictComp _ _ _ s p, .Name t q => isLocal sc t && (q.line == p.line) && !(s.names.any fun (n, k) => n == t && (k == .local || k == .cell))
  | _, _ => false
def twoTuples : Expr → Expr → Bool
  | .Tuple _ _ _, .Tuple _ _ _ => true
  | .List _ _, .Tuple _ _ _ => true
  | _, _ => false
def opOk : Operator → Bool
  | .Add => true | .Sub => true | .BitOr => true | .Mult => true | _ => false
def isLc : E → Bool
  | .lc .. => true
  | _ => false
def isStarE : Expr → Bool
  | .Starred .. => true
  | _ => false
mutual
def chkS (g : Sc) : S → Stmt → Bool
  | .pass, .Pass _ => true
  | .brk, .Break _ => true
  | .cont, .Continue _ => true
  | .retN, .Return none _ => true
  | .ret e, .Return (some x) _ => chkE g e x
  | .ex e, .Expr x _ => chkE g e x && !isComp x
  | .asg t e, .Assign [tg] v _ => chkG g t tg && chkE g e v && !twoTuples tg v && (match atOnce g.sc v tg with
    | false => true
    | true => isLc e)
  | .aug i op e, .AugAssign (.Name x _) o v _ => decide (op = o) && opOk o && nameB g x i && chkE g e v
  | .sfld c o f e, .Assign [.Attribute x n _] v _ => decide (f = n) && decide (c ∈ g.kf.cls) && decide ((c, f) ∈ g.kf.noat) && chkE g o x && chkE g e v
  | .augF c o f op e, .AugAssign (.Attribute x n _) op' v _ => decide (op = op') && opOk op && decide (f = n) && decide (c ∈ g.kf.cls) && decide ((c, f) ∈ g.kf.noat) && chkE g o x && chkE g e v
  | .ite c a b, .If t x y _ => chkT g c t && chkSs g a x && chkSs g b y
  | .whl c b, .While t x [] _ => chkT g c t && chkSs g b x
  | .frr t it b, .For tg ie x [] _ => chkG g t tg && chkI g it ie && !isSet ie && chkSs g b x
  | .never, _ => true
  | .lk _ st, x => chkS g st x
  | _, _ => false
def chkSs (g : Sc) : Ss → List Stmt → Bool
  | .nil, [] => true
  | .cons s r, x :: xs => chkS g s x && chkSs g r xs
  | _, _ => false
end

/-! a generator's body -/
mutual
def chkY (g : Sc) : Y → Stmt → Bool
  | .pl s, st => chkS g s st
  | .yld e, .Expr (.Yield (some x) _) _ => chkE g e x
  | .whl c b, .While t x [] _ => chkT g c t && chkYs g b x
  | _, _ => false
def chkYs (g : Sc) : Ys → List Stmt → Bool
  | .nil, [] => true
  | .cons y r, x :: xs => chkY g y x && chkYs g r xs
  | _, _ => false
end

/-! ### the context -/
structure Ctx (X : Cx) (g : Sc) (C : Str → List PV → PH → Out PV) (k : Nat) : Prop where
  N : X.N = g.N
  sc : X.env.scope = g.sc
  fn : ∀ x, g.fn x = true → X.fn x = true
  calm : X.calm = true
  nd : X.N.Nodup
  xe : X.xe = fun _ _ => False
  kind : X.env.scope.kind = .function
  room : Room (4 * k + 3) X.A
  bi : ∀ f : Bi, X.mg f.name = none
  range : X.mg "range" = none
  fns : ∀ f, g.kf.loc f = .gen ∨ FnAt X g.kf (4 * k) f (C f) ∨ ∀ xs h, C f xs h = .bad
  gens : ∀ f, g.kf.loc f = .gen → GnAt X g.kf (4 * k) f (C f) ∨ ∀ xs h, C f xs h = .bad
  cls : ∀ c, c ∈ g.kf.cls → Cls X.K (He.ga X.K c)
  noat : ∀ c f, (c, f) ∈ g.kf.noat → NoAttr X.K (He.ga X.K c) f
  mkr : ∀ c, c ∈ g.kf.mkr → (∃ f, Mk X.K (He.ga X.K c) f) ∧ X.mg c = some (.ref (He.ga X.K c))
  rp : g.rp = true → X.A.guards = some []
theorem inv_op {neg : Bool} {o : CmpOp} (h : invB neg o = true) : (o = .In ∨ o = .NotIn) ∧ neg = decide (o = .NotIn) := by
  cases o <;> cases neg <;> simp [invB] at h ⊢
section
variable {X : Cx} {g : Sc} {C : Str → List PV → PH → Out PV} {k : Nat}
theorem Ctx.blk (c : Ctx X g C k) {scope : Scope} (hk : scope.kind = .function) (s : Shared) (H : Hp) (C' : Addr) (cl : List (Str × Addr)) (fp : List Addr) : Ctx (X.blk s H scope (compEnvC scope cl C' X.env) fp) (g.inner scope) C k where
  N := c.N
  sc := by
    show relabel scope X.env = relS scope g.sc
    rw [← c.sc]
    rfl
  fn := fun x h => h
  calm := c.calm
  nd := c.nd
  xe := rfl
  kind := hk
  room := c.room
  bi := c.bi
  range := c.range
  fns := fun f => (c.fns f).imp id fun z => z.imp (fun ⟨ex⟩ => ⟨ex⟩) id
  gens := fun f h => (c.gens f h).imp (fun ⟨ex⟩ => ⟨ex⟩) id
  cls := c.cls
  noat := c.noat
  mkr := c.mkr
  rp := c.rp
theorem Ctx.fnOf (c : Ctx X g C k) {f : Str} (h : g.kf.loc f ≠ .gen) : FnAt X g.kf (4 * k) f (C f) ∨ ∀ xs h, C f xs h = .bad := (c.fns f).elim (fun z => absurd z h) id
theorem Ctx.vis (c : Ctx X g C k) {x : Str} (h : visB g.sc x = true) : Vis X.env.scope x := by
  rw [c.sc]
  unfold visB at h
  split at h
  · exact .inl (by assumption)
  · exact .inr (.inl (by assumption))
  · exact .inr (.inr (by assumption))
  · cases h
theorem Ctx.loc (c : Ctx X g C k) {x : Str} (h : locB g.sc x = true) : Loc X.env.scope x := by
  rw [c.sc]
  unfold locB at h
  split at h
  · exact .inl (by assumption)
  · exact .inr (by assumption)
  · cases h
theorem Ctx.gl (c : Ctx X g C k) {x : Str} (h : glB g.sc x = true) : Gl X x := by
  unfold Gl Env.kindOf
  rw [c.sc]
  unfold glB at h
  split at h
  · assumption
  · cases h
theorem isLocal_of {sc : Scope} {x : Str} (h : isLocal sc x = true) : sc.names.lookup x = some .local := by
  unfold isLocal at h
  split at h
  · assumption
  · cases h
theorem Ctx.name (c : Ctx X g C k) {x : Str} {i : Nat} (h : nameB g x i = true) : NameAt X x i := by
  unfold nameB at h
  simp only [Bool.and_eq_true, Bool.or_eq_true, decide_eq_true_eq] at h
  refine ⟨by rw [c.N]; exact h.1.1, c.loc h.1.2, h.2.imp (c.fn x) fun z => ?_⟩
  rw [c.sc]
  exact isLocal_of z
theorem Ctx.hu (c : Ctx X g C k) : X.A.units + 65 < cLine := by have := c.room.un; omega
theorem star_cons {env : Env} {x : Expr} {xs : List Expr} (h : noStar (x :: xs) = true) : starEach (x :: xs) env = (false, eval x env) :: starEach xs env ∧ noStar xs = true := by
  cases x <;> first | exact ⟨rfl, h⟩ | (simp [noStar] at h)
theorem star_any {env : Env} : ∀ {xs : List Expr} {pos : Pos}, noStar xs = true → (backTo pos (starEach xs env)).any (·.1) = false
  | [], _, _ => rfl
  | x :: xs, pos, h => by
    obtain ⟨h1, h2⟩ := star_cons (env := env) h
    rw [h1]
    unfold backTo
    rw [List.map_cons, List.any_cons]
    have := star_any (env := env) (pos := pos) h2
    unfold backTo at this
    rw [this]
    rfl
theorem call_ev {o : Expr} {m : Str} {apos pos : Pos} {env : Env} {es : List Expr} (hb : attributeBase o m env (eval o env) = eval o env) (hline : (apos.endLine == pos.line) = true) (hs : noStar es = true) (hz : es.length ≤ 20) :
    eval (.Call (.Attribute o m apos) es [] pos) env = (do
      let ov ← eval o env
      standAt apos.atName
      let __x ← holding [ov] (getMethod ov m (do
        let b ← importBound o env
        pure (b.getD true)))
      match __x with
        | (f, first) => callWith pos f first (backTo pos (starEach es env)) (backToKw pos (keywordEach [] env))) := by
  have hform : methodCallForm (es.length + ([] : List Keyword).length) (backTo pos (starEach es env)) (backToKw pos (keywordEach [] env)) = true := by
    unfold methodCallForm
    have h1 : ((backTo pos (starEach es env)).all fun x => !x.1) = true := by
      have := star_any (env := env) (pos := pos) hs
      rw [List.any_eq_false] at this
      rw [List.all_eq_true]
      intro x hx
      have := this x hx
      simpa using this
    have h2 : backToKw pos (keywordEach [] env) = [] := rfl
    rw [h1, h2]
    simp
    omega
  rw [arm_eval_Call, hb]
  unfold methodCall
  rw [hform]
  have hp : methodCallPos true o env apos pos = pure pos := by
    unfold methodCallPos
    rw [hline]
    rfl
  rw [hp]
  rfl
theorem plainIx_of {e : Expr} (h : isSlice e = false) : PlainIx e := by
  intro o i
  cases e <;> first | rfl | (simp [isSlice] at h)
theorem base_of {e : Expr} {n : Str} {env : Env} {w : Sem Value} (h : okBase e = true) : attributeBase e n env w = w := by
  unfold attributeBase
  split
  · rename_i id p pos
    simp only [okBase] at h
    rw [if_pos (by simp only [Bool.or_eq_true]; left; left; left; exact h)]
  · rfl
theorem set_of {e : Expr} {env : Env} (h : isSet e = false) (x : Value) : foldedSetIterable e env x = pure x := by
  cases e <;> first | rfl | (simp [isSet] at h)
theorem plainT_of {e : Expr} {env : Env} (h : plainT e = true) (w : Sem Value) : isTrue e env w = (do let v ← w; standAt e.pos; holding [v] (truthy v)) := by
  cases e with
  | UnaryOp op x p => cases op <;> first | rfl | (simp [plainT] at h)
  | BoolOp _ _ _ => simp [plainT] at h
  | IfExp _ _ _ _ => simp [plainT] at h
  | Compare _ _ _ _ => simp [plainT] at h
  | _ => rfl
theorem swaps_attr {v o : Expr} {f : Str} {p : Pos} {l : Nat} {env : Env} : swapsWith v (some (.Attribute o f p)) l env = pure false := by
  cases v <;> rfl
theorem kw_len : ∀ {kws : List Keyword} {ks : List Str}, kwNames kws = some ks → kws.length = ks.length
  | [], ks, h => by simp only [kwNames, Option.some.injEq] at h; subst h; rfl
  | ⟨some n, v, p⟩ :: r, ks, h => by
    simp only [kwNames, Option.map_eq_some_iff] at h
    obtain ⟨ks', h1, rfl⟩ := h
    rw [List.length_cons, List.length_cons, kw_len h1]
  | ⟨none, _, _⟩ :: _, ks, h => by simp [kwNames] at h
theorem kw_ev {C : Str → List PV → PH → Out PV} : ∀ {g : Sc} {ks : Es} {kws : List Keyword} {s : PSt} {h : PH} {v : List PV} {h' : PH}, chkKw g ks kws = true → evEs C ks s h = .ok v h' → v.length = kws.length
  | g, .nil, [], s, h, v, h', _, e => by unfold evEs at e; cases e; rfl
  | g, .nil, _ :: _, s, h, v, h', c, e => by simp [chkKw] at c
  | g, .cons a r, [], s, h, v, h', c, e => by simp [chkKw] at c
  | g, .cons a r, ⟨n, x, p⟩ :: t, s, h, v, h', c, e => by
    simp only [chkKw, Bool.and_eq_true] at c
    unfold evEs at e
    cases e1 : evE C a s h with
    | ok w h1 =>
      rw [e1] at e
      simp only [Out.bnd] at e
      cases e2 : evEs C r s h1 with
      | ok ws h2 =>
        rw [e2] at e
        cases e
        rw [List.length_cons, List.length_cons, kw_ev c.2 e2]
      | exc _ _ => rw [e2] at e; cases e
      | bad => rw [e2] at e; cases e
    | exc _ _ => rw [e1] at e; cases e
    | bad => rw [e1] at e; cases e
theorem swaps_none {e : Expr} {env : Env} {t : Option Expr} {l : Nat} (h : isComp e = false) : swapsWith e t l env = pure false := by
  cases e <;> first | rfl | (simp [isComp] at h)
end
end MP

set_option Elab.async false
set_option linter.all false
set_option maxRecDepth 100000
set_option maxHeartbeats 4000000
namespace MP
open PySem PySem.Spec PyProof.Rows L2

theorem PE.fn {X : Cx} {e : Expr} {f f' : PSt → PH → Out PV} (h : PE X e (lE X.K f)) (q : f' = f) : PE X e (lE X.K f') := q ▸ h
theorem PT.fn {X : Cx} {e : Expr} {f f' : PSt → PH → Out Bool} (h : PT X e (lB X.K f)) (q : f' = f) : PT X e (lB X.K f') := q ▸ h
theorem PW.fn {X : Cx} {e : Expr} {f f' : PSt → PH → Out Bool} (h : PW X e (lB X.K f)) (q : f' = f) : PW X e (lB X.K f') := q ▸ h
theorem PA.fn {X : Cx} {e : List Expr} {f f' : PSt → PH → Out (List PV)} (h : PA X e (lA X.K f)) (q : f' = f) : PA X e (lA X.K f') := q ▸ h
theorem PI.fn {X : Cx} {tg e : Expr} {f f' : PSt → PH → Out MP.Itr} (h : PI X tg e (lI X.K f)) (q : f' = f) : PI X tg e (lI X.K f') := q ▸ h
theorem PS.fn {X : Cx} {e : Stmt} {f f' : PSt → PH → SO} (h : PS X e (lS X.K f)) (q : f' = f) : PS X e (lS X.K f') := q ▸ h
theorem PSs.fn {X : Cx} {e : List Stmt} {f f' : PSt → PH → SO} (h : PSs X e (lS X.K f)) (q : f' = f) : PSs X e (lS X.K f') := q ▸ h
theorem PG.fn {X : Cx} {e : Expr} {ws : List Nat} {f f' : PV → PSt → PH → Out PSt} (h : PG X e (lT X.K ws f)) (q : f' = f) : PG X e (lT X.K ws f') := q ▸ h

theorem own_slots {N : List Str} {own ws : List Nat} (h : ws.all (own.contains ·) = true) : ∀ w ∈ ws, w ∈ (ownOf N own).map (·.2) := fun w hw => by
  have := List.all_eq_true.mp h w hw
  unfold ownOf
  rw [List.map_map]
  simpa using this
theorem own_map {N : List Str} {own : List Nat} : (ownOf N own).map (·.2) = own := by
  unfold ownOf
  rw [List.map_map]
  simp [Function.comp_def]
theorem names_of {X : Cx} {g : Sc} {C : Str → List PV → PH → Out PV} {k : Nat} (c : Ctx X g C k) : ∀ {is : List Nat} {es : List Expr}, namesB g is es = true → ∃ xs : List (Str × Pos), es = xs.map (fun x => Expr.Name x.1 x.2) ∧ Paired (fun (x : Str × Pos) i => NameAt X x.1 i) xs is
  | [], [], _ => ⟨[], rfl, .nil⟩
  | [], _ :: _, h => by simp [namesB] at h
  | i :: is, [], h => by simp [namesB] at h
  | i :: is, e :: es, h => by
    cases e <;> simp [namesB] at h
    rename_i x p
    obtain ⟨xs, e1, e2⟩ := names_of c h.2
    exact ⟨(x, p) :: xs, by rw [e1]; rfl, .cons (c.name h.1) e2⟩

mutual
theorem sndE {C : Str → List PV → PH → Out PV} {k : Nat} : ∀ (c : E) {X : Cx} {g : Sc} {e : Expr}, Ctx X g C k → chkE g c e = true → PE X e (lE X.K (evE C c))
  | .non, X, g, e, ctx, h => by
    unfold chkE at h; split at h <;> first | contradiction | skip
    exact se_const pe_non fun _ _ => .non
  | .bl b, X, g, e, ctx, h => by
    unfold chkE at h; split at h <;> first | contradiction | skip
    rename_i q; cases q
    have := eq_of_beq h
    subst this
    exact se_const pe_bl fun _ _ => .bl _
  | .int i, X, g, e, ctx, h => by
    unfold chkE at h; split at h <;> first | contradiction | skip
    rename_i q; cases q
    have := of_decide_eq_true h
    subst this
    exact se_const pe_int fun _ _ => .int _
  | .str x, X, g, e, ctx, h => by
    unfold chkE at h; split at h <;> first | contradiction | skip
    rename_i q; cases q
    have := of_decide_eq_true h
    subst this
    exact se_const pe_str fun _ _ => .str _
  | .var i, X, g, e, ctx, h => by
    unfold chkE at h; split at h <;> first | contradiction | skip
    rename_i q; cases q
    simp only [Bool.and_eq_true, Bool.not_eq_true', decide_eq_true_eq] at h
    exact se_var (by rw [ctx.N]; exact h.1.1.1) (ctx.vis h.1.1.2) h.1.2 h.2
  | .cst x v, X, g, e, ctx, h => by
    simp [chkE] at h
  | .bin op a b, X, g, e, ctx, h => by
    unfold chkE at h; split at h <;> first | contradiction | skip
    rename_i q; cases q
    simp only [Bool.and_eq_true, decide_eq_true_eq] at h
    obtain ⟨⟨rfl, h1⟩, h2⟩ := h
    exact PE.fn (se_bin (sndE a ctx h1) (sndE b ctx h2)) (by funext s h; rfl)
  | .neg a, X, g, e, ctx, h => by
    unfold chkE at h; split at h <;> first | contradiction | skip
    rename_i q; cases q
    exact PE.fn (se_neg (sndE a ctx h)) (by funext s h; rfl)
  | .cmp op a b, X, g, e, ctx, h => by
    unfold chkE at h; split at h <;> first | contradiction | skip
    rename_i q; cases q
    simp only [Bool.and_eq_true, decide_eq_true_eq, Bool.not_eq_true'] at h
    obtain ⟨⟨⟨rfl, h1⟩, h2⟩, h3⟩ := h
    exact PE.fn (se_cmp ctx.hu (sndE a ctx h1) (sndE b ctx h2) h3) (by funext s h; rfl)
  | .cmp2 op op' a b c, X, g, e, ctx, h => by
    unfold chkE at h; split at h <;> first | contradiction | skip
    rename_i q; cases q
    simp only [Bool.and_eq_true, decide_eq_true_eq, Bool.not_eq_true'] at h
    obtain ⟨⟨⟨⟨⟨rfl, rfl⟩, h1⟩, h2⟩, h3⟩, h4⟩ := h
    exact PE.fn (se_cmp2 ctx.hu (sndE a ctx h1) (sndE b ctx h2) (sndE c ctx h3) h4) (by funext s h; rfl)
  | .and a b, X, g, e, ctx, h => by
    unfold chkE at h; split at h <;> first | contradiction | skip
    rename_i q; cases q
    simp only [Bool.and_eq_true] at h
    obtain ⟨h1, h2⟩ := h
    refine PE.fn (se_and (sndE a ctx h1) (fb := evE C b) ?_) (by funext s h; rfl)
    split at h2
    · exact pe_one (sndE b ctx h2)
    · exact sndE b ctx h2
  | .or a b, X, g, e, ctx, h => by
    unfold chkE at h; split at h <;> first | contradiction | skip
    rename_i q; cases q
    simp only [Bool.and_eq_true] at h
    obtain ⟨h1, h2⟩ := h
    refine PE.fn (se_or (sndE a ctx h1) (fb := evE C b) ?_) (by funext s h; rfl)
    split at h2
    · exact pe_one (sndE b ctx h2)
    · exact sndE b ctx h2
  | .not a, X, g, e, ctx, h => by
    unfold chkE at h; split at h <;> first | contradiction | skip
    rename_i q; cases q
    exact PE.fn (se_not (sndE a ctx h)) (by funext s h; rfl)
  | .ite c a b, X, g, e, ctx, h => by
    unfold chkE at h; split at h <;> first | contradiction | skip
    rename_i q; cases q
    simp only [Bool.and_eq_true] at h
    exact PE.fn (se_ite (sndT c ctx h.1.1) (sndE a ctx h.1.2) (sndE b ctx h.2)) (by funext s h; rfl)
  | .tup es, X, g, e, ctx, h => by
    unfold chkE at h; split at h <;> first | contradiction | skip
    rename_i q; cases q
    simp only [Bool.and_eq_true] at h
    exact PE.fn (se_tup (sndEs es ctx h.1 h.2)) (by funext s h; rfl)
  | .lst es, X, g, e, ctx, h => by
    unfold chkE at h; split at h <;> first | contradiction | skip
    rename_i q; cases q
    simp only [Bool.and_eq_true] at h
    exact PE.fn (se_lst (sndEs es ctx h.1 h.2)) (by funext s h; rfl)
  | .dic ks, X, g, e, ctx, h => by
    unfold chkE at h; split at h <;> first | contradiction | skip
    rename_i q; cases q
    split at h
    · split at h <;> first | contradiction | skip
      exact PE.fn se_dic0 (by funext s h; rfl)
    · rename_i hne
      simp only [Bool.and_eq_true, decide_eq_true_eq] at h
      obtain ⟨d1, d2, d3⟩ := sndKs ks ctx h.1
      exact PE.fn (se_dic (d1 _) d2 d3 (fun z => hne z) h.2) (by funext s h; rfl)
  | .sub a i, X, g, e, ctx, h => by
    unfold chkE at h; split at h <;> first | contradiction | skip
    rename_i q; cases q
    simp only [Bool.and_eq_true, Bool.not_eq_true'] at h
    exact PE.fn (se_sub ctx.hu (sndE a ctx h.1.2) (sndE i ctx h.2) (plainIx_of h.1.1)) (by funext s h; rfl)
  | .slc a lo hi, X, g, e, ctx, h => by
    unfold chkE at h; split at h <;> first | contradiction | skip
    rename_i q; cases q
    simp only [Bool.and_eq_true] at h
    exact PE.fn (se_slc (sndE a ctx h.1.1) (sndP lo ctx h.1.2) (sndP hi ctx h.2)) (by funext s h; rfl)
  | .call f es, X, g, e, ctx, h => by
    unfold chkE at h; split at h <;> first | contradiction | skip
    rename_i q; cases q
    simp only [Bool.and_eq_true, decide_eq_true_eq, Bool.not_eq_true'] at h
    obtain ⟨⟨⟨⟨⟨⟨rfl, hl⟩, hkw⟩, h1⟩, h2⟩, h3⟩, h4⟩ := h
    have ha := sndEs es ctx h3 h4
    rcases ctx.fnOf (f := f) (by rw [hl]; exact fun z => by cases z) with F | F
    · refine PE.fn (se_call F hl hkw (ctx.room.mono (by omega)) (ctx.gl h1) h2 ha (fun a t e => ?_) (fun a t e => ?_) fun e => ?_) (by funext s h; rfl)
      · subst e; exact (star_cons h3).1
      · subst e; exact star_any (star_cons (env := X.env) h3).2
      · subst e
        cases es with
        | nil => exact fun s h => rfl
        | cons _ _ => simp [chkEs] at h4
    · refine ⟨fun pins s σ H Q I ⟨ρ, s', h', S, R, po⟩ => ?_⟩
      have po : PostV X.K ρ H ((evEs C es s' h').bnd fun xs h => C f xs h) Q := po
      obtain ⟨v, h2, _, po2⟩ := po.okOf
      rw [F] at po2
      exact po2.elim
  | .bi f es, X, g, e, ctx, h => by
    unfold chkE at h; split at h <;> first | contradiction | skip
    rename_i q; cases q
    simp only [Bool.and_eq_true, decide_eq_true_eq] at h
    obtain ⟨⟨⟨rfl, h1⟩, h2⟩, h3⟩ := h
    exact PE.fn (se_bi ctx.calm (ctx.gl h1) (ctx.bi f) (sndEs es ctx h2 h3) (star_cons h2).1 (star_any (star_cons (env := X.env) h2).2)) (by funext s h; rfl)
  | .mt m o es, X, g, e, ctx, h => by
    unfold chkE at h; split at h <;> first | contradiction | skip
    rename_i q; cases q
    simp only [Bool.and_eq_true, decide_eq_true_eq] at h
    obtain ⟨⟨⟨⟨⟨⟨rfl, h1⟩, h2⟩, h3⟩, h4⟩, h5⟩, h6⟩ := h
    have ho := sndE o ctx h5
    cases es with
    | nil =>
      cases ‹List Expr› with
      | cons _ _ => simp [chkEs] at h6
      | nil =>
        refine PE.fn (se_mt0 (fun n => base_of h2) h1 ho) ?_
        funext s h
        simp only [evE, evEs]
        cases evE C o s h with
        | ok v h' => simp only [Out.bnd, if_pos]
        | exc _ _ => rfl
        | bad => rfl
    | cons c r =>
      cases ‹List Expr› with
      | nil => simp [chkEs] at h6
      | cons x xs =>
        simp only [chkEs, Bool.and_eq_true] at h6
        have hx := sndE c ctx h6.1
        cases r with
        | nil =>
          cases xs with
          | cons _ _ => simp [chkEs] at h6
          | nil =>
            refine PE.fn (se_mt1 ctx.hu (fun n => base_of h2) h1 (star_cons h3).1 ho hx) ?_
            funext s h
            simp only [evE, evEs, Out.bnd_bnd]
            rfl
        | cons c2 r2 =>
          cases xs with
          | nil => simp [chkEs] at h6
          | cons y ys =>
            have h6' : chkE g c2 y = true ∧ chkEs g r2 ys = true := by simpa [chkEs] using h6.2
            have hy := sndE c2 ctx h6'.1
            cases ys with
            | cons _ _ => simp at h4
            | nil =>
              cases r2 with
              | cons _ _ => simp [chkEs] at h6'
              | nil =>
                have s1 := star_cons (env := X.env) h3
                have s2 := star_cons (env := X.env) s1.2
                refine PE.fn (se_mt2 ctx.hu (fun n => base_of h2) h1 (by rw [s1.1, s2.1]; rfl) (by rw [s2.1]; rfl) ho hx hy) ?_
                funext s h
                simp only [evE, evEs, Out.bnd_bnd]
                rfl
  | .fld c o f, X, g, e, ctx, h => by
    unfold chkE at h; split at h <;> first | contradiction | skip
    rename_i q; cases q
    simp only [Bool.and_eq_true, decide_eq_true_eq] at h
    obtain ⟨⟨⟨⟨rfl, h1⟩, h2⟩, h3⟩, h4⟩ := h
    exact PE.fn (se_fld (sndE o ctx h4) (ctx.cls _ h2) (ctx.noat _ _ h3) (base_of h1)) (by funext s h; rfl)
  | .mk c key es, X, g, e, ctx, h => by
    unfold chkE at h; split at h <;> first | contradiction | skip
    rename_i q; cases q
    simp only [Bool.and_eq_true, decide_eq_true_eq, Bool.not_eq_true'] at h
    obtain ⟨⟨⟨⟨⟨⟨⟨rfl, hl⟩, hkw⟩, h1⟩, h2⟩, h3⟩, h4⟩, h5⟩ := h
    have ha := sndEs es ctx h4 h5
    obtain ⟨m1, m2⟩ := ctx.mkr _ h1
    rcases ctx.fnOf (f := key) (by rw [hl]; exact fun z => by cases z) with F | F
    · exact PE.fn (se_mk F hl hkw m1 (ctx.room.mono (by omega)) (ctx.gl h2) m2 h3 ha (star_cons h4).1 (star_any (star_cons (env := X.env) h4).2)) (by funext s h; rfl)
    · refine ⟨fun pins s σ H Q I ⟨ρ, s', h', S, R, po⟩ => ?_⟩
      have po : PostV X.K ρ H ((evEs C es s' h').bnd fun xs h => (C key (.ref h.length :: xs) (h ++ [.ins c []])).bnd (mkR h.length)) Q := po
      obtain ⟨v, h2, _, po2⟩ := po.okOf
      rw [F] at po2
      exact po2.elim
  | .um c key m o es, X, g, e, ctx, h => by
    unfold chkE at h; split at h <;> first | contradiction | skip
    rename_i q; cases q
    rename_i xo n1 p1 xs p2
    simp only [Bool.and_eq_true, decide_eq_true_eq, Bool.not_eq_true'] at h
    obtain ⟨⟨⟨⟨⟨⟨⟨⟨⟨rfl, hl⟩, hkw⟩, h1⟩, h2⟩, hline⟩, hz⟩, h3⟩, h4⟩, h5⟩ := h
    have ho := sndE o ctx h4
    have ha := sndEs es ctx h3 h5
    have hev := call_ev (m := m) (env := X.env) (base_of h2) hline h3 hz
    rcases ctx.fnOf (f := key) (by rw [hl]; exact fun z => by cases z) with F | F
    · cases xs with
      | nil =>
        cases es with
        | cons _ _ => simp [chkEs] at h5
        | nil =>
          refine PE.fn (se_um0 F hl hkw (ctx.cls _ h1) (ctx.room.mono (by omega)) ho hev) ?_
          funext s h
          show (evE C o s h).bnd _ = _
          refine congrArg _ ?_
          funext x h1
          simp only [evEs, Out.bnd]
          all_goals (cases fldsAt c x h1 <;> rfl)
      | cons a t => exact PE.fn (se_um F hl hkw (ctx.cls _ h1) (ctx.room.mono (by omega)) ho ha (star_cons h3).1 (star_any (star_cons (env := X.env) h3).2) hev) (by funext s h; rfl)
    · refine ⟨fun pins s σ H Q I ⟨ρ, s', h', S, R, po⟩ => ?_⟩
      have po : PostV X.K ρ H ((evE C o s' h').bnd fun x h1 => match fldsAt c x h1 with
          | some (_, fs) => if (fs.lookup m).isNone = true then (evEs C es s' h1).bnd fun xs h2 => C key (x :: xs) h2 else .bad
          | none => .bad) Q := po
      obtain ⟨v, h2, _, po2⟩ := po.okOf
      split at po2 <;> try exact po2.elim
      split at po2 <;> try exact po2.elim
      obtain ⟨v3, h3, _, po3⟩ := PostG.okOf po2
      rw [F] at po3
      exact po3.elim
  | .kcall f es ks, X, g, e, ctx, h => by
    unfold chkE at h; split at h <;> first | contradiction | skip
    rename_i q; cases q
    simp only [Bool.and_eq_true, decide_eq_true_eq, Bool.not_eq_true'] at h
    obtain ⟨⟨⟨⟨⟨⟨⟨⟨rfl, hl⟩, hkw⟩, hn⟩, h1⟩, h2⟩, h3⟩, h4⟩, h5⟩ := h
    have ha := sndEs es ctx h3 h4
    have hk := sndKw ks ctx h5
    rcases ctx.fnOf (f := f) (by rw [hl]; exact fun z => by cases z) with F | F
    · exact PE.fn (se_kcall F hl hkw (ctx.room.mono (by omega)) (ctx.gl h1) h2 ha hk hn (fun s h v h' e => (kw_ev h5 e).trans (kw_len hn)) (star_cons h3).1 (star_any h3)) (by funext s h; rfl)
    · refine ⟨fun pins s σ H Q I ⟨ρ, s', h', S, R, po⟩ => ?_⟩
      have po : PostV X.K ρ H ((evEs C es s' h').bnd fun xs h => (evEs C ks s' h).bnd fun ys h => C f (xs ++ ys) h) Q := po
      obtain ⟨v, h2, _, po2⟩ := po.okOf
      obtain ⟨v3, h3, _, po3⟩ := PostG.okOf po2
      rw [F] at po3
      exact po3.elim
  | .lgen f es ks, X, g, e, ctx, h => by
    unfold chkE at h; split at h <;> first | contradiction | skip
    rename_i q; cases q
    simp only [Bool.and_eq_true, decide_eq_true_eq, Bool.not_eq_true'] at h
    obtain ⟨⟨⟨⟨⟨⟨⟨⟨⟨⟨rfl, rfl⟩, hl⟩, hkw⟩, hn⟩, h0⟩, h1⟩, h2⟩, h3⟩, h4⟩, h5⟩ := h
    have ha := sndEs es ctx h3 h4
    have hk := sndKw ks ctx h5
    rcases ctx.gens f hl with F | F
    · exact PE.fn (se_lgen F hkw ctx.room (ctx.gl h0) (ctx.bi .list) (ctx.gl h1) h2 ha hk hn (fun s h v h' e => (kw_ev h5 e).trans (kw_len hn)) (star_cons h3).1 (star_any h3)) (by funext s h; rfl)
    · refine ⟨fun pins s σ H Q I ⟨ρ, s', h', S, R, po⟩ => ?_⟩
      have po : PostV X.K ρ H ((evEs C es s' h').bnd fun xs h => (evEs C ks s' h).bnd fun ys h => (C f (xs ++ ys) h).bnd lgenR) Q := po
      obtain ⟨v, h2, _, po2⟩ := po.okOf
      obtain ⟨v3, h3, _, po3⟩ := PostG.okOf po2
      rw [F] at po3
      exact po3.elim
  | .rpr c, X, g, e, ctx, h => by
    unfold chkE at h; split at h <;> first | contradiction | skip
    rename_i q; cases q
    simp only [Bool.and_eq_true, decide_eq_true_eq] at h
    obtain ⟨⟨⟨⟨rfl, h1⟩, h2⟩, h3⟩, h4⟩ := h
    exact PE.fn (se_rpr (ctx.gl h2) (ctx.bi .isInt) (ctx.rp h1) ctx.hu (sndE c ctx h4) (star_cons h3).1) (by funext s h; rfl)
  | .lc elt tg it ifs own, X, g, e, ctx, h => by
    unfold chkE at h; split at h <;> first | contradiction | skip
    rename_i q; cases q
    rename_i c scope _
    obtain ⟨ct, ci, cf, ca⟩ := c
    split at h <;> first | contradiction | skip
    rename_i hca
    have hca : ca = 0 := hca
    subst hca
    simp only [Bool.and_eq_true, Bool.not_eq_true'] at h
    obtain ⟨⟨⟨⟨⟨⟨h1, h2⟩, h3⟩, h4⟩, h5⟩, h6⟩, h7⟩ := h
    have ok : BlkOk X.N X.env.scope scope (ownOf g.N own) := by rw [ctx.N, ctx.sc]; exact blkOk_by h1
    refine PE.fn (se_lc (ws := tgSlots tg) ctx.calm ctx.nd (sndI it ctx h3) ok (own_slots h2) (fun s H C' cl fp => sndG tg (ctx.blk ok.kind s H C' cl fp) h5) (fun s H C' cl fp => sndTs ifs (ctx.blk ok.kind s H C' cl fp) h6) (fun s H C' cl fp => sndE elt (ctx.blk ok.kind s H C' cl fp) h7) (set_of h4)) ?_
    funext s h
    rw [own_map]
    rfl
  | .dc kx vx tg it ifs own, X, g, e, ctx, h => by
    unfold chkE at h; split at h <;> first | contradiction | skip
    rename_i q; cases q
    rename_i c scope _
    obtain ⟨ct, ci, cf, ca⟩ := c
    split at h <;> first | contradiction | skip
    rename_i hca
    have hca : ca = 0 := hca
    subst hca
    simp only [Bool.and_eq_true, Bool.not_eq_true'] at h
    obtain ⟨⟨⟨⟨⟨⟨⟨h1, h2⟩, h3⟩, h4⟩, h5⟩, h6⟩, h7⟩, h8⟩ := h
    have ok : BlkOk X.N X.env.scope scope (ownOf g.N own) := by rw [ctx.N, ctx.sc]; exact blkOk_by h1
    refine PE.fn (se_dc (ws := tgSlots tg) ctx.calm ctx.nd (sndI it ctx h3) ok (own_slots h2) (fun s H C' cl fp => sndG tg (ctx.blk ok.kind s H C' cl fp) h5) (fun s H C' cl fp => sndTs ifs (ctx.blk ok.kind s H C' cl fp) h6) (fun s H C' cl fp => sndE kx (ctx.blk ok.kind s H C' cl fp) h7) (fun s H C' cl fp => sndE vx (ctx.blk ok.kind s H C' cl fp) h8) (set_of h4)) ?_
    funext s h
    rw [own_map]
    rfl
  | .isi f e, X, g, ex, ctx, h => by
    unfold chkE at h; split at h <;> first | contradiction | skip
    rename_i q; cases q
    simp only [Bool.and_eq_true, decide_eq_true_eq] at h
    obtain ⟨⟨⟨⟨⟨⟨rfl, rfl⟩, h2⟩, h3⟩, h4⟩, h5⟩, h6⟩ := h
    exact PE.fn (se_isi h2 (ctx.gl h3) (ctx.bi .isList) (ctx.gl h4) (ctx.bi f) (sndE e ctx h6) (star_cons (by rename_i y _ _; cases y <;> first | rfl | (simp [noStar] at h5))).1) (by funext s h; rfl)
  | .lock i e, X, g, ex, ctx, h => by
    unfold chkE at h
    exact PE.fn (se_lock (i := i) (sndE e ctx h)) (by funext s h; rfl)
  | .inv neg a d, X, g, ex, ctx, h => by
    unfold chkE at h; split at h <;> first | contradiction | skip
    rename_i q; cases q
    simp only [Bool.and_eq_true, decide_eq_true_eq] at h
    obtain ⟨⟨⟨⟨⟨rfl, h1⟩, h2⟩, h3⟩, h4⟩, h5⟩ := h
    obtain ⟨ho, rfl⟩ := inv_op h1
    exact PE.fn (se_inv ctx.calm ho (sndE a ctx h4) (sndE d ctx h5) (base_of h3) h2) (by funext s h; rfl)
  | .lrg t es, X, g, ex, ctx, h => by
    unfold chkE at h; split at h <;> first | contradiction | skip
    rename_i q; cases q
    simp only [Bool.and_eq_true, Bool.or_eq_true, decide_eq_true_eq] at h
    obtain ⟨⟨⟨⟨⟨⟨hx, rfl⟩, h1⟩, h1'⟩, h2⟩, h3⟩, h4⟩ := h
    have hm : X.mg (if t = true then ("tuple" : Str) else "list") = none := by
      cases t with
      | true => exact ctx.bi .tuple
      | false => exact ctx.bi .list
    rw [← hx] at hm
    cases es with
    | nil =>
      cases ‹List Expr› with
      | nil => simp at h3
      | cons _ _ => simp [chkEs] at h4
    | cons c r =>
      cases ‹List Expr› with
      | nil => simp [chkEs] at h4
      | cons x xs =>
        have h4' : chkE g c x = true ∧ chkEs g r xs = true := by simpa [chkEs] using h4
        have hx' := sndE c ctx h4'.1
        cases r with
        | nil =>
          cases xs with
          | cons _ _ => simp [chkEs] at h4'
          | nil =>
            refine PE.fn (se_lrg1 ctx.calm hx (ctx.gl h1) hm (ctx.gl h1') ctx.range hx' (star_cons h2).1) ?_
            funext s h
            simp only [evE, evEs, Out.bnd_bnd]
            rfl
        | cons c2 r2 =>
          cases xs with
          | nil => simp [chkEs] at h4'
          | cons y ys =>
            have h5 : chkE g c2 y = true ∧ chkEs g r2 ys = true := by simpa [chkEs] using h4'.2
            have hy := sndE c2 ctx h5.1
            cases ys with
            | cons _ _ => simp at h3
            | nil =>
              cases r2 with
              | cons _ _ => simp [chkEs] at h5
              | nil =>
                have s1 := star_cons (env := X.env) h2
                have s2 := star_cons (env := X.env) s1.2
                refine PE.fn (se_lrg2 ctx.calm hx (ctx.gl h1) hm (ctx.gl h1') ctx.range hx' hy s1.1 s2.1 (by rw [s2.1]; rfl)) ?_
                funext s h
                simp only [evE, evEs, Out.bnd_bnd]
                rfl
theorem sndEs {C : Str → List PV → PH → Out PV} {k : Nat} : ∀ (c : Es) {X : Cx} {g : Sc} {e : List Expr}, Ctx X g C k → noStar e = true → chkEs g c e = true → PA X e (lA X.K (evEs C c))
  | .nil, X, g, e, ctx, hs, h => by
    unfold chkEs at h; split at h <;> first | contradiction | skip
    exact PA.fn sa_nil (by funext s h; rfl)
  | .cons c r, X, g, e, ctx, hs, h => by
    unfold chkEs at h; split at h <;> first | contradiction | skip
    rename_i q; cases q
    simp only [Bool.and_eq_true] at h
    exact PA.fn (sa_cons (sndE c ctx h.1) (sndEs r ctx (star_cons (env := X.env) hs).2 h.2) (star_cons hs).1) (by funext s h; rfl)
theorem sndKw {C : Str → List PV → PH → Out PV} {k : Nat} : ∀ (c : Es) {X : Cx} {g : Sc} {e : List Keyword}, Ctx X g C k → chkKw g c e = true → PK X e (lA X.K (evEs C c))
  | .nil, X, g, [], ctx, h => by
    have e0 : evEs C .nil = fun s h => .ok [] h := by funext s h; unfold evEs; rfl
    rw [e0]; exact sk_nil
  | .nil, X, g, _ :: _, ctx, h => by simp [chkKw] at h
  | .cons c r, X, g, [], ctx, h => by simp [chkKw] at h
  | .cons c r, X, g, ⟨n, x, p⟩ :: t, ctx, h => by
    simp only [chkKw, Bool.and_eq_true] at h
    have e0 : evEs C (.cons c r) = fun s h => (evE C c s h).bnd fun x h => (evEs C r s h).bnd fun xs h => .ok (x :: xs) h := by funext s h; conv => lhs; unfold evEs
    rw [e0]
    exact sk_cons (sndE c ctx h.1) (sndKw r ctx h.2)
theorem sndKs {C : Str → List PV → PH → Out PV} {k : Nat} : ∀ (c : Ks) {X : Cx} {g : Sc} {ks : List (Option Expr)} {vs : List Expr}, Ctx X g C k → chkKs g c ks vs = true → (∀ pos, DispOk X pos ks vs (evD C c)) ∧ ks.all (·.isSome) = true ∧ ks.length = vs.length
  | .nil, X, g, ks, vs, ctx, h => by
    unfold chkKs at h; split at h <;> first | contradiction | skip
    exact ⟨fun pos => disp_nil, rfl, rfl⟩
  | .cons a b r, X, g, ks, vs, ctx, h => by
    unfold chkKs at h; split at h <;> first | contradiction | skip
    rename_i q; cases q
    simp only [Bool.and_eq_true] at h
    obtain ⟨d1, d2, d3⟩ := sndKs r ctx h.2
    exact ⟨fun pos => disp_cons (sndE a ctx h.1.1) (sndE b ctx h.1.2) (d1 pos), by simpa using d2, by simp [d3]⟩
theorem sndT {C : Str → List PV → PH → Out PV} {k : Nat} : ∀ (c : T) {X : Cx} {g : Sc} {e : Expr}, Ctx X g C k → chkT g c e = true → PT X e (lB X.K (evT C c))
  | .e c, X, g, e, ctx, h => by
    unfold chkT at h
    simp only [Bool.and_eq_true] at h
    exact PT.fn (st_plain (sndE c ctx h.2) (plainT_of h.1)) (by funext s h; rfl)
  | .and a b, X, g, e, ctx, h => by
    unfold chkT at h; split at h <;> first | contradiction | skip
    rename_i q; cases q
    simp only [Bool.and_eq_true] at h
    obtain ⟨h1, h2⟩ := h
    refine PT.fn (PW.pt (sw_and (sndT a ctx h1) (gb := evT C b) ?_)) (by funext s h; rfl)
    split at h2
    · exact pw_and1 (sndT b ctx h2)
    · exact sndW .And b ctx h2
  | .or a b, X, g, e, ctx, h => by
    unfold chkT at h; split at h <;> first | contradiction | skip
    rename_i q; cases q
    simp only [Bool.and_eq_true] at h
    obtain ⟨h1, h2⟩ := h
    refine PT.fn (PW.pt (sw_or (sndT a ctx h1) (gb := evT C b) ?_)) (by funext s h; rfl)
    split at h2
    · exact pw_or1 (sndT b ctx h2)
    · exact sndW .Or b ctx h2
  | .not a, X, g, e, ctx, h => by
    unfold chkT at h; split at h <;> first | contradiction | skip
    rename_i q; cases q
    exact PT.fn (st_not (sndT a ctx h)) (by funext s h; rfl)
  | .ite c a b, X, g, e, ctx, h => by
    simp [chkT] at h
  | .cmp op a b, X, g, e, ctx, h => by
    unfold chkT at h; split at h <;> first | contradiction | skip
    rename_i q; cases q
    simp only [Bool.and_eq_true, decide_eq_true_eq, Bool.not_eq_true'] at h
    obtain ⟨⟨⟨rfl, h1⟩, h2⟩, h3⟩ := h
    exact PT.fn (st_cmp ctx.hu (sndE a ctx h1) (sndE b ctx h2) h3) (by funext s h; rfl)
  | .cmp2 op op' a b c, X, g, e, ctx, h => by
    unfold chkT at h; split at h <;> first | contradiction | skip
    rename_i q; cases q
    simp only [Bool.and_eq_true, decide_eq_true_eq, Bool.not_eq_true'] at h
    obtain ⟨⟨⟨⟨⟨rfl, rfl⟩, h1⟩, h2⟩, h3⟩, h4⟩ := h
    exact PT.fn (st_cmp2 ctx.hu (sndE a ctx h1) (sndE b ctx h2) (sndE c ctx h3) h4) (by funext s h; rfl)
  | .inv neg a d, X, g, e, ctx, h => by
    unfold chkT at h; split at h <;> first | contradiction | skip
    rename_i q; cases q
    simp only [Bool.and_eq_true, decide_eq_true_eq] at h
    obtain ⟨⟨⟨⟨⟨rfl, h1⟩, h2⟩, h3⟩, h4⟩, h5⟩ := h
    obtain ⟨ho, rfl⟩ := inv_op h1
    exact PT.fn (st_inv ctx.calm ho (sndE a ctx h4) (sndE d ctx h5) (base_of h3) h2) (by funext s h; rfl)
/-- .. of a chain of and, or, that goes on -/
theorem sndW {C : Str → List PV → PH → Out PV} {k : Nat} (op : BoolOp) : ∀ (c : T) {X : Cx} {g : Sc} {x : Expr} {r : List Expr} {pos : Pos}, Ctx X g C k → chkT g c (.BoolOp op (x :: r) pos) = true → PW X (.BoolOp op (x :: r) pos) (lB X.K (evT C c))
  | .e c, X, g, x, r, pos, ctx, h => by
    simp [chkT, plainT] at h
  | .and a b, X, g, x, r, pos, ctx, h => by
    unfold chkT at h; split at h <;> first | contradiction | skip
    rename_i q q'
    cases q
    cases q'
    simp only [Bool.and_eq_true] at h
    obtain ⟨h1, h2⟩ := h
    refine PW.fn (sw_and (sndT a ctx h1) (gb := evT C b) ?_) (by funext s h; rfl)
    split at h2
    · exact pw_and1 (sndT b ctx h2)
    · exact sndW .And b ctx h2
  | .or a b, X, g, x, r, pos, ctx, h => by
    unfold chkT at h; split at h <;> first | contradiction | skip
    rename_i q q'
    cases q
    cases q'
    simp only [Bool.and_eq_true] at h
    obtain ⟨h1, h2⟩ := h
    refine PW.fn (sw_or (sndT a ctx h1) (gb := evT C b) ?_) (by funext s h; rfl)
    split at h2
    · exact pw_or1 (sndT b ctx h2)
    · exact sndW .Or b ctx h2
  | .not a, X, g, x, r, pos, ctx, h => by simp [chkT] at h
  | .ite c a b, X, g, x, r, pos, ctx, h => by simp [chkT] at h
  | .cmp op a b, X, g, x, r, pos, ctx, h => by simp [chkT] at h
  | .cmp2 op op' a b c, X, g, x, r, pos, ctx, h => by simp [chkT] at h
  | .inv neg a d, X, g, x, r, pos, ctx, h => by simp [chkT] at h
theorem sndTs {C : Str → List PV → PH → Out PV} {k : Nat} : ∀ (c : Ts) {X : Cx} {g : Sc} {e : List Expr}, Ctx X g C k → chkTs g c e = true → PTs X e (lB X.K (evTs C c))
  | .nil, X, g, e, ctx, h => by
    unfold chkTs at h; split at h <;> first | contradiction | skip
    exact ⟨fun pins s σ H Q I ⟨ρ, s', h', S, R, po⟩ => pts_nil.run pins s σ H Q I (po ρ H .refl S)⟩
  | .cons t r, X, g, e, ctx, h => by
    unfold chkTs at h; split at h <;> first | contradiction | skip
    rename_i q; cases q
    simp only [Bool.and_eq_true] at h
    obtain ⟨h1, h2⟩ := h
    split at h2 <;> first | contradiction | skip
    refine pts_one (PT.fn (sndT t ctx h1) ?_)
    funext s h
    simp only [evTs]
    cases evT C t s h with
    | ok b h' => cases b <;> rfl
    | exc _ _ => rfl
    | bad => rfl
theorem sndP {C : Str → List PV → PH → Out PV} {k : Nat} : ∀ (c : Pt) {X : Cx} {g : Sc} {e : Option Expr}, Ctx X g C k → chkP g c e = true → L2.PO X e (lP X.K (evP C c))
  | .none, X, g, e, ctx, h => by
    unfold chkP at h; split at h <;> first | contradiction | skip
    exact sp_none
  | .some c, X, g, e, ctx, h => by
    unfold chkP at h; split at h <;> first | contradiction | skip
    rename_i q; cases q
    exact sp_some (sndE c ctx h)
theorem sndI {C : Str → List PV → PH → Out PV} {k : Nat} : ∀ (c : It) {X : Cx} {g : Sc} {tg e : Expr}, Ctx X g C k → chkI g c e = true → PI X tg e (lI X.K (evI C c))
  | .ex c, X, g, tg, e, ctx, h => by
    unfold chkI at h
    exact PI.fn (si_ex (sndE c ctx h)) (by funext s h; rfl)
  | .rng es, X, g, tg, e, ctx, h => by
    unfold chkI at h; split at h <;> first | contradiction | skip
    rename_i q; cases q
    simp only [Bool.and_eq_true, Bool.or_eq_true, decide_eq_true_eq] at h
    obtain ⟨⟨⟨⟨rfl, h1⟩, h2⟩, h3⟩, h4⟩ := h
    cases es with
    | nil =>
      cases ‹List Expr› with
      | nil => simp at h3
      | cons _ _ => simp [chkEs] at h4
    | cons c r =>
      cases ‹List Expr› with
      | nil => simp [chkEs] at h4
      | cons x xs =>
        have h4' : chkE g c x = true ∧ chkEs g r xs = true := by simpa [chkEs] using h4
        have hx := sndE c ctx h4'.1
        cases r with
        | nil =>
          cases xs with
          | cons _ _ => simp [chkEs] at h4'
          | nil =>
            refine PI.fn (si_rng1 (ctx.gl h1) ctx.range hx (star_cons h2).1) ?_
            funext s h
            simp only [evI, evEs, Out.bnd_bnd]
            cases evE C c s h with
            | ok v h' => cases v <;> rfl
            | exc _ _ => rfl
            | bad => rfl
        | cons c2 r2 =>
          cases xs with
          | nil => simp [chkEs] at h4'
          | cons y ys =>
            have h5 : chkE g c2 y = true ∧ chkEs g r2 ys = true := by simpa [chkEs] using h4'.2
            have hy := sndE c2 ctx h5.1
            cases ys with
            | cons _ _ => simp at h3
            | nil =>
              cases r2 with
              | cons _ _ => simp [chkEs] at h5
              | nil =>
                have s1 := star_cons (env := X.env) h2
                have s2 := star_cons (env := X.env) s1.2
                refine PI.fn (si_rng2 (ctx.gl h1) ctx.range hx hy (by rw [s1.1, s2.1]; rfl) (by rw [s2.1]; rfl)) ?_
                funext s h
                simp only [evI, evEs, Out.bnd_bnd]
                cases evE C c s h with
                | ok v h' =>
                  simp only [Out.bnd]
                  cases evE C c2 s h' with
                  | ok w h2 => cases v <;> cases w <;> rfl
                  | exc _ _ => rfl
                  | bad => rfl
                | exc _ _ => rfl
                | bad => rfl
  | .enu c, X, g, tg, e, ctx, h => by simp [chkI] at h
  | .rev c, X, g, tg, e, ctx, h => by
    unfold chkI at h; split at h <;> first | contradiction | skip
    rename_i q; cases q
    simp only [Bool.and_eq_true, decide_eq_true_eq] at h
    obtain ⟨⟨⟨rfl, h1⟩, h2⟩, h3⟩ := h
    exact PI.fn (si_rev (ctx.gl h1) (ctx.bi .isTuple) (sndE c ctx h3) (star_cons h2).1) (by funext s h; rfl)
  | .keys c, X, g, tg, e, ctx, h => by
    unfold chkI at h
    exact PI.fn (si_keys (sndE c ctx h)) (by funext s h; rfl)
  | .vals c, X, g, tg, e, ctx, h => by simp [chkI] at h
  | .items c, X, g, tg, e, ctx, h => by simp [chkI] at h
theorem sndG {C : Str → List PV → PH → Out PV} {k : Nat} : ∀ (c : Tg) {X : Cx} {g : Sc} {e : Expr}, Ctx X g C k → chkG g c e = true → PG X e (lT X.K (tgSlots c) (evG C c))
  | .nm i, X, g, e, ctx, h => by
    unfold chkG at h; split at h <;> first | contradiction | skip
    rename_i q; cases q
    have n := ctx.name h
    exact PG.fn (sg_nm ctx.nd n.ix n.loc n.fn) (by funext v s h; rfl)
  | .tup is, X, g, e, ctx, h => by
    unfold chkG at h; split at h <;> first | contradiction | skip
    rename_i q; cases q
    obtain ⟨xs, rfl, n⟩ := names_of ctx h
    exact PG.fn (sg_tup ctx.calm ctx.nd n) (by funext v s h; rfl)
  | .sub o i, X, g, e, ctx, h => by
    unfold chkG at h; split at h <;> first | contradiction | skip
    rename_i q; cases q
    simp only [Bool.and_eq_true, Bool.not_eq_true'] at h
    refine PG.fn (sg_sub ctx.hu (sndE o ctx h.1.1) (sndE i ctx h.1.2) ?_) (by funext v s h; rfl)
    intro v
    rename_i y _
    cases y <;> first | rfl | (simp [isSlice] at h)
  | .fld o f, X, g, e, ctx, h => by simp [chkG] at h
end
end MP

set_option Elab.async false
set_option linter.all false
set_option maxRecDepth 100000
set_option maxHeartbeats 4000000
namespace MP
open PySem PySem.Spec PyProof.Rows L2

theorem swapped_none {tg v : Expr} {env : Env} (h : twoTuples tg v = false) : swappedStores [tg] v env = pure none := by
  unfold swappedStores
  cases tg <;> cases v <;> first | rfl | (simp [twoTuples] at h)
theorem tgt_one {tg : Expr} {env : Env} {X : Cx} {g : Sc} {C : Str → List PV → PH → Out PV} {k : Nat} {t : Tg} (ctx : Ctx X g C k) (h : chkG g t tg = true) : (assignEach [tg] env).map (·.2) = [assign tg env] := by
  cases tg <;> first | rfl | (cases t <;> simp [chkG] at h)
theorem blockKind_fn {env : Env} (h : env.scope.kind = .function) : env.blockKind = .function := by
  unfold Env.blockKind; rw [h]; rfl
theorem atOnce_false {X : Cx} {g : Sc} {C : Str → List PV → PH → Out PV} {k : Nat} {tg v : Expr} {l : Nat} (ctx : Ctx X g C k) (h : atOnce g.sc v tg = false) : swapsWith v (some tg) l X.env = pure false := by
  have hb := blockKind_fn ctx.kind
  have key : ∀ (t : Str) (q p : Pos) (s : Scope), (isLocal g.sc t && (q.line == p.line) && !(s.names.any fun (n, k) => n == t && (k == .local || k == .cell))) = false →
      (X.env.blockKind == .function && X.env.kindOf t == some .local && q.line == p.line && !(s.names.any fun (n, k) => n == t && (k == .local || k == .cell))) = false := fun t q p s e => by
    have : (X.env.kindOf t == some .local) = isLocal g.sc t := by
      unfold Env.kindOf isLocal
      rw [ctx.sc]
      cases g.sc.names.lookup t with
      | none => rfl
      | some k => cases k <;> rfl
    rw [hb, this]
    simpa using e
  cases hc : isComp v with
  | false => exact swaps_none hc
  | true =>
    cases v <;> simp [isComp] at hc
    all_goals
      cases tg <;> first | rfl | skip
      simp only [atOnce] at h
      unfold swapsWith
      exact congrArg pure (key _ _ _ _ h)
theorem atOnce_true {X : Cx} {g : Sc} {C : Str → List PV → PH → Out PV} {k : Nat} {elt : Expr} {gs : List Comprehension} {scope : Scope} {pos py : Pos} {y : Str} {l : Nat} (ctx : Ctx X g C k) (h : atOnce g.sc (.ListComp elt gs scope pos) (.Name y py) = true) :
    X.env.scope.names.lookup y = some .local ∧ swapsWith (.ListComp elt gs scope pos) (some (.Name y py)) l X.env = pure true := by
  simp only [atOnce, Bool.and_eq_true, Bool.not_eq_true'] at h
  have h1 : X.env.scope.names.lookup y = some .local := by rw [ctx.sc]; exact isLocal_of h.1.1
  exact ⟨h1, sw_true ctx.kind h1 h.1.2 h.2⟩

mutual
theorem sndS {C : Str → List PV → PH → Out PV} {k : Nat} : ∀ (c : S) {X : Cx} {g : Sc} {e : Stmt}, Ctx X g C k → chkS g c e = true → PS X e (lS X.K (evS C c))
  | .pass, X, g, e, ctx, h => by
    unfold chkS at h; split at h <;> first | contradiction | skip
    exact PS.fn ss_pass (by funext s h; rfl)
  | .brk, X, g, e, ctx, h => by
    unfold chkS at h; split at h <;> first | contradiction | skip
    exact PS.fn ss_brk (by funext s h; rfl)
  | .cont, X, g, e, ctx, h => by
    unfold chkS at h; split at h <;> first | contradiction | skip
    exact PS.fn ss_cont (by funext s h; rfl)
  | .retN, X, g, e, ctx, h => by
    unfold chkS at h; split at h <;> first | contradiction | skip
    exact PS.fn ss_retN (by funext s h; rfl)
  | .ret c, X, g, e, ctx, h => by
    unfold chkS at h; split at h <;> first | contradiction | skip
    rename_i q; cases q
    exact PS.fn (ss_ret (sndE c ctx h)) (by funext s h; rfl)
  | .ex c, X, g, e, ctx, h => by
    unfold chkS at h; split at h <;> first | contradiction | skip
    rename_i q; cases q
    simp only [Bool.and_eq_true, Bool.not_eq_true'] at h
    exact PS.fn (ss_ex (sndE c ctx h.1) (swaps_none h.2)) (by funext s h; rfl)
  | .asg t c, X, g, e, ctx, h => by
    unfold chkS at h; split at h <;> first | contradiction | skip
    rename_i q; cases q
    simp only [Bool.and_eq_true, Bool.not_eq_true'] at h
    obtain ⟨⟨⟨h1, h2⟩, h3⟩, h4⟩ := h
    split at h4
    · rename_i h5
      exact PS.fn (ss_asg (sndE c ctx h2) (sndG t ctx h1) (atOnce_false ctx h5) (swapped_none h3) (tgt_one ctx h1)) (by funext s h; rfl)
    · rename_i h5
      cases c with
      | lc elt tg it ifs own =>
        unfold chkE at h2; split at h2 <;> first | contradiction | skip
        rename_i q; cases q
        rename_i cc scope _
        obtain ⟨ct, ci, cf, ca⟩ := cc
        split at h2 <;> first | contradiction | skip
        rename_i hca
        have hca : ca = 0 := hca
        subst hca
        simp only [Bool.and_eq_true, Bool.not_eq_true'] at h2
        obtain ⟨⟨⟨⟨⟨⟨k1, k2⟩, k3⟩, k4⟩, k5⟩, k6⟩, k7⟩ := h2
        have ok : BlkOk X.N X.env.scope scope (ownOf g.N own) := by rw [ctx.N, ctx.sc]; exact blkOk_by k1
        rename_i tgx _ _ _ _ _ _ _
        cases tgx <;> first | (simp [atOnce] at h5; done) | skip
        rename_i y py
        cases t <;> first | (simp [chkG] at h1; done) | skip
        rename_i i
        have n := ctx.name (by simpa [chkG] using h1)
        obtain ⟨a1, a2⟩ := atOnce_true ctx h5
        refine PS.fn (ss_setLc (ws := tgSlots tg) ctx.calm ctx.nd n.ix a1 a2 (sndI it ctx k3) ok (own_slots k2) (fun s H C' cl fp => sndG tg (ctx.blk ok.kind s H C' cl fp) k5) (fun s H C' cl fp => sndTs ifs (ctx.blk ok.kind s H C' cl fp) k6) (fun s H C' cl fp => sndE elt (ctx.blk ok.kind s H C' cl fp) k7) (set_of k4)) ?_
        funext s h
        rw [own_map]
        rfl
      | _ => simp [isLc] at h4
  | .par i j a b, X, g, e, ctx, h => by simp [chkS] at h
  | .aug i op c, X, g, e, ctx, h => by
    unfold chkS at h; split at h <;> first | contradiction | skip
    rename_i q; cases q
    simp only [Bool.and_eq_true, decide_eq_true_eq] at h
    obtain ⟨⟨⟨rfl, h1⟩, h2⟩, h3⟩ := h
    have n := ctx.name h2
    refine PS.fn (ss_aug ?_ ctx.nd n.ix n.loc n.fn (sndE c ctx h3)) (by funext s h; rfl)
    cases op <;> simp [opOk] at h1 <;> simp
  | .augF c o f op v, X, g, e, ctx, h => by
    unfold chkS at h; split at h <;> first | contradiction | skip
    rename_i q; cases q
    simp only [Bool.and_eq_true, decide_eq_true_eq] at h
    obtain ⟨⟨⟨⟨⟨⟨rfl, h1⟩, rfl⟩, h2⟩, h3⟩, h4⟩, h5⟩ := h
    refine PS.fn (ss_augF ?_ (sndE o ctx h4) (sndE v ctx h5) (ctx.cls _ h2) (ctx.noat _ _ h3)) (by funext s h; rfl)
    cases op <;> simp [opOk] at h1 <;> simp
  | .sfld c o f v, X, g, e, ctx, h => by
    unfold chkS at h; split at h <;> first | contradiction | skip
    rename_i q; cases q
    simp only [Bool.and_eq_true, decide_eq_true_eq] at h
    obtain ⟨⟨⟨⟨rfl, h2⟩, h3⟩, h4⟩, h5⟩ := h
    exact PS.fn (ss_sfld (sndE o ctx h4) (sndE v ctx h5) (ctx.cls _ h2) (ctx.noat _ _ h3) swaps_attr) (by funext s h; rfl)
  | .augS o i op c, X, g, e, ctx, h => by simp [chkS] at h
  | .ite c a b, X, g, e, ctx, h => by
    unfold chkS at h; split at h <;> first | contradiction | skip
    rename_i q; cases q
    simp only [Bool.and_eq_true] at h
    exact PS.fn (ss_if (sndT c ctx h.1.1) (sndSs a ctx h.1.2) (sndSs b ctx h.2)) (by funext s h; rfl)
  | .whl c b, X, g, e, ctx, h => by
    unfold chkS at h; split at h <;> first | contradiction | skip
    rename_i q; cases q
    simp only [Bool.and_eq_true] at h
    exact PS.fn (ss_whl ctx.xe (sndT c ctx h.1) (sndSs b ctx h.2) big) (by funext s h; rfl)
  | .frr t it b, X, g, e, ctx, h => by
    unfold chkS at h; split at h <;> first | contradiction | skip
    rename_i q; cases q
    simp only [Bool.and_eq_true, Bool.not_eq_true'] at h
    obtain ⟨⟨⟨h1, h2⟩, h3⟩, h4⟩ := h
    exact PS.fn (ss_for ctx.xe ctx.calm (sndI it ctx h2) (sndG t ctx h1) (sndSs b ctx h4) (set_of h3)) (by funext s h; rfl)
  | .never, X, g, e, ctx, h => PS.fn ss_never (by funext s h; rfl)
  | .lk c st, X, g, e, ctx, h => by
    unfold chkS at h
    exact PS.fn (ss_lk (C := evE C c) (sndS st ctx h)) (by funext s h; rfl)
theorem sndSs {C : Str → List PV → PH → Out PV} {k : Nat} : ∀ (c : Ss) {X : Cx} {g : Sc} {e : List Stmt}, Ctx X g C k → chkSs g c e = true → PSs X e (lS X.K (evSs C c))
  | .nil, X, g, e, ctx, h => by
    unfold chkSs at h; split at h <;> first | contradiction | skip
    exact PSs.fn sss_nil (by funext s h; rfl)
  | .cons c r, X, g, e, ctx, h => by
    unfold chkSs at h; split at h <;> first | contradiction | skip
    rename_i q; cases q
    simp only [Bool.and_eq_true] at h
    refine PSs.fn (sss_cons (sndS c ctx h.1) (sndSs r ctx h.2)) ?_
    funext s h
    simp only [evSs]
    all_goals (cases evS C c s h <;> rfl)
end

/-! ### generators' bodies -/
theorem PS.nox' {X : Cx} {st : Stmt} {t : TS} (h : PS X.nox st t) : PS X st t :=
  ⟨fun pins s σ H D I hw => wpAny_mono (h.run pins s σ H D (Inv.wish I fun _ _ => False) hw) (fun _ _ q => SP.unwish q) fun _ _ z => False.elim z⟩
mutual
theorem sndY {C : Str → List PV → PH → Out PV} {k : Nat} : ∀ (c : Y) {X : Cx} {g : Sc} {e : Stmt}, Ctx X.nox g C k → PassesOwn (model X.prog X.w) X.A X.env X.xe → X.env.scope.isCoroutine = false → interactive X.env = false → chkY g c e = true → GS X e (lY X.K (evY C c))
  | .pl st, X, g, e, ctx, hp, h1, h2, h => by
    unfold chkY at h
    exact GS.fn (gy_pl (PS.nox' (sndS st ctx h))) (by funext ys s h; unfold plY evY; rfl)
  | .yld c, X, g, e, ctx, hp, h1, h2, h => by
    unfold chkY at h; split at h <;> first | contradiction | skip
    rename_i q; cases q
    exact GS.fn (gy_yld (PE.nox (sndE c ctx h)) h1 h2) (by funext ys s h; unfold yldY evY; rfl)
  | .whl c b, X, g, e, ctx, hp, h1, h2, h => by
    unfold chkY at h; split at h <;> first | contradiction | skip
    rename_i q; cases q
    simp only [Bool.and_eq_true] at h
    exact GS.fn (gy_whl hp (PT.nox (sndT c ctx h.1)) (sndYs b ctx hp h1 h2 h.2) big) (by funext ys s h; unfold evY; rfl)
theorem sndYs {C : Str → List PV → PH → Out PV} {k : Nat} : ∀ (c : Ys) {X : Cx} {g : Sc} {e : List Stmt}, Ctx X.nox g C k → PassesOwn (model X.prog X.w) X.A X.env X.xe → X.env.scope.isCoroutine = false → interactive X.env = false → chkYs g c e = true → GSs X e (lY X.K (evYs C c))
  | .nil, X, g, e, ctx, hp, h1, h2, h => by
    unfold chkYs at h; split at h <;> first | contradiction | skip
    exact GSs.fn gys_nil (by funext ys s h; unfold evYs; rfl)
  | .cons c r, X, g, e, ctx, hp, h1, h2, h => by
    unfold chkYs at h; split at h <;> first | contradiction | skip
    rename_i q; cases q
    simp only [Bool.and_eq_true] at h
    exact GSs.fn (gys_cons (sndY c ctx hp h1 h2 h.1) (sndYs r ctx hp h1 h2 h.2)) (by
      funext ys s h
      conv => lhs; unfold evYs
      unfold consY
      rfl)
end
/-! ### defs -/
/-- the def f of the table stands behind the top, and its text is mine -/
structure DefIs (K : Fg) (mg : Str → Option Value) (kf : KF) (f : Str) (d : Df) (name qual : Str) (st : Stmt) (fa : Addr) (fd : FuncData) (N ps : List Str) : Prop where
  fn : FunD K name qual (defArgs st) (defBody st) (defScope st) [] [] fa fd
  at_ : LocOk K mg (kf.loc f) f fa
  bd : kf.kws f = [] → Binds K fd ps []
  kb : kf.kws f ≠ [] → KBn K fd ps (ps.length - (kf.kws f).length) (kf.kws f) (fun us ws => us ++ ws) (fun us ws => us ++ ws)
  sc : FnScope N ps (defScope st)
  chk : chkSs ⟨N, defScope st, none, kf, false⟩ d.body (defBody st) = true
  np : ps.length = d.np
  ns : N.length = d.ns
/-- the generator's def f of the table -/
structure GenIs (K : Fg) (mg : Str → Option Value) (kf : KF) (f : Str) (d : Df) (b : Ys) (name qual : Str) (st : Stmt) (fa : Addr) (fd : FuncData) (N ps : List Str) : Prop where
  fn : FunD K name qual (defArgs st) (defBody st) (defScope st) [] [] fa fd
  at_ : mg f = some (.ref fa)
  loc : kf.loc f = .gen
  kb : kf.kws f ≠ [] → KBn K fd ps (ps.length - (kf.kws f).length) (kf.kws f) (fun us ws => us ++ ws) (fun us ws => us ++ ws)
  sc : GScope N ps (defScope st)
  chk : chkYs ⟨N, defScope st, none, kf, false⟩ b (defBody st) = true
  np : ps.length = d.np
  ns : N.length = d.ns
def DefAt (K : Fg) (mg : Str → Option Value) (kf : KF) (f : Str) (d : Df) : Prop :=
  (d.gen = none ∧ ∃ name qual st fa fd N ps, DefIs K mg kf f d name qual st fa fd N ps) ∨ ∃ b, d.gen = some b ∧ ∃ name qual st fa fd N ps, GenIs K mg kf f d b name qual st fa fd N ps
/-- the facts of the classes -/
structure KfOk (K : Fg) (mg : Str → Option Value) (kf : KF) : Prop where
  cls : ∀ c, c ∈ kf.cls → Cls K (He.ga K c)
  noat : ∀ c f, (c, f) ∈ kf.noat → NoAttr K (He.ga K c) f
  mkr : ∀ c, c ∈ kf.mkr → (∃ f, Mk K (He.ga K c) f) ∧ mg c = some (.ref (He.ga K c))
/-- the module's names -/
structure ModOk (mg : Str → Option Value) : Prop where
  bi : ∀ f : Bi, mg f.name = none
  range : mg "range" = none
section
variable {P : Program} {w : World} {K : Fg} {mg : Str → Option Value} {base : Heap} {T : Str → Option Df}
theorem RepVs.start {ρ : List Addr} {H : Hp} : ∀ {ps : List PV} {vs : List V} (n : Nat), RepVs K ρ H ps vs → RepSt K ρ H (ps.map some ++ List.replicate n none) (vs.map some ++ List.replicate n none) := by
  intro ps vs n r
  refine ⟨by simp [r.length], fun i v e => ?_⟩
  by_cases lt : i < ps.length
  · rw [List.getElem?_append_left (by simpa using lt), List.getElem?_map] at e
    obtain ⟨p, hp, e⟩ := Option.map_eq_some_iff.mp e
    cases e
    obtain ⟨u, hu, ru⟩ := r.get hp
    refine ⟨u, ?_, ru⟩
    rw [List.getElem?_append_left (by rw [List.length_map, ← r.length]; exact lt), List.getElem?_map, hu]
    rfl
  · rw [List.getElem?_append_right (by simpa using lt), List.getElem?_replicate] at e
    split at e <;> cases e
theorem evCall_len {k : Nat} {f : Str} {d : Df} (e : T f = some d) {xs : List PV} {h : PH} {v : PV} {h' : PH} (q : evCall T k f xs h = .ok v h') : xs.length = d.np := by
  cases k with
  | zero => simp [evCall] at q
  | succ k =>
    simp only [evCall, e] at q
    split at q <;> try (cases q; done)
    rename_i hq
    exact hq.1
theorem inter_fn {env : Env} (h : env.scope.kind = .function) : interactive env = false := by
  unfold interactive
  rw [h]
  rfl
/-- what a def's promise is made of -/
def FnsAt (P : Program) (w : World) (K : Fg) (mg : Str → Option Value) (base : Heap) (T : Str → Option Df) (kf : KF) (k : Nat) : Prop :=
  (∀ f d, T f = some d → d.gen = none → ∀ {name qual st fa fd N ps}, DefIs K mg kf f d name qual st fa fd N ps → FnOk P w K mg base CX0 (4 * k) fa fd ps (spOf K ps.length (evCall T k f))) ∧
  (∀ f d b, T f = some d → d.gen = some b → ∀ {name qual st fa fd N ps}, GenIs K mg kf f d b name qual st fa fd N ps → GFn P w K mg base (4 * k) fa fd ps (spG K ps.length (evCall T k f)))
theorem ctx_of {X : Cx} {N : List Str} {scope : Scope} {kf : KF} {k : Nat} {rp : Bool} (M : ModOk X.mg) (W : KfOk X.K X.mg kf) (D : ∀ f d, T f = some d → DefAt X.K X.mg kf f d) (Z : FnsAt X.prog X.w X.K X.mg X.base T kf k)
    (h1 : X.N = N) (h2 : X.env.scope = scope) (h3 : X.fn = fun _ => true) (h4 : X.calm = true) (h5 : N.Nodup) (h6 : X.xe = fun _ _ => False) (h7 : scope.kind = .function) (hr : Room (4 * k + 3) X.A) (hrp : rp = true → X.A.guards = some []) :
    Ctx X ⟨N, scope, none, kf, rp⟩ (evCall T k) k := by
  subst h1 h2
  refine ⟨rfl, rfl, fun x _ => by rw [h3], h4, h5, h6, h7, hr, M.bi, M.range, fun f => ?_, fun f hf => ?_, W.cls, W.noat, W.mkr, hrp⟩
  · cases e' : T f with
    | none =>
      refine .inr (.inr fun xs h => ?_)
      cases k with
      | zero => rfl
      | succ k => simp only [evCall, e']
    | some d' =>
      rcases D f d' e' with ⟨g0, _, _, _, fa', fd', _, ps', Di'⟩ | ⟨b, g0, _, _, _, _, _, _, _, Gi⟩
      · exact .inr (.inl ⟨fa', fd', ps', Di'.at_, Di'.fn.kp, Di'.bd, Di'.kb, Z.1 f d' e' g0 Di', fun xs h v h' q => by rw [Di'.np]; exact evCall_len e' q⟩)
      · exact .inl Gi.loc
  · cases e' : T f with
    | none =>
      refine .inr fun xs h => ?_
      cases k with
      | zero => rfl
      | succ k => simp only [evCall, e']
    | some d' =>
      rcases D f d' e' with ⟨g0, _, _, _, fa', fd', _, ps', Di'⟩ | ⟨b, g0, _, _, _, fa', fd', _, ps', Gi⟩
      · have q := Di'.at_
        rw [hf] at q
        exact q.elim
      · exact .inl ⟨fa', fd', ps', Gi.at_, Gi.fn.kp, Gi.kb, Z.2 f d' b e' g0 Gi, fun xs h v h' q => by rw [Gi.np]; exact evCall_len e' q⟩
theorem defs_ok {kf : KF} (M : ModOk mg) (W : KfOk K mg kf) (D : ∀ f d, T f = some d → DefAt K mg kf f d) : ∀ (k : Nat), FnsAt P w K mg base T kf k
  | 0 => by
    refine ⟨fun f d e g0 name qual st fa fd N ps Di => ⟨fun vs H Q E h => h.1, fun A outer s H args us vs Q E hr e0 hb r h => ?_⟩, fun f d b e g0 name qual st fa fd N ps Gi => ⟨fun vs H Q E h => h.1, fun A outer s H args us vs Q E hr e0 hb r h => ?_⟩⟩
    · obtain ⟨_, ρ, h, ps, S, r, po⟩ := h
      exact (show False from po).elim
    · obtain ⟨_, ρ, h, ps, S, r, po⟩ := h
      exact (show False from po).elim
  | k + 1 => by
    have ih := defs_ok M W D k
    refine ⟨fun f d e g0 name qual st fa fd N ps Di => ?_, fun f d b e g0 name qual st fa fd N ps Gi => ?_⟩
    · obtain ⟨F, hm, hb, _, S, hc, hp, hn⟩ := Di
      show FnOk P w K mg base CX0 ((4 * k + 3) + 1) fa fd ps _
      refine F.ok S (fun vs H Q E h => h.1) fun cdv A outer s H vs Q E hr h => ?_
      refine ⟨lS K (evSs (evCall T k) d.body), PSs.nox ?_, ?_⟩
      · exact sndSs (k := k) d.body (X := (cxOf CX0 P w K mg base N qual (defScope st) fa cdv A outer s H E).nox) (ctx_of M W D ih rfl rfl rfl rfl S.nd rfl S.kind hr (fun z => by cases z)) hc
      · obtain ⟨hl, ρ, h, qs, S', r, po⟩ := h
        have r' := r.start (N.length - vs.length)
        refine ⟨ρ, _, h, S', r', ?_⟩
        have el : qs.length = d.np := by rw [r.length, hl, hp]
        have po : PostV K ρ H (evCall T (k + 1) f qs h) Q := po
        simp only [evCall, e, g0] at po
        split at po <;> try exact po.elim
        rename_i hq
        rw [show N.length - vs.length = d.ns - d.np by rw [hn, hl, hp]]
        cases eb : evSs (evCall T k) d.body (qs.map some ++ List.replicate (d.ns - d.np) none) h with
        | rt v h' => rw [eb] at po; exact fun ρ' H' V x S r => po ρ' H' x S V r
        | nx s' h' => rw [eb] at po; exact fun ρ' H' σ' x S r => po ρ' H' x S _ .non
        | bk _ _ => rw [eb] at po; exact po.elim
        | ct _ _ => rw [eb] at po; exact po.elim
        | exc _ _ => rw [eb] at po; exact po.elim
        | bad => rw [eb] at po; exact po.elim
    · obtain ⟨F, hm, hloc, _, S, hc, hp, hn⟩ := Gi
      obtain ⟨oc, od, dV, kV, doc, pm, an, cdv, ct, osl, rfl, lk, hcd, _, _⟩ := F.ex
      show GFn P w K mg base ((4 * k + 3) + 1) fa _ ps _
      refine gfn_of lk hcd S (fun vs H Q E h => h.1) fun A outer s H vs Q E pn hr h => ?_
      refine ⟨lY K (evYs (evCall T k) b), ?_, ?_⟩
      · exact sndYs (k := k) b (X := gcxOf P w K mg base N qual (defScope st) fa cdv A outer s H E pn) (ctx_of M W D ih rfl rfl rfl rfl S.nd rfl S.kind hr (fun z => by cases z)) PassesOwn.leaving S.co (inter_fn S.kind) hc
      · obtain ⟨hl, ρ, h, qs, S', r, po⟩ := h
        have r' := r.start (N.length - vs.length)
        refine ⟨ρ, _, h, [], S', r', .nil, ?_⟩
        have el : qs.length = d.np := by rw [r.length, hl, hp]
        have po : PostG K ρ H (evCall T (k + 1) f qs h) (fun v ρ' H' => ∃ ys, v = .tup ys ∧ ∀ us, RepVs K ρ' H' ys us → Q us H') := po
        simp only [evCall, e, g0] at po
        split at po <;> try exact po.elim
        rename_i hq
        rw [show N.length - vs.length = d.ns - d.np by rw [hn, hl, hp]]
        cases eb : evYs (evCall T k) b [] (qs.map some ++ List.replicate (d.ns - d.np) none) h with
        | nx ys s' h' =>
          rw [eb] at po
          intro ρ' H' us σ' x S2 R2 r2
          obtain ⟨ys', e3, q⟩ := po ρ' H' x S2
          cases e3
          exact q us r2
        | bad => rw [eb] at po; exact po.elim
end
end MP

set_option Elab.async false
set_option linter.all false
set_option maxRecDepth 100000
set_option maxHeartbeats 4000000
namespace MP
open PySem PySem.Spec PyProof.Rows L2
/-! ### one call of a def whose surroundings are known -/
theorem fn_run {CX : CXT} {P : Program} {w : World} {K : Fg} {mg : Str → Option Value} {base : Heap} {k : Nat} {f : Addr} {name qual : Str} {params : Arguments} {body : List Stmt} {scope : Scope} {dV kV doc pm cdv ct oc : Value}
    {an od : Option Addr} {osl : Array (Option Value)} {N ps : List Str} {A : Around} {outer : List Env} {s : Shared} {H : Hp} {args : Args} {us : List Value} {vs : List V} {Q : VK} {E : XK}
    (lk : List.lookup f K = some ⟨oc, od, .func (PySem.W.fnOf name qual params body scope dV kV doc pm an cdv ct), osl⟩) (hcd : PySem.W.codeIn K cdv qual = true) (S : FnScope N ps scope) (hl : vs.length = ps.length) (hr : Room (k + 1) A)
    (e0 : Env0 P w K mg base A outer s H) (hb : BindsTo s (PySem.W.fnOf name qual params body scope dV kV doc pm an cdv ct) args (ps.zip us)) (r : Vals vs us)
    (hbody : ∃ t, PSs (cxOf CX P w K mg base N qual scope f cdv A outer s H E) body t ∧ t { nx := fun _ H' => Q .non H', rt := Q } (L2.start N vs) H) :
    codeAny (model P w) A (Code.call (.ref f) args) (CR CX outer P w H s Q E) s := by
  have KX := PySem.W.Frag.In.keeps e0.mod.kin fun b o e => (e0.bs b o e).1
  have lim := Heap.NoLimit.keeps e0.mod.nolimit fun b o e => (e0.bs b o e).1
  have hkind : ∀ x ∈ ps.zip us, scope.names.lookup x.1 = some .local ∨ (scope.names.lookup x.1 = some .cell ∧ (List.lookup x.1 (cellsFrom (s.heap.objs.size + 1) scope.names [])).isSome = true) := by
    intro x hy
    rcases S.par x.1 (List.of_mem_zip hy).1 with q | q
    · exact .inl q
    · exact .inr ⟨q, PySem.W.cellsFrom_some scope.names (s.heap.objs.size + 1) [] (.inl q)⟩
  refine codeAny_call_function (Room.depth hr) (KX f _ lk) rfl S.co S.gen rfl (PySem.W.codeRec_of KX hcd) (hb (model P w) A.in1 _ _ (wpAny_newFunctionEnv_cells S.kind hkind fun env he s1 x => ?_))
  subst he
  refine ⟨Heap.NoLimit.keeps lim x.toInCall.keep, codeAny_func ?_⟩
  obtain ⟨t, ht, hq⟩ := hbody
  have I := inv_start (CX := CX) (E := E) S hr.hd e0 hl r x
  refine wpAny_mono (ht.run [] s1 (L2.start N vs) H _ I hq) (fun fl s' hs => ?_) (fun e s' hs => hs)
  cases fl with
  | next => obtain ⟨σ', H', J, q⟩ := hs; exact ⟨.non, H', J.os, J.bare, J.base, J.hok, rfl, q⟩
  | ret u => obtain ⟨v, σ', H', J, rv, q⟩ := hs; exact ⟨v, H', J.os, J.bare, J.base, J.hok, rv, q⟩
  | _ => obtain ⟨_, _, _, q⟩ := hs; exact q.elim
/-- the call of a law, by what its one run does -/
theorem law_run {P : Program} {w : World} {K : Fg} {mg mb : Str → Option Value} {fa a : Addr} {fd : FuncData} {x : Str} {s₁ : Shared} {vs : List Value} {ns : List Int}
    (KX : K.In s₁.heap) (hns : s₁.heap.Ns mainGlobals mg) (hbn : s₁.heap.Ns builtinsNs mb) (hbb : ∀ x : Str, x ≠ "__name__" → mb x = bootBuiltins x) (hlim : s₁.heap.NoLimit) (hg : s₁.gens = #[])
    (ha : s₁.heap.get? a = some { cls := .type "list", data := .seq vs.toArray }) (hi : IntsAre vs ns) (hl : ns.length ≤ sizeLine) (hbind : ∀ (s : Shared) (u : Value), BindsTo s fd { pos := [u] } [(x, u)])
    (F : ∀ (base : Heap) (H : Hp), Env0 P w K mg base callerA [] s₁ H → Only H → SqL K H a (ns.map V.int) → ∀ us : List Value, Vals [V.ref a] us → BindsTo s₁ fd { pos := [.ref a] } (([x] : List Str).zip us) →
      codeAny (model P w) callerA (Code.call (.ref fa) { pos := [.ref a] }) (CR CX0 [] P w H s₁ (fun v _ => v = .bl true) (fun _ _ _ => False)) s₁) :
    codeAny (model P w) callerA (Code.call (.ref fa) { pos := [.ref a] }) (fun r s' => r = .ok (.ret (.bool true)) ∧ OldK s₁.heap s'.heap ∧ s'.os = s₁.os ∧ AllBare s'.gens) s₁ := by
  have rv := vals_ints hi
  have lenV := IntsAre.length hi
  have core : ∀ H : Hp, Only H → SqL K H a (ns.map V.int) → HOk P w H s₁.heap → (∀ b, H b ≠ none → b = a) → (H a ≠ none → List.lookup a K = none) →
      codeAny (model P w) callerA (Code.call (.ref fa) { pos := [.ref a] }) (fun r s' => r = .ok (.ret (.bool true)) ∧ OldK s₁.heap s'.heap ∧ s'.os = s₁.os ∧ AllBare s'.gens) s₁ := by
    intro H hO hS hok hA hK
    have base_of : ∀ {b : Addr} {o : Obj}, s₁.heap.get? b = some o → H b = none → (hidT s₁.heap H).get? b = some o := fun e n => hidT_get e n
    have free_of : ∀ {b : Addr} {o : Obj}, s₁.heap.get? b = some o → (b = a → False) → H b = none := by
      intro b o e n
      cases q : H b with
      | none => rfl
      | some u => exact (n (hA b (by rw [q]; exact fun z => by cases z))).elim
    have noA : ∀ {b : Addr} {o : Obj} {es ep}, s₁.heap.get? b = some o → o.data = .dict es ep → H b = none := by
      intro b o es ep e d
      refine free_of e fun z => ?_
      subst z
      rw [ha] at e; cases e; cases d
    have nsK : ∀ {b : Addr} {m : Str → Option Value}, s₁.heap.Ns b m → (hidT s₁.heap H).Ns b m := fun x => match x with
      | ⟨o, es, ep, e, d, r⟩ => ⟨o, es, ep, base_of e (noA e d), d, r⟩
    have hKb : ∀ (b : Addr) (o : Obj), List.lookup b K = some o → (hidT s₁.heap H).get? b = some o := by
      intro b o e
      refine base_of (KX b o e) ?_
      cases q : H b with
      | none => rfl
      | some u =>
        have z := hA b (by rw [q]; exact fun z => by cases z)
        subst z
        rw [hK (by rw [q]; exact fun z => by cases z)] at e
        cases e
    have hM : L2.Mod K mg (hidT s₁.heap H) := { kin := hKb, glob := nsK hns, blt := ⟨mb, nsK hbn, hbb⟩, nolimit := match hlim with
      | ⟨mc, h1, h2⟩ => ⟨mc, nsK h1, h2⟩ }
    have e0 : Env0 P w K mg (hidT s₁.heap H) callerA [] s₁ H := { frames := rfl, mod := hM, bs := fun b o e => of_hidT e, bsz := Nat.le_of_eq (hidT_size s₁.heap H), funs := trivial, frf := fun b hb => (by cases hb), hok := hok, bare := AllBare.of_eq hg }
    refine codeAny_mono (F (hidT s₁.heap H) H e0 hO hS [.ref a] (.cons rfl .nil) (hbind s₁ (.ref a))) fun r s' h => ?_
    cases r with
    | error e => exact h.elim
    | ok fl =>
      cases fl with
      | ret u =>
        obtain ⟨v, H', os, bare, un, hok', r', q⟩ := h
        have q : v = .bl true := q
        subst q
        have r' : u = .bool true := r'
        subst r'
        refine ⟨rfl, OldK.of_keep fun b o e => ?_, os, bare⟩
        cases q : H b with
        | none => exact un.keep b o e q (fun z => by cases z) (fun z => by cases z)
        | some u =>
          rcases hO b with z | ⟨ob, xs, z⟩
          · rw [q] at z; cases z
          · have z2 := un.frzs b ob (.lst xs) z
            obtain ⟨e1, _⟩ := hok b _ z
            obtain ⟨e2, _⟩ := hok' b _ z2
            rw [e] at e1; cases e1
            exact e2
      | _ => exact h.elim
  cases hk : List.lookup a K with
  | none =>
    refine core (fun b => if b = a then some (.frz { cls := .type "list", data := .seq vs.toArray } (.lst (ns.map V.int))) else none) (fun b => ?_) (.inl (.inr ⟨_, if_pos rfl⟩)) (fun b u z => ?_) (fun b z => ?_) fun _ => hk
    · by_cases hb : b = a
      · exact .inr ⟨_, _, if_pos hb⟩
      · exact .inl (if_neg hb)
    · by_cases hb : b = a
      · have z' := (if_pos hb).symm.trans z
        cases z'
        subst hb
        exact ⟨ha, by rw [List.length_map]; exact hl, vs, 0, rv, ha⟩
      · have z' := (if_neg hb).symm.trans z
        cases z'
    · by_cases hb : b = a
      · exact hb
      · exact absurd (if_neg hb) z
  | some o =>
    have e := KX a o hk
    rw [ha] at e; cases e
    refine core (fun _ => none) (fun _ => .inl rfl) (.inr ⟨_, vs.toArray, 0, hk, rfl, rfl, rfl, by rw [List.size_toArray, lenV]; exact hl, rv⟩) (fun b u z => by cases z) (fun b z => absurd rfl z) fun z => absurd rfl z
theorem frl_of {K : Fg} {H : Hp} {a : Addr} {xs : List V} (hO : Only H) (h : SqL K H a xs) : FrL K H a xs := by
  rcases h with (h | ⟨o, h⟩) | h
  · rcases hO a with q | ⟨o, ys, q⟩
    · rw [h] at q; cases q
    · rw [h] at q; cases q
  · exact .inl ⟨o, h⟩
  · exact .inr h
/-- where a law's own def stands -/
structure LawIs (K : Fg) (mg : Str → Option Value) (kf : KF) (d : Df) (name qual : Str) (st : Stmt) (fa : Addr) (fd : FuncData) (N : List Str) : Prop where
  fn : FunD K name qual (defArgs st) (defBody st) (defScope st) [] [] fa fd
  at_ : mg "law" = some (.ref fa)
  bd : ∀ (s : Shared) (u : Value), BindsTo s fd ⟨[u], []⟩ [("script", u)]
  sc : FnScope N ["script"] (defScope st)
  chk : chkSs ⟨N, defScope st, none, kf, true⟩ d.body (defBody st) = true
  ns : N.length = d.ns
theorem law_end {l : PySem.W.OpenLaw} {q : Program} {loose : List Str} {XP : (Str → Option Value) → Heap → Prop} {d : DefRec} {T : Str → Option Df} {dl : Df} {k n : Nat} {m : Nat} {fas : List He.Fa} {fns : List He.DefD} {kf : KF}
    (hn : l.most = some n) (hn2 : n ≤ sizeLine) (hdf : d.params.defaults = []) (hr : Room (4 * k + 4) callerA) (hname : d.name = ("law" : Str))
    (defs : ∀ (K : Fg) (mg : Str → Option Value) (h : Heap), K.In h → h.Ns mainGlobals mg → He.SaysD fas fns K → ModOk mg ∧ KfOk K mg kf ∧ (∀ f d, T f = some d → DefAt K mg kf f d) ∧ ∃ name qual st fa fd N, LawIs K mg kf dl name qual st fa fd N)
    (holds : ∀ ns : List Int, ns.length ≤ n → ∃ h, evSs (evCall T k) dl.body (some (.fro (ns.map PV.int)) :: List.replicate (dl.ns - 1) none) [] = .rt (.bl true) h) :
    PySem.W.WalkO q loose XP (He.hookD m fas fns).says l.row.toRowW d [] (fun f vs => PySem.call f vs) := by
  refine Att.attach_call hn hdf fun w s₀ s₁ mg mb fa o pm cd doc a vs ns G Y ho hd hcd hmg hobj hints hlen hg => ?_
  obtain ⟨K, KX, c⟩ := Y
  obtain ⟨M, W, D, name, qual, st, fa', fd, N, Li⟩ := defs K mg s₁.heap KX G.T.g c
  have e : fa' = fa := by
    rw [hname, Li.at_] at hmg
    injection hmg with e1
    injection e1
  subst e
  obtain ⟨F, _, hb, S, chk, hN⟩ := Li
  refine law_run KX G.T.g G.T.b G.T.builtins G.T.nolimit hg hobj hints (Nat.le_trans hlen hn2) hb fun base H e0 hO hS us rus hbi => ?_
  obtain ⟨oc, od, dV, kV, doc', pm', an, cdv, ct, osl, rfl, lk, hcd', _, _⟩ := F.ex
  have hr' : Room ((4 * k + 3) + 1) callerA := hr
  refine fn_run (CX := CX0) (k := 4 * k + 3) lk hcd' S rfl hr' e0 hbi rus ⟨lS K (evSs (evCall T k) dl.body), PSs.nox (sndSs (k := k) dl.body (X := (cxOf CX0 l.prog w K mg base N qual (defScope st) fa' cdv callerA [] s₁ H (fun _ _ _ => False)).nox) (ctx_of M W D (defs_ok M W D k) rfl rfl rfl rfl S.nd rfl S.kind (Room.deeper hr' _) (fun _ => rfl)) chk), ?_⟩
  · obtain ⟨h', e⟩ := holds ns hlen
    have rf : RepVs K [] H [.fro (ns.map PV.int)] [.ref a] := .cons (.fro (frl_of hO hS) (RepVs.ofInts ns)) .nil
    have rs := rf.start (N.length - 1)
    refine ⟨[], _, [], ⟨rfl, List.nodup_nil, fun l o a e _ => by simp at e⟩, rs, ?_⟩
    rw [hN]
    have e : evSs (evCall T k) dl.body ([PV.fro (ns.map PV.int)].map some ++ List.replicate (dl.ns - 1) none) [] = .rt (.bl true) h' := e
    rw [e]
    exact fun ρ' H' V x S rV => by cases rV; rfl
end MP

set_option Elab.async false
set_option linter.all false
set_option maxRecDepth 100000
namespace MP
open PySem
open Out (ok bad)
/-! ### steps of the evaluator, one after the other -/
def SO.seq (o : SO) (f : PSt → PH → SO) : SO :=
  match o with
  | .nx s h => f s h
  | o => o
theorem bnd_ok {α β : Type} {v : α} {h : PH} {f : α → PH → Out β} : (Out.ok v h).bnd f = f v h := rfl
theorem sbnd_ok {α : Type} {v : α} {h : PH} {f : α → PH → SO} : (Out.ok v h).sbnd f = f v h := rfl
theorem seq_nx {s : PSt} {h : PH} {f : PSt → PH → SO} : (SO.nx s h).seq f = f s h := rfl
theorem seq_rt {v : PV} {h : PH} {f : PSt → PH → SO} : (SO.rt v h).seq f = .rt v h := rfl
theorem seq_bk {s : PSt} {h : PH} {f : PSt → PH → SO} : (SO.bk s h).seq f = .bk s h := rfl
theorem seq_ct {s : PSt} {h : PH} {f : PSt → PH → SO} : (SO.ct s h).seq f = .ct s h := rfl
section
variable {C : Str → List PV → PH → Out PV}
theorem ss_cons {a : S} {r : Ss} {s : PSt} {h : PH} : evSs C (.cons a r) s h = (evS C a s h).seq (evSs C r) := by
  unfold evSs SO.seq
  rfl
theorem ss_nil {s : PSt} {h : PH} : evSs C .nil s h = .nx s h := by unfold evSs; rfl
end
section
variable {C : Str → List PV → PH → Out PV}
/-- a branch -/
def iteC (C : Str → List PV → PH → Out PV) (a b : Ss) (s : PSt) (k : Bool) (h : PH) : SO := if k = true then evSs C a s h else evSs C b s h
theorem iteC_t {a b : Ss} {s : PSt} {h : PH} : iteC C a b s true h = evSs C a s h := rfl
theorem iteC_f {a b : Ss} {s : PSt} {h : PH} : iteC C a b s false h = evSs C b s h := rfl
theorem iteC_d {a b : Ss} {s : PSt} {h : PH} {p : Prop} [Decidable p] : iteC C a b s (decide p) h = if p then evSs C a s h else evSs C b s h := by unfold iteC; by_cases q : p <;> simp [q]
theorem s_ite {c : T} {a b : Ss} {s : PSt} {h : PH} : evS C (.ite c a b) s h = (evT C c s h).sbnd (iteC C a b s) := by unfold evS; rfl
theorem s_asg {t : Tg} {e : E} {s : PSt} {h : PH} : evS C (.asg t e) s h = (evE C e s h).sbnd fun v h => (evG C t v s h).sbnd SO.nx := by unfold evS; rfl
theorem s_ret {e : E} {s : PSt} {h : PH} : evS C (.ret e) s h = (evE C e s h).sbnd SO.rt := by unfold evS; rfl
theorem s_ex {e : E} {s : PSt} {h : PH} : evS C (.ex e) s h = (evE C e s h).sbnd fun _ h => .nx s h := by unfold evS; rfl
/-- a while -/
def whlC (C : Str → List PV → PH → Out PV) (c : T) (b : Ss) (s : PSt) (h : PH) : SO := whl (evT C c) (evSs C b) big s h
theorem s_whl {c : T} {b : Ss} {s : PSt} {h : PH} : evS C (.whl c b) s h = whlC C c b s h := by unfold evS; rfl
/-- a for -/
def forC (C : Str → List PV → PH → Out PV) (t : Tg) (b : Ss) (s : PSt) (r : Itr) (h : PH) : SO := forI (evG C t) (evSs C b) r r.fuel 0 s h
theorem s_for {t : Tg} {it : It} {b : Ss} {s : PSt} {h : PH} : evS C (.frr t it b) s h = (evI C it s h).sbnd (forC C t b s) := by unfold evS; rfl
end
section
variable {C : Str → List PV → PH → Out PV} {s : PSt} {h : PH} {c f : Str} {o e : E}
theorem s_sfld : evS C (.sfld c o f e) s h = (evE C e s h).sbnd fun y h1 => (evE C o s h1).sbnd fun x h2 => (fldS c f x y h2).sbnd fun _ h3 => .nx s h3 := by unfold evS; rfl
/-- both are ints -/
def addI (op : Operator) (x y : PV) (h : PH) : Out PV :=
  match x, y with
  | .int _, .int _ => binF op x y h
  | _, _ => bad
theorem s_augF {op : Operator} : evS C (.augF c o f op e) s h = (evE C o s h).sbnd fun x h1 => (fldF c f x h1).sbnd fun y h1 => (evE C e s h1).sbnd fun z h2 => (addI op y z h2).sbnd fun w h3 => (fldS c f x w h3).sbnd fun _ h4 => .nx s h4 := by
  conv => lhs; unfold evS
  all_goals rfl
theorem fldF_at {l : Nat} {fs : List (Str × PV)} {v : PV} {h : PH} (e : h[l]? = some (.ins c fs)) (q : fs.lookup f = some v) : fldF c f (.ref l) h = .ok v h := by
  unfold fldF fldsAt
  simp only [e, if_true, q]
theorem fldS_at {l : Nat} {fs : List (Str × PV)} {v : PV} {h : PH} (e : h[l]? = some (.ins c fs)) (q : fs.length < 1000) : fldS c f (.ref l) v h = .ok () (h.set l (.ins c (fPut f v fs))) := by
  unfold fldS fldsAt
  simp only [e, if_true, q]
end
theorem slot_at {s : PSt} {i : Nat} {h : PH} {v : PV} (e : s[i]? = some (some v)) : slot s i h = .ok v h := by unfold slot; rw [e]
theorem pix_in {n : Nat} {i : Int} (h1 : 0 ≤ i) (h2 : i < n) : pix n i = some i.toNat := by
  unfold pix L2.ixN
  split <;> first | rfl | omega
theorem itemF_at {xs : List PV} {i : Int} {h : PH} {v : PV} (h1 : 0 ≤ i) (e : xs[i.toNat]? = some v) : itemF xs (.int i) h = .ok v h := by
  have h2 := (List.getElem?_eq_some_iff.mp e).1
  simp only [itemF, pix_in h1 (by omega : i < xs.length), Option.bind_some, e]
theorem sub_l {l : Nat} {xs : List PV} {h : PH} (e : h[l]? = some (.lst xs)) (y : PV) : subF (.ref l) y h = itemF xs y h := by simp only [subF, e]
theorem sub_t {xs : List PV} {y : PV} {h : PH} : subF (.tup xs) y h = itemF xs y h := rfl
theorem sub_d {l : Nat} {kvs : List (PV × PV)} {h : PH} (e : h[l]? = some (.dic kvs)) (y : PV) : subF (.ref l) y h = lookF kvs y h := by simp only [subF, e]
theorem item0 {x : PV} {r : List PV} {h : PH} : itemF (x :: r) (.int 0) h = .ok x h := itemF_at (by decide) rfl
theorem item1 {x y : PV} {r : List PV} {h : PH} : itemF (x :: y :: r) (.int 1) h = .ok y h := itemF_at (by decide) rfl
theorem item2 {x y z : PV} {r : List PV} {h : PH} : itemF (x :: y :: z :: r) (.int 2) h = .ok z h := itemF_at (by decide) rfl
theorem item3 {x y z w : PV} {r : List PV} {h : PH} : itemF (x :: y :: z :: w :: r) (.int 3) h = .ok w h := itemF_at (by decide) rfl
theorem b_add {i j : Int} {h : PH} : binF .Add (.int i) (.int j) h = .ok (.int (i + j)) h := rfl
theorem b_sub {i j : Int} {h : PH} : binF .Sub (.int i) (.int j) h = .ok (.int (i - j)) h := rfl
theorem b_mul {i j : Int} {h : PH} (q : j.natAbs < 2 ^ 64) : binF .Mult (.int i) (.int j) h = .ok (.int (i * j)) h := if_pos (.inr q)
theorem b_mul' {i j : Int} {h : PH} (q : i.natAbs < 2 ^ 64) : binF .Mult (.int i) (.int j) h = .ok (.int (i * j)) h := if_pos (.inl q)
theorem b_div {i j : Int} {h : PH} (q : 0 < j) (q2 : j < 1073741824) : binF .FloorDiv (.int i) (.int j) h = .ok (.int (i / j)) h := if_pos ⟨q, q2⟩
theorem b_mod {i j : Int} {h : PH} (q : 0 < j) : binF .Mod (.int i) (.int j) h = .ok (.int (i % j)) h := if_pos q
theorem i_int {i : Int} {h : PH} : biF .int [.int i] h = .ok (.int i) h := rfl
theorem i_abs {i : Int} {h : PH} : biF .abs [.int i] h = .ok (.int (if i < 0 then -i else i)) h := rfl
theorem i_lenL {l : Nat} {xs : List PV} {h : PH} (e : h[l]? = some (.lst xs)) : biF .len [.ref l] h = .ok (.int xs.length) h := by simp only [biF, e]
theorem i_lenD {l : Nat} {xs : List (PV × PV)} {h : PH} (e : h[l]? = some (.dic xs)) : biF .len [.ref l] h = .ok (.int xs.length) h := by simp only [biF, e]
theorem i_lenT {xs : List PV} {h : PH} : biF .len [.tup xs] h = .ok (.int xs.length) h := rfl
theorem c_eqI {i j : Int} {h : PH} : cmpF .Eq (.int i) (.int j) h = .ok (.bl (decide (i = j))) h := rfl
theorem c_neI {i j : Int} {h : PH} : cmpF .NotEq (.int i) (.int j) h = .ok (.bl (!decide (i = j))) h := rfl
theorem c_eqS {i j : Str} {h : PH} : cmpF .Eq (.str i) (.str j) h = .ok (.bl (decide (i = j))) h := rfl
theorem c_neS {i j : Str} {h : PH} : cmpF .NotEq (.str i) (.str j) h = .ok (.bl (!decide (i = j))) h := rfl
theorem c_lt {i j : Int} {h : PH} : cmpF .Lt (.int i) (.int j) h = .ok (.bl (decide (i < j))) h := rfl
theorem c_le {i j : Int} {h : PH} : cmpF .LtE (.int i) (.int j) h = .ok (.bl (decide (i ≤ j))) h := rfl
theorem c_gt {i j : Int} {h : PH} : cmpF .Gt (.int i) (.int j) h = .ok (.bl (decide (j < i))) h := rfl
theorem c_ge {i j : Int} {h : PH} : cmpF .GtE (.int i) (.int j) h = .ok (.bl (decide (j ≤ i))) h := rfl
theorem asB_bl {b : Bool} {h : PH} : asB (.bl b) h = .ok b h := rfl
theorem g_nm {C : Str → List PV → PH → Out PV} {i : Nat} {v : PV} {s : PSt} {h : PH} : evG C (.nm i) v s h = .ok (s.set i (some v)) h := rfl
theorem sub_lst {l : Nat} {xs : List PV} {y v : PV} {h : PH} (e : h[l]? = some (.lst xs)) (q : itemF xs y h = .ok v h) : subF (.ref l) y h = .ok v h := by
  simp only [subF, e, q]
theorem set_lst {l : Nat} {xs : List PV} {i : Int} {v : PV} {h : PH} (e : h[l]? = some (.lst xs)) (h1 : 0 ≤ i) (h2 : i < xs.length) : setF (.ref l) (.int i) v h = .ok () (h.set l (.lst (xs.set i.toNat v))) := by
  simp only [setF, e, pix_in h1 h2]
theorem lt_of_some {α : Type} {xs : List α} {i : Nat} {v : α} (e : xs[i]? = some v) : i < xs.length := (List.getElem?_eq_some_iff.mp e).1

section
variable {C : Str → List PV → PH → Out PV} {s : PSt} {h : PH} {a b c d e : E} {es : Es} {ks : Ks}
theorem e_non : evE C .non s h = .ok .non h := by unfold evE; rfl
theorem e_bl {x : Bool} : evE C (.bl x) s h = .ok (.bl x) h := by unfold evE; rfl
theorem e_int {x : Int} : evE C (.int x) s h = .ok (.int x) h := by unfold evE; rfl
theorem e_str {x : Str} : evE C (.str x) s h = .ok (.str x) h := by unfold evE; rfl
theorem e_var {i : Nat} : evE C (.var i) s h = slot s i h := by unfold evE; rfl
theorem e_bin {op : Operator} : evE C (.bin op a b) s h = (evE C a s h).bnd fun x h => (evE C b s h).bnd fun y h => binF op x y h := by conv => lhs; unfold evE
theorem e_neg : evE C (.neg a) s h = (evE C a s h).bnd fun x h => match x with
    | .int i => ok (.int (-i)) h
    | _ => bad := by
  conv => lhs; unfold evE
  all_goals rfl
theorem e_cmp {op : CmpOp} : evE C (.cmp op a b) s h = (evE C a s h).bnd fun x h => (evE C b s h).bnd fun y h => cmpF op x y h := by conv => lhs; unfold evE
theorem e_not : evE C (.not a) s h = (evE C a s h).bnd fun x h => (truth x h).bnd fun k h => ok (.bl (!k)) h := by conv => lhs; unfold evE
theorem e_ite {t : T} : evE C (.ite t a b) s h = (evT C t s h).bnd fun k h => if k = true then evE C a s h else evE C b s h := by conv => lhs; unfold evE
theorem e_tup : evE C (.tup es) s h = (evEs C es s h).bnd fun xs h => if xs.length ≤ sizeLine then ok (.tup xs) h else bad := by conv => lhs; unfold evE
theorem e_lst : evE C (.lst es) s h = (evEs C es s h).bnd fun xs h => if xs.length ≤ sizeLine then new (.lst xs) h else bad := by conv => lhs; unfold evE
theorem e_dic0 : evE C (.dic .nil) s h = new (.dic []) h := by
  conv => lhs; unfold evE
  unfold evD
  rfl
theorem e_sub : evE C (.sub a b) s h = (evE C a s h).bnd fun x h => (evE C b s h).bnd fun y h => subF x y h := by conv => lhs; unfold evE
theorem e_slc {lo hi : Pt} : evE C (.slc a lo hi) s h = (evE C a s h).bnd fun x h => (evP C lo s h).bnd fun y h => (evP C hi s h).bnd fun z h => slcF x y z h := by conv => lhs; unfold evE
theorem e_call {f : Str} : evE C (.call f es) s h = (evEs C es s h).bnd (C f) := by conv => lhs; unfold evE
theorem e_bi {f : Bi} : evE C (.bi f es) s h = (evEs C es s h).bnd (biF f) := by conv => lhs; unfold evE
def kindG (k1 k2 : Nat) (o : Out PV) : Out PV := if k1 = k2 then o else bad
theorem kindG_eq {k1 k2 : Nat} {o : Out PV} (e : k1 = k2) : kindG k1 k2 o = o := if_pos e
theorem kindG_same {k : Nat} {o : Out PV} : kindG k k o = o := if_pos rfl
theorem e_mt {m : Mt} : evE C (.mt m a es) s h = (evE C a s h).bnd fun x h1 => (evEs C es s h1).bnd fun xs h => kindG (kind x h1) (kind x h) (mtF m x xs h) := by
  conv => lhs; unfold evE
  all_goals rfl
theorem e_isi {f : Bi} : evE C (.isi f a) s h = (evE C a s h).bnd (isiF f) := by conv => lhs; unfold evE
theorem e_fld {c f : Str} : evE C (.fld c a f) s h = (evE C a s h).bnd fun x h => fldF c f x h := by conv => lhs; unfold evE
theorem e_mk {c key : Str} : evE C (.mk c key es) s h = (evEs C es s h).bnd fun xs h => (C key (.ref h.length :: xs) (h ++ [.ins c []])).bnd (mkR h.length) := by conv => lhs; unfold evE
/-- the rest of o.m(..) -/
def umC (C : Str → List PV → PH → Out PV) (c key m : Str) (es : Es) (s : PSt) (x : PV) (h : PH) : Out PV :=
  match fldsAt c x h with
  | some (_, fs) => if (fs.lookup m).isNone = true then (evEs C es s h).bnd fun xs h2 => C key (x :: xs) h2 else bad
  | none => bad
theorem e_um {c key m : Str} : evE C (.um c key m a es) s h = (evE C a s h).bnd (umC C c key m es s) := by
  conv => lhs; unfold evE
  all_goals rfl
theorem umC_at {c key m : Str} {l : Nat} {fs : List (Str × PV)} {h : PH} (e : h[l]? = some (.ins c fs)) (q : fs.lookup m = none) : umC C c key m es s (.ref l) h = (evEs C es s h).bnd fun xs h2 => C key (.ref l :: xs) h2 := by
  unfold umC fldsAt
  simp only [e, if_true, q, Option.isNone_none]
theorem e_kcall {f : Str} {ks : Es} : evE C (.kcall f es ks) s h = (evEs C es s h).bnd fun xs h => (evEs C ks s h).bnd fun ys h => C f (xs ++ ys) h := by conv => lhs; unfold evE
theorem e_lgen {f : Str} {ks : Es} : evE C (.lgen f es ks) s h = (evEs C es s h).bnd fun xs h => (evEs C ks s h).bnd fun ys h => (C f (xs ++ ys) h).bnd lgenR := by conv => lhs; unfold evE
theorem e_rpr : evE C (.rpr a) s h = (evE C a s h).bnd fun x h => reprF x h := by conv => lhs; unfold evE
theorem e_inv {n : Bool} : evE C (.inv n a d) s h = (evE C a s h).bnd fun x h => (evE C d s h).bnd fun y h => invF n x y h := by conv => lhs; unfold evE
theorem e_lrg {t : Bool} : evE C (.lrg t es) s h = (evEs C es s h).bnd (lrgF t) := by conv => lhs; unfold evE
/-- a comprehension's turn -/
def lcC (C : Str → List PV → PH → Out PV) (elt : E) (tg : Tg) (ifs : Ts) (s : PSt) (acc : List PV) (x : PV) (h : PH) : Out (List PV) :=
  (evG C tg x s h).bnd fun s2 h => (evTs C ifs s2 h).bnd fun k h => if k = true then (evE C elt s2 h).bnd fun y h => if acc.length < sizeLine then ok (acc ++ [y]) h else bad else ok acc h
def dcC (C : Str → List PV → PH → Out PV) (kx vx : E) (tg : Tg) (ifs : Ts) (s : PSt) (acc : List (PV × PV)) (x : PV) (h : PH) : Out (List (PV × PV)) :=
  (evG C tg x s h).bnd fun s2 h => (evTs C ifs s2 h).bnd fun k h => if k = true then (evE C kx s2 h).bnd fun y h => (evE C vx s2 h).bnd fun z h => if isKey y ∧ acc.length < sizeLine then ok (dPut acc y z) h else bad else ok acc h
theorem e_lc {tg : Tg} {it : It} {ifs : Ts} {own : List Nat} : evE C (.lc a tg it ifs own) s h = (evI C it s h).bnd fun r h => (each (lcC C a tg ifs (wipeP s own)) r [] h).bnd fun acc h => new (.lst acc) h := by
  conv => lhs; unfold evE
  all_goals rfl
theorem e_dc {tg : Tg} {it : It} {ifs : Ts} {own : List Nat} : evE C (.dc a b tg it ifs own) s h = (evI C it s h).bnd fun r h => (each (dcC C a b tg ifs (wipeP s own)) r [] h).bnd fun acc h => new (.dic acc) h := by
  conv => lhs; unfold evE
  all_goals rfl
end
/-! ### the first step to the front -/
theorem bnd_bnd {α β γ : Type} {o : Out α} {f : α → PH → Out β} {g : β → PH → Out γ} : (o.bnd f).bnd g = o.bnd fun v h => (f v h).bnd g := by cases o <;> rfl
theorem bnd_sbnd {α β : Type} {o : Out α} {f : α → PH → Out β} {g : β → PH → SO} : (o.bnd f).sbnd g = o.sbnd fun v h => (f v h).sbnd g := by cases o <;> rfl
theorem sbnd_seq {α : Type} {o : Out α} {f : α → PH → SO} {g : PSt → PH → SO} : (o.sbnd f).seq g = o.sbnd fun v h => (f v h).seq g := by cases o <;> rfl
def seqC (f g : PSt → PH → SO) (s : PSt) (h : PH) : SO := (f s h).seq g
theorem seq_seq {o : SO} {f g : PSt → PH → SO} : (o.seq f).seq g = o.seq (seqC f g) := by cases o <;> rfl
theorem seqC_ap {f g : PSt → PH → SO} {s : PSt} {h : PH} : seqC f g s h = (f s h).seq g := rfl
/-! ### what comes out -/
def Out.Ok {α : Type} (o : Out α) (Q : α → PH → Prop) : Prop :=
  match o with
  | .ok v h => Q v h
  | _ => False
def SO.To (o : SO) (Q : PSt → PH → Prop) : Prop :=
  match o with
  | .nx s h => Q s h
  | _ => False
def SO.Go (o : SO) (Q : PSt → PH → Prop) : Prop :=
  match o with
  | .nx s h => Q s h
  | .ct s h => Q s h
  | _ => False
def SO.Rt (o : SO) (Q : PV → PH → Prop) : Prop :=
  match o with
  | .rt v h => Q v h
  | _ => False
theorem ok_ok {α : Type} {v : α} {h : PH} {Q : α → PH → Prop} : (Out.ok v h).Ok Q = Q v h := rfl
theorem to_nx {s : PSt} {h : PH} {Q : PSt → PH → Prop} : (SO.nx s h).To Q = Q s h := rfl
theorem go_nx {s : PSt} {h : PH} {Q : PSt → PH → Prop} : (SO.nx s h).Go Q = Q s h := rfl
theorem go_ct {s : PSt} {h : PH} {Q : PSt → PH → Prop} : (SO.ct s h).Go Q = Q s h := rfl
theorem rt_rt {v : PV} {h : PH} {Q : PV → PH → Prop} : (SO.rt v h).Rt Q = Q v h := rfl
theorem Out.Ok.ex {α : Type} {o : Out α} {Q : α → PH → Prop} (e : o.Ok Q) : ∃ v h, o = .ok v h ∧ Q v h := by
  cases o with
  | ok v h => exact ⟨v, h, rfl, e⟩
  | exc _ _ => exact e.elim
  | bad => exact e.elim
theorem SO.To.ex {o : SO} {Q : PSt → PH → Prop} (e : o.To Q) : ∃ s h, o = .nx s h ∧ Q s h := by
  cases o <;> first | exact ⟨_, _, rfl, e⟩ | exact e.elim
theorem SO.Rt.ex {o : SO} {Q : PV → PH → Prop} (e : o.Rt Q) : ∃ s h, o = .rt s h ∧ Q s h := by
  cases o <;> first | exact ⟨_, _, rfl, e⟩ | exact e.elim
theorem Out.Ok.bnd {α β : Type} {o : Out α} {Q : α → PH → Prop} {f : α → PH → Out β} {R : β → PH → Prop} (e : o.Ok Q) (k : ∀ v h, Q v h → (f v h).Ok R) : (o.bnd f).Ok R := by
  obtain ⟨v, h, rfl, q⟩ := e.ex; exact k v h q
theorem Out.Ok.to {α : Type} {o : Out α} {Q : α → PH → Prop} {f : α → PH → SO} {R : PSt → PH → Prop} (e : o.Ok Q) (k : ∀ v h, Q v h → (f v h).To R) : (o.sbnd f).To R := by
  obtain ⟨v, h, rfl, q⟩ := e.ex; exact k v h q
theorem Out.Ok.go {α : Type} {o : Out α} {Q : α → PH → Prop} {f : α → PH → SO} {R : PSt → PH → Prop} (e : o.Ok Q) (k : ∀ v h, Q v h → (f v h).Go R) : (o.sbnd f).Go R := by
  obtain ⟨v, h, rfl, q⟩ := e.ex; exact k v h q
theorem Out.Ok.rt {α : Type} {o : Out α} {Q : α → PH → Prop} {f : α → PH → SO} {R : PV → PH → Prop} (e : o.Ok Q) (k : ∀ v h, Q v h → (f v h).Rt R) : (o.sbnd f).Rt R := by
  obtain ⟨v, h, rfl, q⟩ := e.ex; exact k v h q
theorem SO.To.to {o : SO} {Q : PSt → PH → Prop} {f : PSt → PH → SO} {R : PSt → PH → Prop} (e : o.To Q) (k : ∀ s h, Q s h → (f s h).To R) : (o.seq f).To R := by
  obtain ⟨v, h, rfl, q⟩ := e.ex; exact k v h q
theorem SO.To.go {o : SO} {Q : PSt → PH → Prop} {f : PSt → PH → SO} {R : PSt → PH → Prop} (e : o.To Q) (k : ∀ s h, Q s h → (f s h).Go R) : (o.seq f).Go R := by
  obtain ⟨v, h, rfl, q⟩ := e.ex; exact k v h q
theorem SO.To.rt {o : SO} {Q : PSt → PH → Prop} {f : PSt → PH → SO} {R : PV → PH → Prop} (e : o.To Q) (k : ∀ s h, Q s h → (f s h).Rt R) : (o.seq f).Rt R := by
  obtain ⟨v, h, rfl, q⟩ := e.ex; exact k v h q
theorem SO.To.mono {o : SO} {Q R : PSt → PH → Prop} (e : o.To Q) (k : ∀ s h, Q s h → R s h) : o.To R := by
  obtain ⟨v, h, rfl, q⟩ := e.ex; exact k v h q
theorem Out.Ok.mono {α : Type} {o : Out α} {Q R : α → PH → Prop} (e : o.Ok Q) (k : ∀ s h, Q s h → R s h) : o.Ok R := by
  obtain ⟨v, h, rfl, q⟩ := e.ex; exact k v h q

/-! ### loops by what holds at each turn -/
theorem forI_inv {g : PV → PSt → PH → Out PSt} {b : PSt → PH → SO} {it : Itr} {xs : List PV} (P : Nat → PSt → PH → Prop) (hit : ∀ i s h, P i s h → itStep it i h = some xs[i]?)
    (step : ∀ i x s h, xs[i]? = some x → P i s h → ((g x s h).sbnd b).Go (P (i + 1))) :
    ∀ (m n i : Nat) (s : PSt) (h : PH), xs.length - i = m → i ≤ xs.length → m < n → P i s h → (forI g b it n i s h).To (P xs.length) := by
  intro m
  induction m with
  | zero =>
    intro n i s h e1 e2 e3 p
    obtain ⟨n, rfl⟩ : ∃ k, n = k + 1 := ⟨n - 1, by omega⟩
    have : xs[i]? = none := List.getElem?_eq_none (by omega)
    unfold forI
    rw [hit i s h p, this]
    show P xs.length s h
    rw [show xs.length = i by omega]; exact p
  | succ m ih =>
    intro n i s h e1 e2 e3 p
    obtain ⟨n, rfl⟩ : ∃ k, n = k + 1 := ⟨n - 1, by omega⟩
    have hx : xs[i]? = some xs[i] := List.getElem?_eq_getElem (by omega)
    have e := step i xs[i] s h hx p
    unfold forI
    rw [hit i s h p, hx]
    cases eg : g xs[i] s h with
    | ok s0 h0 =>
      rw [eg] at e
      have e : (b s0 h0).Go (P (i + 1)) := e
      cases eb : b s0 h0 with
      | nx s1 h1 => rw [eb] at e; simp only [eg, Out.sbnd, eb]; exact ih n (i + 1) s1 h1 (by omega) (by omega) (by omega) e
      | ct s1 h1 => rw [eb] at e; simp only [eg, Out.sbnd, eb]; exact ih n (i + 1) s1 h1 (by omega) (by omega) (by omega) e
      | bk _ _ => rw [eb] at e; exact e.elim
      | rt _ _ => rw [eb] at e; exact e.elim
      | exc _ _ => rw [eb] at e; exact e.elim
      | bad => rw [eb] at e; exact e.elim
    | exc _ _ => rw [eg] at e; exact e.elim
    | bad => rw [eg] at e; exact e.elim
/-- a for whose turns all go on -/
theorem for_inv {C : Str → List PV → PH → Out PV} {t : Tg} {b : Ss} {it : Itr} {xs : List PV} {s : PSt} {h : PH} (P : Nat → PSt → PH → Prop) (hf : xs.length < it.fuel) (hit : ∀ i s h, P i s h → itStep it i h = some xs[i]?)
    (p : P 0 s h) (step : ∀ i x s h, xs[i]? = some x → P i s h → ((evG C t x s h).sbnd (evSs C b)).Go (P (i + 1))) : (forC C t b s it h).To (P xs.length) :=
  forI_inv P hit step _ _ 0 s h rfl (Nat.zero_le _) (by omega) p
theorem for_vals {C : Str → List PV → PH → Out PV} {t : Tg} {b : Ss} {xs : List PV} {s : PSt} {h : PH} (P : Nat → PSt → PH → Prop)
    (p : P 0 s h) (step : ∀ i x s h, xs[i]? = some x → P i s h → ((evG C t x s h).sbnd (evSs C b)).Go (P (i + 1))) : (forC C t b s (.vals xs) h).To (P xs.length) :=
  for_inv P (Nat.lt_succ_self _) (fun _ _ _ _ => rfl) p step
theorem for_lst {C : Str → List PV → PH → Out PV} {t : Tg} {b : Ss} {l : Nat} {xs : List PV} {s : PSt} {h : PH} (P : Nat → PSt → PH → Prop) (hz : xs.length ≤ sizeLine) (hl : ∀ i s h, P i s h → h[l]? = some (.lst xs))
    (p : P 0 s h) (step : ∀ i x s h, xs[i]? = some x → P i s h → ((evG C t x s h).sbnd (evSs C b)).Go (P (i + 1))) : (forC C t b s (.lst l) h).To (P xs.length) :=
  for_inv P (by show xs.length < sizeLine + 2; omega) (fun i s h p => by simp only [itStep, hl i s h p]) p step
theorem eachI_inv {α : Type} {f : α → PV → PH → Out α} {it : Itr} {xs : List PV} (P : Nat → α → PH → Prop) (hit : ∀ i a h, P i a h → itStep it i h = some xs[i]?)
    (step : ∀ i x a h, xs[i]? = some x → P i a h → (f a x h).Ok (P (i + 1))) :
    ∀ (m n i : Nat) (a : α) (h : PH), xs.length - i = m → i ≤ xs.length → m < n → P i a h → (eachI f it n i a h).Ok (P xs.length) := by
  intro m
  induction m with
  | zero =>
    intro n i s h e1 e2 e3 p
    obtain ⟨n, rfl⟩ : ∃ k, n = k + 1 := ⟨n - 1, by omega⟩
    have : xs[i]? = none := List.getElem?_eq_none (by omega)
    unfold eachI
    rw [hit i s h p, this]
    show P xs.length s h
    rw [show xs.length = i by omega]; exact p
  | succ m ih =>
    intro n i s h e1 e2 e3 p
    obtain ⟨n, rfl⟩ : ∃ k, n = k + 1 := ⟨n - 1, by omega⟩
    have hx : xs[i]? = some xs[i] := List.getElem?_eq_getElem (by omega)
    unfold eachI
    rw [hit i s h p, hx]
    exact (step i xs[i] s h hx p).bnd fun a1 h1 p1 => ih n (i + 1) a1 h1 (by omega) (by omega) (by omega) p1
theorem each_vals {α : Type} {f : α → PV → PH → Out α} {xs : List PV} {a : α} {h : PH} (P : Nat → α → PH → Prop)
    (p : P 0 a h) (step : ∀ i x a h, xs[i]? = some x → P i a h → (f a x h).Ok (P (i + 1))) : (each f (.vals xs) a h).Ok (P xs.length) :=
  eachI_inv P (fun _ _ _ _ => rfl) step _ _ 0 a h rfl (Nat.zero_le _) (Nat.lt_succ_of_le (by omega)) p
theorem each_lst {α : Type} {f : α → PV → PH → Out α} {l : Nat} {xs : List PV} {a : α} {h : PH} (P : Nat → α → PH → Prop) (hz : xs.length ≤ sizeLine) (hl : ∀ i a h, P i a h → h[l]? = some (.lst xs))
    (p : P 0 a h) (step : ∀ i x a h, xs[i]? = some x → P i a h → (f a x h).Ok (P (i + 1))) : (each f (.lst l) a h).Ok (P xs.length) :=
  eachI_inv P (fun i s h p => by simp only [itStep, hl i s h p]) step _ _ 0 a h rfl (Nat.zero_le _) (by show _ < sizeLine + 2; omega) p
/-- a while, by a measure -/
theorem whl_inv {c : PSt → PH → Out Bool} {b : PSt → PH → SO} (P : PSt → PH → Nat → Prop) (Q : PSt → PH → Prop)
    (step : ∀ s h m, P s h m → (c s h).Ok fun k h1 => if k = true then (b s h1).Go fun s' h' => ∃ m', m' < m ∧ P s' h' m' else Q s h1) :
    ∀ (n m : Nat) (s : PSt) (h : PH), m < n → P s h m → (whl c b n s h).To Q := by
  intro n
  induction n with
  | zero => intro m s h e; omega
  | succ n ih =>
    intro m s h e p
    unfold whl
    obtain ⟨k, h1, e1, q⟩ := (step s h m p).ex
    rw [e1, sbnd_ok]
    cases k with
    | false => rw [if_neg Bool.false_ne_true] at q ⊢; exact q
    | true =>
      rw [if_pos rfl] at q ⊢
      cases eb : b s h1 with
      | nx s1 h1 => rw [eb] at q; obtain ⟨m', lt, p'⟩ := q; exact ih m' s1 h1 (by omega) p'
      | ct s1 h1 => rw [eb] at q; obtain ⟨m', lt, p'⟩ := q; exact ih m' s1 h1 (by omega) p'
      | bk _ _ => rw [eb] at q; exact q.elim
      | rt _ _ => rw [eb] at q; exact q.elim
      | exc _ _ => rw [eb] at q; exact q.elim
      | bad => rw [eb] at q; exact q.elim
theorem whl_ok {C : Str → List PV → PH → Out PV} {c : T} {b : Ss} {s : PSt} {h : PH} (P : PSt → PH → Nat → Prop) (Q : PSt → PH → Prop) (m : Nat) (hm : m < big) (p : P s h m)
    (step : ∀ s h m, P s h m → (evT C c s h).Ok fun k h1 => if k = true then (evSs C b s h1).Go fun s' h' => ∃ m', m' < m ∧ P s' h' m' else Q s h1) : (whlC C c b s h).To Q := whl_inv P Q step big m s h hm p
/-- a call's body -/
theorem call_ok {T : Str → Option Df} {k : Nat} {f : Str} {d : Df} {xs : List PV} {h : PH} {Q : PV → PH → Prop} (e : T f = some d) (hl : xs.length = d.np) (hn : d.np ≤ d.ns)
    (q : (evSs (evCall T k) d.body (xs.map some ++ List.replicate (d.ns - d.np) none) h).Rt Q) (hg : d.gen = none := by rfl) : (evCall T (k + 1) f xs h).Ok Q := by
  obtain ⟨v, h', e2, q⟩ := q.ex
  simp only [evCall, e, hl, hn, hg, e2]
  simp only [true_and, if_true]
  exact q
end MP

set_option Elab.async false
set_option linter.all false
set_option maxRecDepth 100000
set_option maxHeartbeats 4000000
namespace MP
open PySem
/-! ### the laws' draws -/
def b_draw : Ss :=
    (.cons (.asg (.nm 1) (.int 7))
    (.cons (.frr (.nm 2) (.ex (.var 0)) (.cons (.asg (.nm 1) (.bin .Mod (.bi .int (.cons (.bin .Add (.bin .Add (.bin .Mult (.var 1) (.int 48271)) (.bin .Mod (.bi .abs (.cons (.bi .int (.cons (.var 2) .nil)) .nil)) (.int 65521))) (.int 1)) .nil)) (.int 2147483647)))
    .nil))
    (.cons (.ret (.lst (.cons (.lc (.bi .abs (.cons (.bi .int (.cons (.var 2) .nil)) .nil)) (.nm 2) (.ex (.var 0)) .nil [2]) (.cons (.neg (.int 1)) (.cons (.int 0) (.cons (.var 1) .nil))))))
    .nil)))
def b_take : Ss :=
    (.cons (.ite (.cmp .Eq (.sub (.var 0) (.int 2)) (.int 0)) (.cons (.asg (.sub (.var 0) (.int 1)) (.bin .Add (.sub (.var 0) (.int 1)) (.int 1)))
    (.cons (.ite (.cmp .Lt (.sub (.var 0) (.int 1)) (.bi .len (.cons (.sub (.var 0) (.int 0)) .nil))) (.cons (.asg (.sub (.var 0) (.int 2)) (.sub (.sub (.var 0) (.int 0)) (.sub (.var 0) (.int 1))))
    .nil) .nil)
    (.cons (.ite (.cmp .Eq (.sub (.var 0) (.int 2)) (.int 0)) (.cons (.asg (.sub (.var 0) (.int 3)) (.bin .Mod (.bi .int (.cons (.bin .Add (.bin .Mult (.sub (.var 0) (.int 3)) (.int 48271)) (.int 11)) .nil)) (.int 2147483647)))
    (.cons (.asg (.sub (.var 0) (.int 2)) (.sub (.var 0) (.int 3)))
    .nil)) .nil)
    .nil))) .nil)
    (.cons (.asg (.nm 2) (.bin .Mod (.bi .int (.cons (.sub (.var 0) (.int 2)) .nil)) (.var 1)))
    (.cons (.asg (.sub (.var 0) (.int 2)) (.bin .FloorDiv (.sub (.var 0) (.int 2)) (.var 1)))
    (.cons (.ret (.var 2))
    .nil))))
/-- a draw stands at place l, its cells at c -/
def DrawO (c : Nat) (o : PO) : Prop := ∃ a b s : Int, o = .lst [.ref c, .int a, .int b, .int s] ∧ -1 ≤ a
section
variable {C : Str → List PV → PH → Out PV} {h : PH} {c l : Nat} {cs : List Int} {m a b s : Int} {ps : PSt}
theorem draw_sub {x : Nat} {xs : List PV} {v : PV} {k : Int} (e0 : ps[x]? = some (some (.ref l))) (ho : h[l]? = some (.lst xs)) (h1 : 0 ≤ k) (e : xs[k.toNat]? = some v) : evE C (.sub (.var x) (.int k)) ps h = .ok v h := by
  simp only [evE, slot_at e0, bnd_ok]
  exact sub_lst ho (itemF_at h1 e)
end
theorem take_ok {C : Str → List PV → PH → Out PV} {h : PH} {c l : Nat} {cs : List Int} {o : PO} {m : Int} (hc : h[c]? = some (.lst (cs.map PV.int))) (ho : h[l]? = some o) (hd : DrawO c o) (hne : c ≠ l) (h0 : 0 < m) (h1 : m < 1073741824) :
    ∃ (r : Int) (o' : PO), 0 ≤ r ∧ r < m ∧ DrawO c o' ∧ evSs C b_take [some (.ref l), some (.int m), none] h = .rt (.int r) (h.set l o') := by
  obtain ⟨a, b, s, rfl, ha⟩ := hd
  have hl : l < h.length := (List.getElem?_eq_some_iff.mp ho).1
  have hs : ∀ o, (h.set l o)[l]? = some o := fun o => List.getElem?_set_self hl
  have hs2 : ∀ o o', (h.set l o).set l o' = h.set l o' := fun o o' => List.set_set ..
  have hcs : ∀ o, (h.set l o)[c]? = some (.lst (cs.map PV.int)) := fun o => by rw [List.getElem?_set_ne (Ne.symm hne)]; exact hc
  -- the end, from a heap at which the draw's part is there
  have fin : ∀ (a b s : Int) (h' : PH), h'[l]? = some (.lst [.ref c, .int a, .int b, .int s]) → (∀ o', h'.set l o' = h.set l o') → -1 ≤ a → ∃ (r : Int) (o' : PO), 0 ≤ r ∧ r < m ∧ DrawO c o' ∧ evSs C (.cons (.asg (.nm 2) (.bin .Mod (.bi .int (.cons (.sub (.var 0) (.int 2)) .nil)) (.var 1)))
      (.cons (.asg (.sub (.var 0) (.int 2)) (.bin .FloorDiv (.sub (.var 0) (.int 2)) (.var 1))) (.cons (.ret (.var 2)) .nil))) [some (.ref l), some (.int m), none] h' = .rt (.int r) (h.set l o') := by
    intro a b s h' e1 e2 ha
    refine ⟨b % m, .lst [.ref c, .int a, .int (b / m), .int s], Int.emod_nonneg _ (by omega), Int.emod_lt_of_pos _ h0, ⟨a, b / m, s, rfl, ha⟩, ?_⟩
    simp [bnd_bnd, bnd_sbnd, sbnd_seq, seq_seq, seqC_ap, ss_cons, ss_nil, s_asg, s_ret, s_ite, s_ex, s_for, s_whl, e_non, e_bl, e_int, e_str, e_var, e_bin, e_neg, e_cmp, e_not, e_tup, e_lst, e_dic0, e_sub, e_call, e_bi, e_mt, kindG_same, e_isi, e_inv, e_lrg, e_fld, e_mk, e_um, e_kcall, e_lgen, e_rpr, s_sfld, s_augF, e_lc, e_dc, wipeP, new, evEs, evT, evTs, evP, evI, evG, bnd_ok, sbnd_ok, seq_nx, seq_rt, to_nx, go_nx, go_ct, rt_rt, ok_ok, slot, item0, item1, item2, item3, sub_t, i_int, i_abs, i_lenT, c_eqI, c_neI, c_eqS, c_neS, c_lt, c_le, c_gt, c_ge, asB_bl, iteC_t, iteC_f, iteC_d, b_add, b_sub, b_mul, b_mod, sub_l e1, item2, i_int, b_mod h0, b_div h0 h1, set_lst e1, e2]
  have A : ∀ (a b s : Int) (h' : PH), h'[l]? = some (.lst [.ref c, .int a, .int b, .int s]) → h'[c]? = some (.lst (cs.map PV.int)) → (∀ o', h'.set l o' = h.set l o') → -1 ≤ a → True := fun _ _ _ _ _ _ _ _ => True.intro
  by_cases hb : b = 0
  · subst hb
    by_cases ha2 : a + 1 < cs.length
    · obtain ⟨x, hx⟩ : ∃ x, cs[(a + 1).toNat]? = some x := ⟨cs[(a + 1).toNat]'(by omega), List.getElem?_eq_getElem (by omega)⟩
      have hx' : itemF (cs.map PV.int) (.int (a + 1)) = Out.ok (.int x) := by funext h; exact itemF_at (by omega) (by rw [List.getElem?_map, hx]; rfl)
      by_cases hx0 : x = 0
      · subst hx0
        obtain ⟨r, o', f1, f2, f3, f4⟩ := fin (a + 1) ((s * 48271 + 11) % 2147483647) ((s * 48271 + 11) % 2147483647) (h.set l (.lst [.ref c, .int (a + 1), .int ((s * 48271 + 11) % 2147483647), .int ((s * 48271 + 11) % 2147483647)])) (hs _) (fun o' => hs2 _ o') (by omega)
        refine ⟨r, o', f1, f2, f3, ?_⟩
        rw [← f4]
        unfold b_take
        simp [bnd_bnd, bnd_sbnd, sbnd_seq, seq_seq, seqC_ap, ss_cons, ss_nil, s_asg, s_ret, s_ite, s_ex, s_for, s_whl, e_non, e_bl, e_int, e_str, e_var, e_bin, e_neg, e_cmp, e_not, e_tup, e_lst, e_dic0, e_sub, e_call, e_bi, e_mt, kindG_same, e_isi, e_inv, e_lrg, e_fld, e_mk, e_um, e_kcall, e_lgen, e_rpr, s_sfld, s_augF, e_lc, e_dc, wipeP, new, evEs, evT, evTs, evP, evI, evG, bnd_ok, sbnd_ok, seq_nx, seq_rt, to_nx, go_nx, go_ct, rt_rt, ok_ok, slot, item0, item1, item2, item3, sub_t, i_int, i_abs, i_lenT, c_eqI, c_neI, c_eqS, c_neS, c_lt, c_le, c_gt, c_ge, asB_bl, iteC_t, iteC_f, iteC_d, b_add, b_sub, b_mul, b_mod, sub_l ho, sub_l (hs _), sub_l (hcs _), item0, item1, item2, item3, i_int, set_lst ho, set_lst (hs _), hs2, c_eqI, c_lt, asB_bl, iteC_t, iteC_f, iteC_d, i_lenL (hcs _), b_add, ha2, hx', b_mul, b_mod]
      · obtain ⟨r, o', f1, f2, f3, f4⟩ := fin (a + 1) x s (h.set l (.lst [.ref c, .int (a + 1), .int x, .int s])) (hs _) (fun o' => hs2 _ o') (by omega)
        refine ⟨r, o', f1, f2, f3, ?_⟩
        rw [← f4]
        unfold b_take
        simp [bnd_bnd, bnd_sbnd, sbnd_seq, seq_seq, seqC_ap, ss_cons, ss_nil, s_asg, s_ret, s_ite, s_ex, s_for, s_whl, e_non, e_bl, e_int, e_str, e_var, e_bin, e_neg, e_cmp, e_not, e_tup, e_lst, e_dic0, e_sub, e_call, e_bi, e_mt, kindG_same, e_isi, e_inv, e_lrg, e_fld, e_mk, e_um, e_kcall, e_lgen, e_rpr, s_sfld, s_augF, e_lc, e_dc, wipeP, new, evEs, evT, evTs, evP, evI, evG, bnd_ok, sbnd_ok, seq_nx, seq_rt, to_nx, go_nx, go_ct, rt_rt, ok_ok, slot, item0, item1, item2, item3, sub_t, i_int, i_abs, i_lenT, c_eqI, c_neI, c_eqS, c_neS, c_lt, c_le, c_gt, c_ge, asB_bl, iteC_t, iteC_f, iteC_d, b_add, b_sub, b_mul, b_mod, sub_l ho, sub_l (hs _), sub_l (hcs _), item0, item1, item2, item3, i_int, set_lst ho, set_lst (hs _), hs2, c_eqI, c_lt, asB_bl, iteC_t, iteC_f, iteC_d, i_lenL (hcs _), b_add, ha2, hx', b_mul, b_mod, hx0]
    · obtain ⟨r, o', f1, f2, f3, f4⟩ := fin (a + 1) ((s * 48271 + 11) % 2147483647) ((s * 48271 + 11) % 2147483647) (h.set l (.lst [.ref c, .int (a + 1), .int ((s * 48271 + 11) % 2147483647), .int ((s * 48271 + 11) % 2147483647)])) (hs _) (fun o' => hs2 _ o') (by omega)
      refine ⟨r, o', f1, f2, f3, ?_⟩
      rw [← f4]
      unfold b_take
      simp [bnd_bnd, bnd_sbnd, sbnd_seq, seq_seq, seqC_ap, ss_cons, ss_nil, s_asg, s_ret, s_ite, s_ex, s_for, s_whl, e_non, e_bl, e_int, e_str, e_var, e_bin, e_neg, e_cmp, e_not, e_tup, e_lst, e_dic0, e_sub, e_call, e_bi, e_mt, kindG_same, e_isi, e_inv, e_lrg, e_fld, e_mk, e_um, e_kcall, e_lgen, e_rpr, s_sfld, s_augF, e_lc, e_dc, wipeP, new, evEs, evT, evTs, evP, evI, evG, bnd_ok, sbnd_ok, seq_nx, seq_rt, to_nx, go_nx, go_ct, rt_rt, ok_ok, slot, item0, item1, item2, item3, sub_t, i_int, i_abs, i_lenT, c_eqI, c_neI, c_eqS, c_neS, c_lt, c_le, c_gt, c_ge, asB_bl, iteC_t, iteC_f, iteC_d, b_add, b_sub, b_mul, b_mod, sub_l ho, sub_l (hs _), sub_l (hcs _), item0, item1, item2, item3, i_int, set_lst ho, set_lst (hs _), hs2, c_eqI, c_lt, asB_bl, iteC_t, iteC_f, iteC_d, i_lenL (hcs _), b_add, ha2, b_mul, b_mod]
  · obtain ⟨r, o', f1, f2, f3, f4⟩ := fin a b s h ho (fun o' => rfl) ha
    refine ⟨r, o', f1, f2, f3, ?_⟩
    rw [← f4]
    unfold b_take
    simp [bnd_bnd, bnd_sbnd, sbnd_seq, seq_seq, seqC_ap, ss_cons, ss_nil, s_asg, s_ret, s_ite, s_ex, s_for, s_whl, e_non, e_bl, e_int, e_str, e_var, e_bin, e_neg, e_cmp, e_not, e_tup, e_lst, e_dic0, e_sub, e_call, e_bi, e_mt, kindG_same, e_isi, e_inv, e_lrg, e_fld, e_mk, e_um, e_kcall, e_lgen, e_rpr, s_sfld, s_augF, e_lc, e_dc, wipeP, new, evEs, evT, evTs, evP, evI, evG, bnd_ok, sbnd_ok, seq_nx, seq_rt, to_nx, go_nx, go_ct, rt_rt, ok_ok, slot, item0, item1, item2, item3, sub_t, i_int, i_abs, i_lenT, c_eqI, c_neI, c_eqS, c_neS, c_lt, c_le, c_gt, c_ge, asB_bl, iteC_t, iteC_f, iteC_d, b_add, b_sub, b_mul, b_mod, sub_l ho, item2, c_eqI, asB_bl, hb]
/-- the first draw -/
theorem draw_ok {C : Str → List PV → PH → Out PV} (ns : List Int) (hz : ns.length ≤ 63) : (evSs C b_draw [some (.fro (ns.map PV.int)), none, none] []).Rt fun v h => v = .ref 1 ∧ ∃ (cs : List Int) (o : PO), DrawO 0 o ∧ h = [.lst (cs.map PV.int), o] := by
  unfold b_draw
  simp only [bnd_bnd, bnd_sbnd, sbnd_seq, seq_seq, seqC_ap, ss_cons, ss_nil, s_asg, s_ret, s_ite, s_ex, s_for, s_whl, e_non, e_bl, e_int, e_str, e_var, e_bin, e_neg, e_cmp, e_not, e_tup, e_lst, e_dic0, e_sub, e_call, e_bi, e_mt, kindG_same, e_isi, e_inv, e_lrg, e_fld, e_mk, e_um, e_kcall, e_lgen, e_rpr, s_sfld, s_augF, e_lc, e_dc, wipeP, new, evEs, evT, evTs, evP, evI, evG, bnd_ok, sbnd_ok, seq_nx, seq_rt, to_nx, go_nx, go_ct, rt_rt, ok_ok, slot, item0, item1, item2, item3, sub_t, i_int, i_abs, i_lenT, c_eqI, c_neI, c_eqS, c_neS, c_lt, c_le, c_gt, c_ge, asB_bl, iteC_t, iteC_f, iteC_d, b_add, b_sub, b_mul, b_mod]
  refine SO.To.rt (for_vals (fun _ s' h' => ∃ (sd : Int) (z : Option PV), s' = [some (.fro (ns.map PV.int)), some (.int sd), z] ∧ h' = []) ⟨7, none, rfl, rfl⟩ fun i x s h hx p => ?_) fun s h p => ?_
  · obtain ⟨sd, z, rfl, rfl⟩ := p
    rw [List.getElem?_map, Option.map_eq_some_iff] at hx
    obtain ⟨n, _, rfl⟩ := hx
    simp [bnd_bnd, bnd_sbnd, sbnd_seq, seq_seq, seqC_ap, ss_cons, ss_nil, s_asg, s_ret, s_ite, s_ex, s_for, s_whl, e_non, e_bl, e_int, e_str, e_var, e_bin, e_neg, e_cmp, e_not, e_tup, e_lst, e_dic0, e_sub, e_call, e_bi, e_mt, kindG_same, e_isi, e_inv, e_lrg, e_fld, e_mk, e_um, e_kcall, e_lgen, e_rpr, s_sfld, s_augF, e_lc, e_dc, wipeP, new, evEs, evT, evTs, evP, evI, evG, bnd_ok, sbnd_ok, seq_nx, seq_rt, to_nx, go_nx, go_ct, rt_rt, ok_ok, slot, item0, item1, item2, item3, sub_t, i_int, i_abs, i_lenT, c_eqI, c_neI, c_eqS, c_neS, c_lt, c_le, c_gt, c_ge, asB_bl, iteC_t, iteC_f, iteC_d, b_add, b_sub, b_mul, b_mod]
  · obtain ⟨sd, z, rfl, rfl⟩ := p
    simp [bnd_bnd, bnd_sbnd, sbnd_seq, seq_seq, seqC_ap, ss_cons, ss_nil, s_asg, s_ret, s_ite, s_ex, s_for, s_whl, e_non, e_bl, e_int, e_str, e_var, e_bin, e_neg, e_cmp, e_not, e_tup, e_lst, e_dic0, e_sub, e_call, e_bi, e_mt, kindG_same, e_isi, e_inv, e_lrg, e_fld, e_mk, e_um, e_kcall, e_lgen, e_rpr, s_sfld, s_augF, e_lc, e_dc, wipeP, new, evEs, evT, evTs, evP, evI, evG, bnd_ok, sbnd_ok, seq_nx, seq_rt, to_nx, go_nx, go_ct, rt_rt, ok_ok, slot, item0, item1, item2, item3, sub_t, i_int, i_abs, i_lenT, c_eqI, c_neI, c_eqS, c_neS, c_lt, c_le, c_gt, c_ge, asB_bl, iteC_t, iteC_f, iteC_d, b_add, b_sub, b_mul, b_mod]
    refine Out.Ok.rt (each_vals (fun i acc h => h = [] ∧ ∃ cs : List Int, acc = cs.map PV.int ∧ acc.length = i) ⟨rfl, [], rfl, rfl⟩ fun i x acc h hx p => ?_) fun acc h p => ?_
    · obtain ⟨rfl, cs, rfl, hl⟩ := p
      have hi := lt_of_some hx
      rw [List.getElem?_map, Option.map_eq_some_iff] at hx
      obtain ⟨n, _, rfl⟩ := hx
      have hz2 : (cs.map PV.int).length < sizeLine := by
        rw [List.length_map] at hi
        have : (63 : Nat) < sizeLine := by decide
        omega
      rw [List.length_map] at hz2
      simp [bnd_bnd, bnd_sbnd, sbnd_seq, seq_seq, seqC_ap, ss_cons, ss_nil, s_asg, s_ret, s_ite, s_ex, s_for, s_whl, e_non, e_bl, e_int, e_str, e_var, e_bin, e_neg, e_cmp, e_not, e_tup, e_lst, e_dic0, e_sub, e_call, e_bi, e_mt, kindG_same, e_isi, e_inv, e_lrg, e_fld, e_mk, e_um, e_kcall, e_lgen, e_rpr, s_sfld, s_augF, e_lc, e_dc, wipeP, new, evEs, evT, evTs, evP, evI, evG, bnd_ok, sbnd_ok, seq_nx, seq_rt, to_nx, go_nx, go_ct, rt_rt, ok_ok, slot, item0, item1, item2, item3, sub_t, i_int, i_abs, i_lenT, c_eqI, c_neI, c_eqS, c_neS, c_lt, c_le, c_gt, c_ge, asB_bl, iteC_t, iteC_f, iteC_d, b_add, b_sub, b_mul, b_mod, lcC, hz2]
      exact ⟨⟨cs ++ [if n < 0 then -n else n], by simp⟩, by simpa using hl⟩
    · obtain ⟨rfl, cs, rfl, hl⟩ := p
      have : (4 : Nat) ≤ sizeLine := by decide
      simp [bnd_bnd, bnd_sbnd, sbnd_seq, seq_seq, seqC_ap, ss_cons, ss_nil, s_asg, s_ret, s_ite, s_ex, s_for, s_whl, e_non, e_bl, e_int, e_str, e_var, e_bin, e_neg, e_cmp, e_not, e_tup, e_lst, e_dic0, e_sub, e_call, e_bi, e_mt, kindG_same, e_isi, e_inv, e_lrg, e_fld, e_mk, e_um, e_kcall, e_lgen, e_rpr, s_sfld, s_augF, e_lc, e_dc, wipeP, new, evEs, evT, evTs, evP, evI, evG, bnd_ok, sbnd_ok, seq_nx, seq_rt, to_nx, go_nx, go_ct, rt_rt, ok_ok, slot, item0, item1, item2, item3, sub_t, i_int, i_abs, i_lenT, c_eqI, c_neI, c_eqS, c_neS, c_lt, c_le, c_gt, c_ge, asB_bl, iteC_t, iteC_f, iteC_d, b_add, b_sub, b_mul, b_mod, this]
      exact ⟨⟨-1, 0, sd, rfl, by omega⟩, cs, rfl⟩
end MP

set_option Elab.async false
set_option linter.all false
namespace MP
open PySem
/-! the laws' words are apart -/
theorem ne_add_sub : (("add" : Str) = "sub") = False := eq_false (by decide)
theorem ne_add_mul : (("add" : Str) = "mul") = False := eq_false (by decide)
theorem ne_add_and : (("add" : Str) = "and") = False := eq_false (by decide)
theorem ne_add_or : (("add" : Str) = "or") = False := eq_false (by decide)
theorem ne_add_xor : (("add" : Str) = "xor") = False := eq_false (by decide)
theorem ne_add_shl : (("add" : Str) = "shl") = False := eq_false (by decide)
theorem ne_add_shr : (("add" : Str) = "shr") = False := eq_false (by decide)
theorem ne_add_less : (("add" : Str) = "less") = False := eq_false (by decide)
theorem ne_add_equal : (("add" : Str) = "equal") = False := eq_false (by decide)
theorem ne_add_not : (("add" : Str) = "not") = False := eq_false (by decide)
theorem ne_add_neg : (("add" : Str) = "neg") = False := eq_false (by decide)
theorem ne_add_int : (("add" : Str) = "int") = False := eq_false (by decide)
theorem ne_add_var : (("add" : Str) = "var") = False := eq_false (by decide)
theorem ne_add_load : (("add" : Str) = "load") = False := eq_false (by decide)
theorem ne_add_set : (("add" : Str) = "set") = False := eq_false (by decide)
theorem ne_add_write : (("add" : Str) = "write") = False := eq_false (by decide)
theorem ne_add_store : (("add" : Str) = "store") = False := eq_false (by decide)
theorem ne_add_go : (("add" : Str) = "go") = False := eq_false (by decide)
theorem ne_add_if : (("add" : Str) = "if") = False := eq_false (by decide)
theorem ne_add_return : (("add" : Str) = "return") = False := eq_false (by decide)
theorem ne_add_none : (("add" : Str) = "none") = False := eq_false (by decide)
theorem ne_sub_add : (("sub" : Str) = "add") = False := eq_false (by decide)
theorem ne_sub_mul : (("sub" : Str) = "mul") = False := eq_false (by decide)
theorem ne_sub_and : (("sub" : Str) = "and") = False := eq_false (by decide)
theorem ne_sub_or : (("sub" : Str) = "or") = False := eq_false (by decide)
theorem ne_sub_xor : (("sub" : Str) = "xor") = False := eq_false (by decide)
theorem ne_sub_shl : (("sub" : Str) = "shl") = False := eq_false (by decide)
theorem ne_sub_shr : (("sub" : Str) = "shr") = False := eq_false (by decide)
theorem ne_sub_less : (("sub" : Str) = "less") = False := eq_false (by decide)
theorem ne_sub_equal : (("sub" : Str) = "equal") = False := eq_false (by decide)
theorem ne_sub_not : (("sub" : Str) = "not") = False := eq_false (by decide)
theorem ne_sub_neg : (("sub" : Str) = "neg") = False := eq_false (by decide)
theorem ne_sub_int : (("sub" : Str) = "int") = False := eq_false (by decide)
theorem ne_sub_var : (("sub" : Str) = "var") = False := eq_false (by decide)
theorem ne_sub_load : (("sub" : Str) = "load") = False := eq_false (by decide)
theorem ne_sub_set : (("sub" : Str) = "set") = False := eq_false (by decide)
theorem ne_sub_write : (("sub" : Str) = "write") = False := eq_false (by decide)
theorem ne_sub_store : (("sub" : Str) = "store") = False := eq_false (by decide)
theorem ne_sub_go : (("sub" : Str) = "go") = False := eq_false (by decide)
theorem ne_sub_if : (("sub" : Str) = "if") = False := eq_false (by decide)
theorem ne_sub_return : (("sub" : Str) = "return") = False := eq_false (by decide)
theorem ne_sub_none : (("sub" : Str) = "none") = False := eq_false (by decide)
theorem ne_mul_add : (("mul" : Str) = "add") = False := eq_false (by decide)
theorem ne_mul_sub : (("mul" : Str) = "sub") = False := eq_false (by decide)
theorem ne_mul_and : (("mul" : Str) = "and") = False := eq_false (by decide)
theorem ne_mul_or : (("mul" : Str) = "or") = False := eq_false (by decide)
theorem ne_mul_xor : (("mul" : Str) = "xor") = False := eq_false (by decide)
theorem ne_mul_shl : (("mul" : Str) = "shl") = False := eq_false (by decide)
theorem ne_mul_shr : (("mul" : Str) = "shr") = False := eq_false (by decide)
theorem ne_mul_less : (("mul" : Str) = "less") = False := eq_false (by decide)
theorem ne_mul_equal : (("mul" : Str) = "equal") = False := eq_false (by decide)
theorem ne_mul_not : (("mul" : Str) = "not") = False := eq_false (by decide)
theorem ne_mul_neg : (("mul" : Str) = "neg") = False := eq_false (by decide)
theorem ne_mul_int : (("mul" : Str) = "int") = False := eq_false (by decide)
theorem ne_mul_var : (("mul" : Str) = "var") = False := eq_false (by decide)
theorem ne_mul_load : (("mul" : Str) = "load") = False := eq_false (by decide)
theorem ne_mul_set : (("mul" : Str) = "set") = False := eq_false (by decide)
theorem ne_mul_write : (("mul" : Str) = "write") = False := eq_false (by decide)
theorem ne_mul_store : (("mul" : Str) = "store") = False := eq_false (by decide)
theorem ne_mul_go : (("mul" : Str) = "go") = False := eq_false (by decide)
theorem ne_mul_if : (("mul" : Str) = "if") = False := eq_false (by decide)
theorem ne_mul_return : (("mul" : Str) = "return") = False := eq_false (by decide)
theorem ne_mul_none : (("mul" : Str) = "none") = False := eq_false (by decide)
theorem ne_and_add : (("and" : Str) = "add") = False := eq_false (by decide)
theorem ne_and_sub : (("and" : Str) = "sub") = False := eq_false (by decide)
theorem ne_and_mul : (("and" : Str) = "mul") = False := eq_false (by decide)
theorem ne_and_or : (("and" : Str) = "or") = False := eq_false (by decide)
theorem ne_and_xor : (("and" : Str) = "xor") = False := eq_false (by decide)
theorem ne_and_shl : (("and" : Str) = "shl") = False := eq_false (by decide)
theorem ne_and_shr : (("and" : Str) = "shr") = False := eq_false (by decide)
theorem ne_and_less : (("and" : Str) = "less") = False := eq_false (by decide)
theorem ne_and_equal : (("and" : Str) = "equal") = False := eq_false (by decide)
theorem ne_and_not : (("and" : Str) = "not") = False := eq_false (by decide)
theorem ne_and_neg : (("and" : Str) = "neg") = False := eq_false (by decide)
theorem ne_and_int : (("and" : Str) = "int") = False := eq_false (by decide)
theorem ne_and_var : (("and" : Str) = "var") = False := eq_false (by decide)
theorem ne_and_load : (("and" : Str) = "load") = False := eq_false (by decide)
theorem ne_and_set : (("and" : Str) = "set") = False := eq_false (by decide)
theorem ne_and_write : (("and" : Str) = "write") = False := eq_false (by decide)
theorem ne_and_store : (("and" : Str) = "store") = False := eq_false (by decide)
theorem ne_and_go : (("and" : Str) = "go") = False := eq_false (by decide)
theorem ne_and_if : (("and" : Str) = "if") = False := eq_false (by decide)
theorem ne_and_return : (("and" : Str) = "return") = False := eq_false (by decide)
theorem ne_and_none : (("and" : Str) = "none") = False := eq_false (by decide)
theorem ne_or_add : (("or" : Str) = "add") = False := eq_false (by decide)
theorem ne_or_sub : (("or" : Str) = "sub") = False := eq_false (by decide)
theorem ne_or_mul : (("or" : Str) = "mul") = False := eq_false (by decide)
theorem ne_or_and : (("or" : Str) = "and") = False := eq_false (by decide)
theorem ne_or_xor : (("or" : Str) = "xor") = False := eq_false (by decide)
theorem ne_or_shl : (("or" : Str) = "shl") = False := eq_false (by decide)
theorem ne_or_shr : (("or" : Str) = "shr") = False := eq_false (by decide)
theorem ne_or_less : (("or" : Str) = "less") = False := eq_false (by decide)
theorem ne_or_equal : (("or" : Str) = "equal") = False := eq_false (by decide)
theorem ne_or_not : (("or" : Str) = "not") = False := eq_false (by decide)
theorem ne_or_neg : (("or" : Str) = "neg") = False := eq_false (by decide)
theorem ne_or_int : (("or" : Str) = "int") = False := eq_false (by decide)
theorem ne_or_var : (("or" : Str) = "var") = False := eq_false (by decide)
theorem ne_or_load : (("or" : Str) = "load") = False := eq_false (by decide)
theorem ne_or_set : (("or" : Str) = "set") = False := eq_false (by decide)
theorem ne_or_write : (("or" : Str) = "write") = False := eq_false (by decide)
theorem ne_or_store : (("or" : Str) = "store") = False := eq_false (by decide)
theorem ne_or_go : (("or" : Str) = "go") = False := eq_false (by decide)
theorem ne_or_if : (("or" : Str) = "if") = False := eq_false (by decide)
theorem ne_or_return : (("or" : Str) = "return") = False := eq_false (by decide)
theorem ne_or_none : (("or" : Str) = "none") = False := eq_false (by decide)
theorem ne_xor_add : (("xor" : Str) = "add") = False := eq_false (by decide)
theorem ne_xor_sub : (("xor" : Str) = "sub") = False := eq_false (by decide)
theorem ne_xor_mul : (("xor" : Str) = "mul") = False := eq_false (by decide)
theorem ne_xor_and : (("xor" : Str) = "and") = False := eq_false (by decide)
theorem ne_xor_or : (("xor" : Str) = "or") = False := eq_false (by decide)
theorem ne_xor_shl : (("xor" : Str) = "shl") = False := eq_false (by decide)
theorem ne_xor_shr : (("xor" : Str) = "shr") = False := eq_false (by decide)
theorem ne_xor_less : (("xor" : Str) = "less") = False := eq_false (by decide)
theorem ne_xor_equal : (("xor" : Str) = "equal") = False := eq_false (by decide)
theorem ne_xor_not : (("xor" : Str) = "not") = False := eq_false (by decide)
theorem ne_xor_neg : (("xor" : Str) = "neg") = False := eq_false (by decide)
theorem ne_xor_int : (("xor" : Str) = "int") = False := eq_false (by decide)
theorem ne_xor_var : (("xor" : Str) = "var") = False := eq_false (by decide)
theorem ne_xor_load : (("xor" : Str) = "load") = False := eq_false (by decide)
theorem ne_xor_set : (("xor" : Str) = "set") = False := eq_false (by decide)
theorem ne_xor_write : (("xor" : Str) = "write") = False := eq_false (by decide)
theorem ne_xor_store : (("xor" : Str) = "store") = False := eq_false (by decide)
theorem ne_xor_go : (("xor" : Str) = "go") = False := eq_false (by decide)
theorem ne_xor_if : (("xor" : Str) = "if") = False := eq_false (by decide)
theorem ne_xor_return : (("xor" : Str) = "return") = False := eq_false (by decide)
theorem ne_xor_none : (("xor" : Str) = "none") = False := eq_false (by decide)
theorem ne_shl_add : (("shl" : Str) = "add") = False := eq_false (by decide)
theorem ne_shl_sub : (("shl" : Str) = "sub") = False := eq_false (by decide)
theorem ne_shl_mul : (("shl" : Str) = "mul") = False := eq_false (by decide)
theorem ne_shl_and : (("shl" : Str) = "and") = False := eq_false (by decide)
theorem ne_shl_or : (("shl" : Str) = "or") = False := eq_false (by decide)
theorem ne_shl_xor : (("shl" : Str) = "xor") = False := eq_false (by decide)
theorem ne_shl_shr : (("shl" : Str) = "shr") = False := eq_false (by decide)
theorem ne_shl_less : (("shl" : Str) = "less") = False := eq_false (by decide)
theorem ne_shl_equal : (("shl" : Str) = "equal") = False := eq_false (by decide)
theorem ne_shl_not : (("shl" : Str) = "not") = False := eq_false (by decide)
theorem ne_shl_neg : (("shl" : Str) = "neg") = False := eq_false (by decide)
theorem ne_shl_int : (("shl" : Str) = "int") = False := eq_false (by decide)
theorem ne_shl_var : (("shl" : Str) = "var") = False := eq_false (by decide)
theorem ne_shl_load : (("shl" : Str) = "load") = False := eq_false (by decide)
theorem ne_shl_set : (("shl" : Str) = "set") = False := eq_false (by decide)
theorem ne_shl_write : (("shl" : Str) = "write") = False := eq_false (by decide)
theorem ne_shl_store : (("shl" : Str) = "store") = False := eq_false (by decide)
theorem ne_shl_go : (("shl" : Str) = "go") = False := eq_false (by decide)
theorem ne_shl_if : (("shl" : Str) = "if") = False := eq_false (by decide)
theorem ne_shl_return : (("shl" : Str) = "return") = False := eq_false (by decide)
theorem ne_shl_none : (("shl" : Str) = "none") = False := eq_false (by decide)
theorem ne_shr_add : (("shr" : Str) = "add") = False := eq_false (by decide)
theorem ne_shr_sub : (("shr" : Str) = "sub") = False := eq_false (by decide)
theorem ne_shr_mul : (("shr" : Str) = "mul") = False := eq_false (by decide)
theorem ne_shr_and : (("shr" : Str) = "and") = False := eq_false (by decide)
theorem ne_shr_or : (("shr" : Str) = "or") = False := eq_false (by decide)
theorem ne_shr_xor : (("shr" : Str) = "xor") = False := eq_false (by decide)
theorem ne_shr_shl : (("shr" : Str) = "shl") = False := eq_false (by decide)
theorem ne_shr_less : (("shr" : Str) = "less") = False := eq_false (by decide)
theorem ne_shr_equal : (("shr" : Str) = "equal") = False := eq_false (by decide)
theorem ne_shr_not : (("shr" : Str) = "not") = False := eq_false (by decide)
theorem ne_shr_neg : (("shr" : Str) = "neg") = False := eq_false (by decide)
theorem ne_shr_int : (("shr" : Str) = "int") = False := eq_false (by decide)
theorem ne_shr_var : (("shr" : Str) = "var") = False := eq_false (by decide)
theorem ne_shr_load : (("shr" : Str) = "load") = False := eq_false (by decide)
theorem ne_shr_set : (("shr" : Str) = "set") = False := eq_false (by decide)
theorem ne_shr_write : (("shr" : Str) = "write") = False := eq_false (by decide)
theorem ne_shr_store : (("shr" : Str) = "store") = False := eq_false (by decide)
theorem ne_shr_go : (("shr" : Str) = "go") = False := eq_false (by decide)
theorem ne_shr_if : (("shr" : Str) = "if") = False := eq_false (by decide)
theorem ne_shr_return : (("shr" : Str) = "return") = False := eq_false (by decide)
theorem ne_shr_none : (("shr" : Str) = "none") = False := eq_false (by decide)
theorem ne_less_add : (("less" : Str) = "add") = False := eq_false (by decide)
theorem ne_less_sub : (("less" : Str) = "sub") = False := eq_false (by decide)
theorem ne_less_mul : (("less" : Str) = "mul") = False := eq_false (by decide)
theorem ne_less_and : (("less" : Str) = "and") = False := eq_false (by decide)
theorem ne_less_or : (("less" : Str) = "or") = False := eq_false (by decide)
theorem ne_less_xor : (("less" : Str) = "xor") = False := eq_false (by decide)
theorem ne_less_shl : (("less" : Str) = "shl") = False := eq_false (by decide)
theorem ne_less_shr : (("less" : Str) = "shr") = False := eq_false (by decide)
theorem ne_less_equal : (("less" : Str) = "equal") = False := eq_false (by decide)
theorem ne_less_not : (("less" : Str) = "not") = False := eq_false (by decide)
theorem ne_less_neg : (("less" : Str) = "neg") = False := eq_false (by decide)
theorem ne_less_int : (("less" : Str) = "int") = False := eq_false (by decide)
theorem ne_less_var : (("less" : Str) = "var") = False := eq_false (by decide)
theorem ne_less_load : (("less" : Str) = "load") = False := eq_false (by decide)
theorem ne_less_set : (("less" : Str) = "set") = False := eq_false (by decide)
theorem ne_less_write : (("less" : Str) = "write") = False := eq_false (by decide)
theorem ne_less_store : (("less" : Str) = "store") = False := eq_false (by decide)
theorem ne_less_go : (("less" : Str) = "go") = False := eq_false (by decide)
theorem ne_less_if : (("less" : Str) = "if") = False := eq_false (by decide)
theorem ne_less_return : (("less" : Str) = "return") = False := eq_false (by decide)
theorem ne_less_none : (("less" : Str) = "none") = False := eq_false (by decide)
theorem ne_equal_add : (("equal" : Str) = "add") = False := eq_false (by decide)
theorem ne_equal_sub : (("equal" : Str) = "sub") = False := eq_false (by decide)
theorem ne_equal_mul : (("equal" : Str) = "mul") = False := eq_false (by decide)
theorem ne_equal_and : (("equal" : Str) = "and") = False := eq_false (by decide)
theorem ne_equal_or : (("equal" : Str) = "or") = False := eq_false (by decide)
theorem ne_equal_xor : (("equal" : Str) = "xor") = False := eq_false (by decide)
theorem ne_equal_shl : (("equal" : Str) = "shl") = False := eq_false (by decide)
theorem ne_equal_shr : (("equal" : Str) = "shr") = False := eq_false (by decide)
theorem ne_equal_less : (("equal" : Str) = "less") = False := eq_false (by decide)
theorem ne_equal_not : (("equal" : Str) = "not") = False := eq_false (by decide)
theorem ne_equal_neg : (("equal" : Str) = "neg") = False := eq_false (by decide)
theorem ne_equal_int : (("equal" : Str) = "int") = False := eq_false (by decide)
theorem ne_equal_var : (("equal" : Str) = "var") = False := eq_false (by decide)
theorem ne_equal_load : (("equal" : Str) = "load") = False := eq_false (by decide)
theorem ne_equal_set : (("equal" : Str) = "set") = False := eq_false (by decide)
theorem ne_equal_write : (("equal" : Str) = "write") = False := eq_false (by decide)
theorem ne_equal_store : (("equal" : Str) = "store") = False := eq_false (by decide)
theorem ne_equal_go : (("equal" : Str) = "go") = False := eq_false (by decide)
theorem ne_equal_if : (("equal" : Str) = "if") = False := eq_false (by decide)
theorem ne_equal_return : (("equal" : Str) = "return") = False := eq_false (by decide)
theorem ne_equal_none : (("equal" : Str) = "none") = False := eq_false (by decide)
theorem ne_not_add : (("not" : Str) = "add") = False := eq_false (by decide)
theorem ne_not_sub : (("not" : Str) = "sub") = False := eq_false (by decide)
theorem ne_not_mul : (("not" : Str) = "mul") = False := eq_false (by decide)
theorem ne_not_and : (("not" : Str) = "and") = False := eq_false (by decide)
theorem ne_not_or : (("not" : Str) = "or") = False := eq_false (by decide)
theorem ne_not_xor : (("not" : Str) = "xor") = False := eq_false (by decide)
theorem ne_not_shl : (("not" : Str) = "shl") = False := eq_false (by decide)
theorem ne_not_shr : (("not" : Str) = "shr") = False := eq_false (by decide)
theorem ne_not_less : (("not" : Str) = "less") = False := eq_false (by decide)
theorem ne_not_equal : (("not" : Str) = "equal") = False := eq_false (by decide)
theorem ne_not_neg : (("not" : Str) = "neg") = False := eq_false (by decide)
theorem ne_not_int : (("not" : Str) = "int") = False := eq_false (by decide)
theorem ne_not_var : (("not" : Str) = "var") = False := eq_false (by decide)
theorem ne_not_load : (("not" : Str) = "load") = False := eq_false (by decide)
theorem ne_not_set : (("not" : Str) = "set") = False := eq_false (by decide)
theorem ne_not_write : (("not" : Str) = "write") = False := eq_false (by decide)
theorem ne_not_store : (("not" : Str) = "store") = False := eq_false (by decide)
theorem ne_not_go : (("not" : Str) = "go") = False := eq_false (by decide)
theorem ne_not_if : (("not" : Str) = "if") = False := eq_false (by decide)
theorem ne_not_return : (("not" : Str) = "return") = False := eq_false (by decide)
theorem ne_not_none : (("not" : Str) = "none") = False := eq_false (by decide)
theorem ne_neg_add : (("neg" : Str) = "add") = False := eq_false (by decide)
theorem ne_neg_sub : (("neg" : Str) = "sub") = False := eq_false (by decide)
theorem ne_neg_mul : (("neg" : Str) = "mul") = False := eq_false (by decide)
theorem ne_neg_and : (("neg" : Str) = "and") = False := eq_false (by decide)
theorem ne_neg_or : (("neg" : Str) = "or") = False := eq_false (by decide)
theorem ne_neg_xor : (("neg" : Str) = "xor") = False := eq_false (by decide)
theorem ne_neg_shl : (("neg" : Str) = "shl") = False := eq_false (by decide)
theorem ne_neg_shr : (("neg" : Str) = "shr") = False := eq_false (by decide)
theorem ne_neg_less : (("neg" : Str) = "less") = False := eq_false (by decide)
theorem ne_neg_equal : (("neg" : Str) = "equal") = False := eq_false (by decide)
theorem ne_neg_not : (("neg" : Str) = "not") = False := eq_false (by decide)
theorem ne_neg_int : (("neg" : Str) = "int") = False := eq_false (by decide)
theorem ne_neg_var : (("neg" : Str) = "var") = False := eq_false (by decide)
theorem ne_neg_load : (("neg" : Str) = "load") = False := eq_false (by decide)
theorem ne_neg_set : (("neg" : Str) = "set") = False := eq_false (by decide)
theorem ne_neg_write : (("neg" : Str) = "write") = False := eq_false (by decide)
theorem ne_neg_store : (("neg" : Str) = "store") = False := eq_false (by decide)
theorem ne_neg_go : (("neg" : Str) = "go") = False := eq_false (by decide)
theorem ne_neg_if : (("neg" : Str) = "if") = False := eq_false (by decide)
theorem ne_neg_return : (("neg" : Str) = "return") = False := eq_false (by decide)
theorem ne_neg_none : (("neg" : Str) = "none") = False := eq_false (by decide)
theorem ne_int_add : (("int" : Str) = "add") = False := eq_false (by decide)
theorem ne_int_sub : (("int" : Str) = "sub") = False := eq_false (by decide)
theorem ne_int_mul : (("int" : Str) = "mul") = False := eq_false (by decide)
theorem ne_int_and : (("int" : Str) = "and") = False := eq_false (by decide)
theorem ne_int_or : (("int" : Str) = "or") = False := eq_false (by decide)
theorem ne_int_xor : (("int" : Str) = "xor") = False := eq_false (by decide)
theorem ne_int_shl : (("int" : Str) = "shl") = False := eq_false (by decide)
theorem ne_int_shr : (("int" : Str) = "shr") = False := eq_false (by decide)
theorem ne_int_less : (("int" : Str) = "less") = False := eq_false (by decide)
theorem ne_int_equal : (("int" : Str) = "equal") = False := eq_false (by decide)
theorem ne_int_not : (("int" : Str) = "not") = False := eq_false (by decide)
theorem ne_int_neg : (("int" : Str) = "neg") = False := eq_false (by decide)
theorem ne_int_var : (("int" : Str) = "var") = False := eq_false (by decide)
theorem ne_int_load : (("int" : Str) = "load") = False := eq_false (by decide)
theorem ne_int_set : (("int" : Str) = "set") = False := eq_false (by decide)
theorem ne_int_write : (("int" : Str) = "write") = False := eq_false (by decide)
theorem ne_int_store : (("int" : Str) = "store") = False := eq_false (by decide)
theorem ne_int_go : (("int" : Str) = "go") = False := eq_false (by decide)
theorem ne_int_if : (("int" : Str) = "if") = False := eq_false (by decide)
theorem ne_int_return : (("int" : Str) = "return") = False := eq_false (by decide)
theorem ne_int_none : (("int" : Str) = "none") = False := eq_false (by decide)
theorem ne_var_add : (("var" : Str) = "add") = False := eq_false (by decide)
theorem ne_var_sub : (("var" : Str) = "sub") = False := eq_false (by decide)
theorem ne_var_mul : (("var" : Str) = "mul") = False := eq_false (by decide)
theorem ne_var_and : (("var" : Str) = "and") = False := eq_false (by decide)
theorem ne_var_or : (("var" : Str) = "or") = False := eq_false (by decide)
theorem ne_var_xor : (("var" : Str) = "xor") = False := eq_false (by decide)
theorem ne_var_shl : (("var" : Str) = "shl") = False := eq_false (by decide)
theorem ne_var_shr : (("var" : Str) = "shr") = False := eq_false (by decide)
theorem ne_var_less : (("var" : Str) = "less") = False := eq_false (by decide)
theorem ne_var_equal : (("var" : Str) = "equal") = False := eq_false (by decide)
theorem ne_var_not : (("var" : Str) = "not") = False := eq_false (by decide)
theorem ne_var_neg : (("var" : Str) = "neg") = False := eq_false (by decide)
theorem ne_var_int : (("var" : Str) = "int") = False := eq_false (by decide)
theorem ne_var_load : (("var" : Str) = "load") = False := eq_false (by decide)
theorem ne_var_set : (("var" : Str) = "set") = False := eq_false (by decide)
theorem ne_var_write : (("var" : Str) = "write") = False := eq_false (by decide)
theorem ne_var_store : (("var" : Str) = "store") = False := eq_false (by decide)
theorem ne_var_go : (("var" : Str) = "go") = False := eq_false (by decide)
theorem ne_var_if : (("var" : Str) = "if") = False := eq_false (by decide)
theorem ne_var_return : (("var" : Str) = "return") = False := eq_false (by decide)
theorem ne_var_none : (("var" : Str) = "none") = False := eq_false (by decide)
theorem ne_load_add : (("load" : Str) = "add") = False := eq_false (by decide)
theorem ne_load_sub : (("load" : Str) = "sub") = False := eq_false (by decide)
theorem ne_load_mul : (("load" : Str) = "mul") = False := eq_false (by decide)
theorem ne_load_and : (("load" : Str) = "and") = False := eq_false (by decide)
theorem ne_load_or : (("load" : Str) = "or") = False := eq_false (by decide)
theorem ne_load_xor : (("load" : Str) = "xor") = False := eq_false (by decide)
theorem ne_load_shl : (("load" : Str) = "shl") = False := eq_false (by decide)
theorem ne_load_shr : (("load" : Str) = "shr") = False := eq_false (by decide)
theorem ne_load_less : (("load" : Str) = "less") = False := eq_false (by decide)
theorem ne_load_equal : (("load" : Str) = "equal") = False := eq_false (by decide)
theorem ne_load_not : (("load" : Str) = "not") = False := eq_false (by decide)
theorem ne_load_neg : (("load" : Str) = "neg") = False := eq_false (by decide)
theorem ne_load_int : (("load" : Str) = "int") = False := eq_false (by decide)
theorem ne_load_var : (("load" : Str) = "var") = False := eq_false (by decide)
theorem ne_load_set : (("load" : Str) = "set") = False := eq_false (by decide)
theorem ne_load_write : (("load" : Str) = "write") = False := eq_false (by decide)
theorem ne_load_store : (("load" : Str) = "store") = False := eq_false (by decide)
theorem ne_load_go : (("load" : Str) = "go") = False := eq_false (by decide)
theorem ne_load_if : (("load" : Str) = "if") = False := eq_false (by decide)
theorem ne_load_return : (("load" : Str) = "return") = False := eq_false (by decide)
theorem ne_load_none : (("load" : Str) = "none") = False := eq_false (by decide)
theorem ne_set_add : (("set" : Str) = "add") = False := eq_false (by decide)
theorem ne_set_sub : (("set" : Str) = "sub") = False := eq_false (by decide)
theorem ne_set_mul : (("set" : Str) = "mul") = False := eq_false (by decide)
theorem ne_set_and : (("set" : Str) = "and") = False := eq_false (by decide)
theorem ne_set_or : (("set" : Str) = "or") = False := eq_false (by decide)
theorem ne_set_xor : (("set" : Str) = "xor") = False := eq_false (by decide)
theorem ne_set_shl : (("set" : Str) = "shl") = False := eq_false (by decide)
theorem ne_set_shr : (("set" : Str) = "shr") = False := eq_false (by decide)
theorem ne_set_less : (("set" : Str) = "less") = False := eq_false (by decide)
theorem ne_set_equal : (("set" : Str) = "equal") = False := eq_false (by decide)
theorem ne_set_not : (("set" : Str) = "not") = False := eq_false (by decide)
theorem ne_set_neg : (("set" : Str) = "neg") = False := eq_false (by decide)
theorem ne_set_int : (("set" : Str) = "int") = False := eq_false (by decide)
theorem ne_set_var : (("set" : Str) = "var") = False := eq_false (by decide)
theorem ne_set_load : (("set" : Str) = "load") = False := eq_false (by decide)
theorem ne_set_write : (("set" : Str) = "write") = False := eq_false (by decide)
theorem ne_set_store : (("set" : Str) = "store") = False := eq_false (by decide)
theorem ne_set_go : (("set" : Str) = "go") = False := eq_false (by decide)
theorem ne_set_if : (("set" : Str) = "if") = False := eq_false (by decide)
theorem ne_set_return : (("set" : Str) = "return") = False := eq_false (by decide)
theorem ne_set_none : (("set" : Str) = "none") = False := eq_false (by decide)
theorem ne_write_add : (("write" : Str) = "add") = False := eq_false (by decide)
theorem ne_write_sub : (("write" : Str) = "sub") = False := eq_false (by decide)
theorem ne_write_mul : (("write" : Str) = "mul") = False := eq_false (by decide)
theorem ne_write_and : (("write" : Str) = "and") = False := eq_false (by decide)
theorem ne_write_or : (("write" : Str) = "or") = False := eq_false (by decide)
theorem ne_write_xor : (("write" : Str) = "xor") = False := eq_false (by decide)
theorem ne_write_shl : (("write" : Str) = "shl") = False := eq_false (by decide)
theorem ne_write_shr : (("write" : Str) = "shr") = False := eq_false (by decide)
theorem ne_write_less : (("write" : Str) = "less") = False := eq_false (by decide)
theorem ne_write_equal : (("write" : Str) = "equal") = False := eq_false (by decide)
theorem ne_write_not : (("write" : Str) = "not") = False := eq_false (by decide)
theorem ne_write_neg : (("write" : Str) = "neg") = False := eq_false (by decide)
theorem ne_write_int : (("write" : Str) = "int") = False := eq_false (by decide)
theorem ne_write_var : (("write" : Str) = "var") = False := eq_false (by decide)
theorem ne_write_load : (("write" : Str) = "load") = False := eq_false (by decide)
theorem ne_write_set : (("write" : Str) = "set") = False := eq_false (by decide)
theorem ne_write_store : (("write" : Str) = "store") = False := eq_false (by decide)
theorem ne_write_go : (("write" : Str) = "go") = False := eq_false (by decide)
theorem ne_write_if : (("write" : Str) = "if") = False := eq_false (by decide)
theorem ne_write_return : (("write" : Str) = "return") = False := eq_false (by decide)
theorem ne_write_none : (("write" : Str) = "none") = False := eq_false (by decide)
theorem ne_store_add : (("store" : Str) = "add") = False := eq_false (by decide)
theorem ne_store_sub : (("store" : Str) = "sub") = False := eq_false (by decide)
theorem ne_store_mul : (("store" : Str) = "mul") = False := eq_false (by decide)
theorem ne_store_and : (("store" : Str) = "and") = False := eq_false (by decide)
theorem ne_store_or : (("store" : Str) = "or") = False := eq_false (by decide)
theorem ne_store_xor : (("store" : Str) = "xor") = False := eq_false (by decide)
theorem ne_store_shl : (("store" : Str) = "shl") = False := eq_false (by decide)
theorem ne_store_shr : (("store" : Str) = "shr") = False := eq_false (by decide)
theorem ne_store_less : (("store" : Str) = "less") = False := eq_false (by decide)
theorem ne_store_equal : (("store" : Str) = "equal") = False := eq_false (by decide)
theorem ne_store_not : (("store" : Str) = "not") = False := eq_false (by decide)
theorem ne_store_neg : (("store" : Str) = "neg") = False := eq_false (by decide)
theorem ne_store_int : (("store" : Str) = "int") = False := eq_false (by decide)
theorem ne_store_var : (("store" : Str) = "var") = False := eq_false (by decide)
theorem ne_store_load : (("store" : Str) = "load") = False := eq_false (by decide)
theorem ne_store_set : (("store" : Str) = "set") = False := eq_false (by decide)
theorem ne_store_write : (("store" : Str) = "write") = False := eq_false (by decide)
theorem ne_store_go : (("store" : Str) = "go") = False := eq_false (by decide)
theorem ne_store_if : (("store" : Str) = "if") = False := eq_false (by decide)
theorem ne_store_return : (("store" : Str) = "return") = False := eq_false (by decide)
theorem ne_store_none : (("store" : Str) = "none") = False := eq_false (by decide)
theorem ne_go_add : (("go" : Str) = "add") = False := eq_false (by decide)
theorem ne_go_sub : (("go" : Str) = "sub") = False := eq_false (by decide)
theorem ne_go_mul : (("go" : Str) = "mul") = False := eq_false (by decide)
theorem ne_go_and : (("go" : Str) = "and") = False := eq_false (by decide)
theorem ne_go_or : (("go" : Str) = "or") = False := eq_false (by decide)
theorem ne_go_xor : (("go" : Str) = "xor") = False := eq_false (by decide)
theorem ne_go_shl : (("go" : Str) = "shl") = False := eq_false (by decide)
theorem ne_go_shr : (("go" : Str) = "shr") = False := eq_false (by decide)
theorem ne_go_less : (("go" : Str) = "less") = False := eq_false (by decide)
theorem ne_go_equal : (("go" : Str) = "equal") = False := eq_false (by decide)
theorem ne_go_not : (("go" : Str) = "not") = False := eq_false (by decide)
theorem ne_go_neg : (("go" : Str) = "neg") = False := eq_false (by decide)
theorem ne_go_int : (("go" : Str) = "int") = False := eq_false (by decide)
theorem ne_go_var : (("go" : Str) = "var") = False := eq_false (by decide)
theorem ne_go_load : (("go" : Str) = "load") = False := eq_false (by decide)
theorem ne_go_set : (("go" : Str) = "set") = False := eq_false (by decide)
theorem ne_go_write : (("go" : Str) = "write") = False := eq_false (by decide)
theorem ne_go_store : (("go" : Str) = "store") = False := eq_false (by decide)
theorem ne_go_if : (("go" : Str) = "if") = False := eq_false (by decide)
theorem ne_go_return : (("go" : Str) = "return") = False := eq_false (by decide)
theorem ne_go_none : (("go" : Str) = "none") = False := eq_false (by decide)
theorem ne_if_add : (("if" : Str) = "add") = False := eq_false (by decide)
theorem ne_if_sub : (("if" : Str) = "sub") = False := eq_false (by decide)
theorem ne_if_mul : (("if" : Str) = "mul") = False := eq_false (by decide)
theorem ne_if_and : (("if" : Str) = "and") = False := eq_false (by decide)
theorem ne_if_or : (("if" : Str) = "or") = False := eq_false (by decide)
theorem ne_if_xor : (("if" : Str) = "xor") = False := eq_false (by decide)
theorem ne_if_shl : (("if" : Str) = "shl") = False := eq_false (by decide)
theorem ne_if_shr : (("if" : Str) = "shr") = False := eq_false (by decide)
theorem ne_if_less : (("if" : Str) = "less") = False := eq_false (by decide)
theorem ne_if_equal : (("if" : Str) = "equal") = False := eq_false (by decide)
theorem ne_if_not : (("if" : Str) = "not") = False := eq_false (by decide)
theorem ne_if_neg : (("if" : Str) = "neg") = False := eq_false (by decide)
theorem ne_if_int : (("if" : Str) = "int") = False := eq_false (by decide)
theorem ne_if_var : (("if" : Str) = "var") = False := eq_false (by decide)
theorem ne_if_load : (("if" : Str) = "load") = False := eq_false (by decide)
theorem ne_if_set : (("if" : Str) = "set") = False := eq_false (by decide)
theorem ne_if_write : (("if" : Str) = "write") = False := eq_false (by decide)
theorem ne_if_store : (("if" : Str) = "store") = False := eq_false (by decide)
theorem ne_if_go : (("if" : Str) = "go") = False := eq_false (by decide)
theorem ne_if_return : (("if" : Str) = "return") = False := eq_false (by decide)
theorem ne_if_none : (("if" : Str) = "none") = False := eq_false (by decide)
theorem ne_return_add : (("return" : Str) = "add") = False := eq_false (by decide)
theorem ne_return_sub : (("return" : Str) = "sub") = False := eq_false (by decide)
theorem ne_return_mul : (("return" : Str) = "mul") = False := eq_false (by decide)
theorem ne_return_and : (("return" : Str) = "and") = False := eq_false (by decide)
theorem ne_return_or : (("return" : Str) = "or") = False := eq_false (by decide)
theorem ne_return_xor : (("return" : Str) = "xor") = False := eq_false (by decide)
theorem ne_return_shl : (("return" : Str) = "shl") = False := eq_false (by decide)
theorem ne_return_shr : (("return" : Str) = "shr") = False := eq_false (by decide)
theorem ne_return_less : (("return" : Str) = "less") = False := eq_false (by decide)
theorem ne_return_equal : (("return" : Str) = "equal") = False := eq_false (by decide)
theorem ne_return_not : (("return" : Str) = "not") = False := eq_false (by decide)
theorem ne_return_neg : (("return" : Str) = "neg") = False := eq_false (by decide)
theorem ne_return_int : (("return" : Str) = "int") = False := eq_false (by decide)
theorem ne_return_var : (("return" : Str) = "var") = False := eq_false (by decide)
theorem ne_return_load : (("return" : Str) = "load") = False := eq_false (by decide)
theorem ne_return_set : (("return" : Str) = "set") = False := eq_false (by decide)
theorem ne_return_write : (("return" : Str) = "write") = False := eq_false (by decide)
theorem ne_return_store : (("return" : Str) = "store") = False := eq_false (by decide)
theorem ne_return_go : (("return" : Str) = "go") = False := eq_false (by decide)
theorem ne_return_if : (("return" : Str) = "if") = False := eq_false (by decide)
theorem ne_return_none : (("return" : Str) = "none") = False := eq_false (by decide)
theorem ne_none_add : (("none" : Str) = "add") = False := eq_false (by decide)
theorem ne_none_sub : (("none" : Str) = "sub") = False := eq_false (by decide)
theorem ne_none_mul : (("none" : Str) = "mul") = False := eq_false (by decide)
theorem ne_none_and : (("none" : Str) = "and") = False := eq_false (by decide)
theorem ne_none_or : (("none" : Str) = "or") = False := eq_false (by decide)
theorem ne_none_xor : (("none" : Str) = "xor") = False := eq_false (by decide)
theorem ne_none_shl : (("none" : Str) = "shl") = False := eq_false (by decide)
theorem ne_none_shr : (("none" : Str) = "shr") = False := eq_false (by decide)
theorem ne_none_less : (("none" : Str) = "less") = False := eq_false (by decide)
theorem ne_none_equal : (("none" : Str) = "equal") = False := eq_false (by decide)
theorem ne_none_not : (("none" : Str) = "not") = False := eq_false (by decide)
theorem ne_none_neg : (("none" : Str) = "neg") = False := eq_false (by decide)
theorem ne_none_int : (("none" : Str) = "int") = False := eq_false (by decide)
theorem ne_none_var : (("none" : Str) = "var") = False := eq_false (by decide)
theorem ne_none_load : (("none" : Str) = "load") = False := eq_false (by decide)
theorem ne_none_set : (("none" : Str) = "set") = False := eq_false (by decide)
theorem ne_none_write : (("none" : Str) = "write") = False := eq_false (by decide)
theorem ne_none_store : (("none" : Str) = "store") = False := eq_false (by decide)
theorem ne_none_go : (("none" : Str) = "go") = False := eq_false (by decide)
theorem ne_none_if : (("none" : Str) = "if") = False := eq_false (by decide)
theorem ne_none_return : (("none" : Str) = "return") = False := eq_false (by decide)
end MP

set_option Elab.async false
set_option linter.all false
set_option maxRecDepth 100000
set_option maxHeartbeats 4000000
namespace Lw
open PySem PySem.Spec PyProof.Rows L2 MP
def top (i : Nat) : Stmt := PySem.Challenge.pw_leasttiles_k03_runs_of_functions.main.body.getD i (.Pass ⟨0, 0, 0, 0⟩)
def inCls : Stmt → Nat → Stmt
  | .ClassDef _ _ _ b _ _ _ _ _ _ _, j => b.getD j (.Pass ⟨0, 0, 0, 0⟩)
  | s, _ => s
/-! top(w): w 0 -/
def b_top : Ss :=
    (.cons (.ret (.bin .Sub (.bin .LShift (.int 1) (.var 0)) (.int 1)))
    .nil)
def d_top : Df := ⟨1, 1, b_top, none⟩
abbrev s_top : Stmt := top 1
/-! shifted(op, w, x, y): op 0 w 1 x 2 y 3 -/
def b_shifted : Ss :=
    (.cons (.ite (.cmp .GtE (.var 3) (.var 1)) (.cons (.ret (.int 0))
    .nil) .nil)
    (.cons (.ret (.ite (.cmp .Eq (.var 0) (.str "shl")) (.bin .BitAnd (.bin .LShift (.var 2) (.var 3)) (.call "top" (.cons (.var 1) .nil))) (.bin .RShift (.var 2) (.var 3))))
    .nil))
def d_shifted : Df := ⟨4, 4, b_shifted, none⟩
abbrev s_shifted : Stmt := top 2
/-! compute(op, w, x, y): op 0 w 1 x 2 y 3 -/
def b_compute : Ss :=
    (.cons (.ite (.cmp .Eq (.var 0) (.str "add")) (.cons (.ret (.bin .BitAnd (.bin .Add (.var 2) (.var 3)) (.call "top" (.cons (.var 1) .nil))))
    .nil) .nil)
    (.cons (.ite (.cmp .Eq (.var 0) (.str "sub")) (.cons (.ret (.bin .BitAnd (.bin .Sub (.var 2) (.var 3)) (.call "top" (.cons (.var 1) .nil))))
    .nil) .nil)
    (.cons (.ite (.cmp .Eq (.var 0) (.str "mul")) (.cons (.ret (.bin .BitAnd (.bin .Mult (.var 2) (.var 3)) (.call "top" (.cons (.var 1) .nil))))
    .nil) .nil)
    (.cons (.ite (.cmp .Eq (.var 0) (.str "and")) (.cons (.ret (.bin .BitAnd (.var 2) (.var 3)))
    .nil) .nil)
    (.cons (.ite (.cmp .Eq (.var 0) (.str "or")) (.cons (.ret (.bin .BitOr (.var 2) (.var 3)))
    .nil) .nil)
    (.cons (.ite (.cmp .Eq (.var 0) (.str "xor")) (.cons (.ret (.bin .BitXor (.var 2) (.var 3)))
    .nil) .nil)
    (.cons (.ite (.cmp .In (.var 0) (.tup (.cons (.str "shl") (.cons (.str "shr") .nil)))) (.cons (.ret (.call "shifted" (.cons (.var 0) (.cons (.var 1) (.cons (.var 2) (.cons (.var 3) .nil))))))
    .nil) .nil)
    (.cons (.ite (.cmp .Eq (.var 0) (.str "less")) (.cons (.ret (.ite (.cmp .Lt (.var 2) (.var 3)) (.int 1) (.int 0)))
    .nil) .nil)
    (.cons (.ite (.cmp .Eq (.var 0) (.str "equal")) (.cons (.ret (.ite (.cmp .Eq (.var 2) (.var 3)) (.int 1) (.int 0)))
    .nil) .nil)
    (.cons (.ite (.cmp .Eq (.var 0) (.str "not")) (.cons (.ret (.bin .Sub (.call "top" (.cons (.var 1) .nil)) (.var 2)))
    .nil) .nil)
    (.cons (.ret (.bin .BitAnd (.neg (.var 2)) (.call "top" (.cons (.var 1) .nil))))
    .nil)))))))))))
def d_compute : Df := ⟨4, 4, b_compute, none⟩
abbrev s_compute : Stmt := top 3
/-! Runner.__init__(self, function, inputs): self 0 function 1 inputs 2 k 3 block 4 -/
def b_Runner___init__ : Ss :=
    (.cons (.sfld "Runner" (.var 0) "width" (.sub (.var 1) (.int 0)))
    (.cons (.sfld "Runner" (.var 0) "blocks" (.dc (.sub (.var 4) (.int 0)) (.var 4) (.nm 4) (.ex (.sub (.var 1) (.int 2))) .nil [4]))
    (.cons (.sfld "Runner" (.var 0) "variables" (.dic .nil))
    (.cons (.frr (.nm 3) (.rng (.cons (.bi .len (.cons (.var 2) .nil)) .nil)) (.cons (.asg (.sub (.fld "Runner" (.var 0) "variables") (.var 3)) (.sub (.var 2) (.var 3)))
    .nil))
    (.cons (.sfld "Runner" (.var 0) "memory" (.bin .Mult (.lst (.cons (.int 0) .nil)) (.int 16)))
    (.cons (.sfld "Runner" (.var 0) "writes" (.lst .nil))
    (.cons (.sfld "Runner" (.var 0) "label" (.sub (.sub (.sub (.var 1) (.int 2)) (.int 0)) (.int 0)))
    (.cons (.sfld "Runner" (.var 0) "ending" (.tup (.cons (.str "none") .nil)))
    (.cons (.sfld "Runner" (.var 0) "steps" (.int 0))
    .nil)))))))))
def d_Runner___init__ : Df := ⟨3, 5, b_Runner___init__, none⟩
abbrev s_Runner___init__ : Stmt := inCls (top 5) 0
/-! Runner.value(self, e): self 0 e 1 word 2 -/
def b_Runner_value : Ss :=
    (.cons (.asg (.nm 2) (.sub (.var 1) (.int 0)))
    (.cons (.ite (.cmp .Eq (.var 2) (.str "int")) (.cons (.ret (.sub (.var 1) (.int 1)))
    .nil) .nil)
    (.cons (.ite (.cmp .Eq (.var 2) (.str "var")) (.cons (.ret (.mt .get (.fld "Runner" (.var 0) "variables") (.cons (.sub (.var 1) (.int 1)) (.cons (.int 0) .nil))))
    .nil) .nil)
    (.cons (.ite (.cmp .Eq (.var 2) (.str "load")) (.cons (.ret (.sub (.fld "Runner" (.var 0) "memory") (.bin .BitAnd (.um "Runner" "Runner.value" "value" (.var 0) (.cons (.sub (.var 1) (.int 1)) .nil)) (.int 15))))
    .nil) .nil)
    (.cons (.ret (.call "compute" (.cons (.var 2) (.cons (.fld "Runner" (.var 0) "width") (.cons (.um "Runner" "Runner.value" "value" (.var 0) (.cons (.sub (.var 1) (.int 1)) .nil)) (.cons (.ite (.cmp .Eq (.bi .len (.cons (.var 1) .nil)) (.int 3)) (.um "Runner" "Runner.value" "value" (.var 0) (.cons (.sub (.var 1) (.int 2)) .nil)) (.int 0)) .nil))))))
    .nil)))))
def d_Runner_value : Df := ⟨2, 3, b_Runner_value, none⟩
abbrev s_Runner_value : Stmt := inCls (top 5) 1
/-! Runner.statement(self, statement): self 0 statement 1 at 2 -/
def b_Runner_statement : Ss :=
    (.cons (.ite (.cmp .Eq (.sub (.var 1) (.int 0)) (.str "set")) (.cons (.asg (.sub (.fld "Runner" (.var 0) "variables") (.sub (.var 1) (.int 1))) (.um "Runner" "Runner.value" "value" (.var 0) (.cons (.sub (.var 1) (.int 2)) .nil)))
    .nil) (.cons (.ite (.cmp .Eq (.sub (.var 1) (.int 0)) (.str "write")) (.cons (.ex (.mt .append (.fld "Runner" (.var 0) "writes") (.cons (.um "Runner" "Runner.value" "value" (.var 0) (.cons (.sub (.var 1) (.int 1)) .nil)) .nil)))
    .nil) (.cons (.asg (.nm 2) (.bin .BitAnd (.um "Runner" "Runner.value" "value" (.var 0) (.cons (.sub (.var 1) (.int 1)) .nil)) (.int 15)))
    (.cons (.asg (.sub (.fld "Runner" (.var 0) "memory") (.var 2)) (.um "Runner" "Runner.value" "value" (.var 0) (.cons (.sub (.var 1) (.int 2)) .nil)))
    .nil)))
    .nil))
    .nil)
def d_Runner_statement : Df := ⟨2, 3, b_Runner_statement, none⟩
abbrev s_Runner_statement : Stmt := inCls (top 5) 2
/-! Runner.block(self): self 0 block 1 statement 2 end 3 -/
def b_Runner_block : Ss :=
    (.cons (.asg (.nm 1) (.sub (.fld "Runner" (.var 0) "blocks") (.fld "Runner" (.var 0) "label")))
    (.cons (.augF "Runner" (.var 0) "steps" .Add (.int 1))
    (.cons (.frr (.nm 2) (.ex (.sub (.var 1) (.int 1))) (.cons (.ex (.um "Runner" "Runner.statement" "statement" (.var 0) (.cons (.var 2) .nil)))
    .nil))
    (.cons (.asg (.nm 3) (.sub (.var 1) (.int 2)))
    (.cons (.ite (.cmp .Eq (.sub (.var 3) (.int 0)) (.str "go")) (.cons (.sfld "Runner" (.var 0) "label" (.sub (.var 3) (.int 1)))
    .nil) (.cons (.ite (.cmp .Eq (.sub (.var 3) (.int 0)) (.str "if")) (.cons (.sfld "Runner" (.var 0) "label" (.ite (.cmp .Eq (.um "Runner" "Runner.value" "value" (.var 0) (.cons (.sub (.var 3) (.int 1)) .nil)) (.int 0)) (.sub (.var 3) (.int 3)) (.sub (.var 3) (.int 2))))
    .nil) (.cons (.sfld "Runner" (.var 0) "ending" (.tup (.cons (.str "return") (.cons (.um "Runner" "Runner.value" "value" (.var 0) (.cons (.sub (.var 3) (.int 1)) .nil)) .nil))))
    .nil))
    .nil))
    .nil)))))
def d_Runner_block : Df := ⟨1, 4, b_Runner_block, none⟩
abbrev s_Runner_block : Stmt := inCls (top 5) 3
/-! run(function, inputs, fuel): function 0 inputs 1 fuel 2 runner 3 -/
def b_run : Ss :=
    (.cons (.asg (.nm 3) (.mk "Runner" "Runner.__init__" (.cons (.var 0) (.cons (.var 1) .nil))))
    (.cons (.whl (.and (.cmp .Eq (.fld "Runner" (.var 3) "ending") (.tup (.cons (.str "none") .nil))) (.cmp .Lt (.fld "Runner" (.var 3) "steps") (.var 2))) (.cons (.ex (.um "Runner" "Runner.block" "block" (.var 3) .nil))
    .nil))
    (.cons (.ret (.tup (.cons (.fld "Runner" (.var 3) "writes") (.cons (.fld "Runner" (.var 3) "ending") (.cons (.fld "Runner" (.var 3) "steps") .nil)))))
    .nil)))
def d_run : Df := ⟨3, 4, b_run, none⟩
abbrev s_run : Stmt := top 6
/-! trace(function, inputs, fuel): function 0 inputs 1 fuel 2 runner 3 -/
def b_trace : Ys :=
    (.cons (.pl (.asg (.nm 3) (.mk "Runner" "Runner.__init__" (.cons (.var 0) (.cons (.var 1) .nil)))))
    (.cons (.whl (.and (.cmp .Eq (.fld "Runner" (.var 3) "ending") (.tup (.cons (.str "none") .nil))) (.cmp .Lt (.fld "Runner" (.var 3) "steps") (.var 2))) (.cons (.yld (.fld "Runner" (.var 3) "label"))
    (.cons (.pl (.ex (.um "Runner" "Runner.block" "block" (.var 3) .nil)))
    .nil)))
    .nil))
def d_trace : Df := ⟨3, 4, .nil, some b_trace⟩
abbrev s_trace : Stmt := top 7
/-! _law_draw(script): script 0 seed 1 cell 2 -/
def b__law_draw : Ss :=
    (.cons (.asg (.nm 1) (.int 7))
    (.cons (.frr (.nm 2) (.ex (.var 0)) (.cons (.asg (.nm 1) (.bin .Mod (.bi .int (.cons (.bin .Add (.bin .Add (.bin .Mult (.var 1) (.int 48271)) (.bin .Mod (.bi .abs (.cons (.bi .int (.cons (.var 2) .nil)) .nil)) (.int 65521))) (.int 1)) .nil)) (.int 2147483647)))
    .nil))
    (.cons (.ret (.lst (.cons (.lc (.bi .abs (.cons (.bi .int (.cons (.var 2) .nil)) .nil)) (.nm 2) (.ex (.var 0)) .nil [2]) (.cons (.neg (.int 1)) (.cons (.int 0) (.cons (.var 1) .nil))))))
    .nil)))
def d__law_draw : Df := ⟨1, 3, b__law_draw, none⟩
abbrev s__law_draw : Stmt := top 9
/-! _law_take(draw, many): draw 0 many 1 found 2 -/
def b__law_take : Ss :=
    (.cons (.ite (.cmp .Eq (.sub (.var 0) (.int 2)) (.int 0)) (.cons (.asg (.sub (.var 0) (.int 1)) (.bin .Add (.sub (.var 0) (.int 1)) (.int 1)))
    (.cons (.ite (.cmp .Lt (.sub (.var 0) (.int 1)) (.bi .len (.cons (.sub (.var 0) (.int 0)) .nil))) (.cons (.asg (.sub (.var 0) (.int 2)) (.sub (.sub (.var 0) (.int 0)) (.sub (.var 0) (.int 1))))
    .nil) .nil)
    (.cons (.ite (.cmp .Eq (.sub (.var 0) (.int 2)) (.int 0)) (.cons (.asg (.sub (.var 0) (.int 3)) (.bin .Mod (.bi .int (.cons (.bin .Add (.bin .Mult (.sub (.var 0) (.int 3)) (.int 48271)) (.int 11)) .nil)) (.int 2147483647)))
    (.cons (.asg (.sub (.var 0) (.int 2)) (.sub (.var 0) (.int 3)))
    .nil)) .nil)
    .nil))) .nil)
    (.cons (.asg (.nm 2) (.bin .Mod (.bi .int (.cons (.sub (.var 0) (.int 2)) .nil)) (.var 1)))
    (.cons (.asg (.sub (.var 0) (.int 2)) (.bin .FloorDiv (.sub (.var 0) (.int 2)) (.var 1)))
    (.cons (.ret (.var 2))
    .nil))))
def d__law_take : Df := ⟨2, 3, b__law_take, none⟩
abbrev s__law_take : Stmt := top 10
/-! _law_top(w): w 0 -/
def b__law_top : Ss :=
    (.cons (.ret (.bin .Sub (.bin .LShift (.int 1) (.var 0)) (.int 1)))
    .nil)
def d__law_top : Df := ⟨1, 1, b__law_top, none⟩
abbrev s__law_top : Stmt := top 11
/-! _law_compute(op, w, x, y): op 0 w 1 x 2 y 3 size 4 found 5 k 6 both 7 -/
def b__law_compute : Ss :=
    (.cons (.asg (.nm 4) (.bin .LShift (.int 1) (.var 1)))
    (.cons (.ite (.cmp .Eq (.var 0) (.str "add")) (.cons (.ret (.ite (.cmp .Lt (.bin .Add (.var 2) (.var 3)) (.var 4)) (.bin .Add (.var 2) (.var 3)) (.bin .Sub (.bin .Add (.var 2) (.var 3)) (.var 4))))
    .nil) .nil)
    (.cons (.ite (.cmp .Eq (.var 0) (.str "sub")) (.cons (.ret (.ite (.cmp .GtE (.var 2) (.var 3)) (.bin .Sub (.var 2) (.var 3)) (.bin .Add (.bin .Sub (.var 2) (.var 3)) (.var 4))))
    .nil) .nil)
    (.cons (.ite (.cmp .Eq (.var 0) (.str "mul")) (.cons (.ret (.bin .Sub (.bin .Mult (.var 2) (.var 3)) (.bin .Mult (.bin .FloorDiv (.bin .Mult (.var 2) (.var 3)) (.var 4)) (.var 4))))
    .nil) .nil)
    (.cons (.ite (.cmp .In (.var 0) (.lst (.cons (.str "and") (.cons (.str "or") (.cons (.str "xor") .nil))))) (.cons (.asg (.nm 5) (.int 0))
    (.cons (.frr (.nm 6) (.rng (.cons (.var 1) .nil)) (.cons (.asg (.nm 7) (.bin .Add (.bin .Mod (.bin .FloorDiv (.var 2) (.bin .LShift (.int 1) (.var 6))) (.int 2)) (.bin .Mod (.bin .FloorDiv (.var 3) (.bin .LShift (.int 1) (.var 6))) (.int 2))))
    (.cons (.ite (.or (.and (.cmp .Eq (.var 0) (.str "and")) (.cmp .Eq (.var 7) (.int 2))) (.or (.and (.cmp .Eq (.var 0) (.str "or")) (.cmp .Gt (.var 7) (.int 0))) (.and (.cmp .Eq (.var 0) (.str "xor")) (.cmp .Eq (.var 7) (.int 1))))) (.cons (.asg (.nm 5) (.bin .Add (.var 5) (.bin .LShift (.int 1) (.var 6))))
    .nil) .nil)
    .nil)))
    (.cons (.ret (.var 5))
    .nil))) .nil)
    (.cons (.ite (.cmp .Eq (.var 0) (.str "shl")) (.cons (.ret (.ite (.cmp .GtE (.var 3) (.var 1)) (.int 0) (.bin .Sub (.bin .Mult (.var 2) (.bin .LShift (.int 1) (.var 3))) (.bin .Mult (.bin .FloorDiv (.bin .Mult (.var 2) (.bin .LShift (.int 1) (.var 3))) (.var 4)) (.var 4)))))
    .nil) .nil)
    (.cons (.ite (.cmp .Eq (.var 0) (.str "shr")) (.cons (.ret (.ite (.cmp .GtE (.var 3) (.var 1)) (.int 0) (.bin .FloorDiv (.var 2) (.bin .LShift (.int 1) (.var 3)))))
    .nil) .nil)
    (.cons (.ite (.cmp .Eq (.var 0) (.str "less")) (.cons (.ret (.ite (.cmp .Lt (.var 2) (.var 3)) (.int 1) (.int 0)))
    .nil) .nil)
    (.cons (.ite (.cmp .Eq (.var 0) (.str "equal")) (.cons (.ret (.ite (.cmp .Eq (.var 2) (.var 3)) (.int 1) (.int 0)))
    .nil) .nil)
    (.cons (.ite (.cmp .Eq (.var 0) (.str "not")) (.cons (.ret (.bin .Sub (.bin .Sub (.var 4) (.int 1)) (.var 2)))
    .nil) .nil)
    (.cons (.ret (.ite (.cmp .Eq (.var 2) (.int 0)) (.int 0) (.bin .Sub (.var 4) (.var 2))))
    .nil)))))))))))
def d__law_compute : Df := ⟨4, 8, b__law_compute, none⟩
abbrev s__law_compute : Stmt := top 12
/-! _law_pairs():  -/
def b__law_pairs : Ss :=
    (.cons (.ret (.lst (.cons (.str "add") (.cons (.str "sub") (.cons (.str "mul") (.cons (.str "and") (.cons (.str "or") (.cons (.str "xor") (.cons (.str "shl") (.cons (.str "shr") (.cons (.str "less") (.cons (.str "equal") .nil))))))))))))
    .nil)
def d__law_pairs : Df := ⟨0, 0, b__law_pairs, none⟩
abbrev s__law_pairs : Stmt := top 13
/-! _law_word(draw, w): draw 0 w 1 k 2 -/
def b__law_word : Ss :=
    (.cons (.asg (.nm 2) (.call "_law_take" (.cons (.var 0) (.cons (.int 6) .nil))))
    (.cons (.ite (.cmp .Lt (.var 2) (.int 3)) (.cons (.ret (.bi .min (.cons (.sub (.lst (.cons (.int 0) (.cons (.int 1) (.cons (.int 5) .nil)))) (.var 2)) (.cons (.call "_law_top" (.cons (.var 1) .nil)) .nil))))
    .nil) .nil)
    (.cons (.ite (.cmp .Eq (.var 2) (.int 3)) (.cons (.ret (.call "_law_top" (.cons (.var 1) .nil)))
    .nil) .nil)
    (.cons (.ret (.bin .Mod (.bi .int (.cons (.call "_law_take" (.cons (.var 0) (.cons (.int 65536) .nil))) .nil)) (.bin .LShift (.int 1) (.var 1))))
    .nil))))
def d__law_word : Df := ⟨2, 3, b__law_word, none⟩
abbrev s__law_word : Stmt := top 14
/-! _law_expression(p, depth): p 0 depth 1 draw 2 k 3 op 4 -/
def b__law_expression : Ss :=
    (.cons (.asg (.nm 2) (.sub (.var 0) (.str "draw")))
    (.cons (.asg (.nm 3) (.call "_law_take" (.cons (.var 2) (.cons (.int 10) .nil))))
    (.cons (.ite (.or (.cmp .Eq (.var 1) (.int 0)) (.cmp .Lt (.var 3) (.int 4))) (.cons (.ite (.cmp .Eq (.call "_law_take" (.cons (.var 2) (.cons (.int 3) .nil))) (.int 0)) (.cons (.ret (.tup (.cons (.str "int") (.cons (.call "_law_word" (.cons (.var 2) (.cons (.sub (.var 0) (.str "width")) .nil))) .nil))))
    .nil) .nil)
    (.cons (.ret (.tup (.cons (.str "var") (.cons (.sub (.sub (.var 0) (.str "variables")) (.call "_law_take" (.cons (.var 2) (.cons (.bi .len (.cons (.sub (.var 0) (.str "variables")) .nil)) .nil)))) .nil))))
    .nil)) .nil)
    (.cons (.ite (.cmp .Eq (.var 3) (.int 4)) (.cons (.ret (.tup (.cons (.str "load") (.cons (.call "_law_expression" (.cons (.var 0) (.cons (.bin .Sub (.var 1) (.int 1)) .nil))) .nil))))
    .nil) .nil)
    (.cons (.ite (.cmp .Eq (.var 3) (.int 5)) (.cons (.ret (.tup (.cons (.sub (.lst (.cons (.str "not") (.cons (.str "neg") .nil))) (.call "_law_take" (.cons (.var 2) (.cons (.int 2) .nil)))) (.cons (.call "_law_expression" (.cons (.var 0) (.cons (.bin .Sub (.var 1) (.int 1)) .nil))) .nil))))
    .nil) .nil)
    (.cons (.asg (.nm 4) (.sub (.call "_law_pairs" .nil) (.sub (.lst (.cons (.int 0) (.cons (.int 0) (.cons (.int 1) (.cons (.int 2) (.cons (.int 3) (.cons (.int 4) (.cons (.int 5) (.cons (.int 6) (.cons (.int 7) (.cons (.int 8) (.cons (.int 9) (.cons (.int 0) .nil))))))))))))) (.call "_law_take" (.cons (.var 2) (.cons (.int 12) .nil))))))
    (.cons (.ret (.tup (.cons (.var 4) (.cons (.call "_law_expression" (.cons (.var 0) (.cons (.bin .Sub (.var 1) (.int 1)) .nil))) (.cons (.call "_law_expression" (.cons (.var 0) (.cons (.bin .Sub (.var 1) (.int 1)) .nil))) .nil)))))
    .nil)))))))
def d__law_expression : Df := ⟨2, 5, b__law_expression, none⟩
abbrev s__law_expression : Stmt := top 15
/-! _law_statement(p): p 0 draw 1 k 2 -/
def b__law_statement : Ss :=
    (.cons (.asg (.nm 1) (.sub (.var 0) (.str "draw")))
    (.cons (.asg (.nm 2) (.call "_law_take" (.cons (.var 1) (.cons (.int 8) .nil))))
    (.cons (.ite (.cmp .Lt (.var 2) (.int 5)) (.cons (.ret (.tup (.cons (.str "set") (.cons (.sub (.sub (.var 0) (.str "variables")) (.call "_law_take" (.cons (.var 1) (.cons (.bi .len (.cons (.sub (.var 0) (.str "variables")) .nil)) .nil)))) (.cons (.call "_law_expression" (.cons (.var 0) (.cons (.int 2) .nil))) .nil)))))
    .nil) .nil)
    (.cons (.ite (.cmp .Lt (.var 2) (.int 7)) (.cons (.ret (.tup (.cons (.str "write") (.cons (.call "_law_expression" (.cons (.var 0) (.cons (.int 2) .nil))) .nil))))
    .nil) .nil)
    (.cons (.ret (.tup (.cons (.str "store") (.cons (.call "_law_expression" (.cons (.var 0) (.cons (.int 1) .nil))) (.cons (.call "_law_expression" (.cons (.var 0) (.cons (.int 2) .nil))) .nil)))))
    .nil)))))
def d__law_statement : Df := ⟨1, 3, b__law_statement, none⟩
abbrev s__law_statement : Stmt := top 16
/-! _law_function(draw, blocks, most): draw 0 blocks 1 most 2 width 3 params 4 variables 5 p 6 count 7 labels 8 rows 9 k 10 body 11 what 12 later 13 end 14 other 15 j 16 -/
def b__law_function : Ss :=
    (.cons (.asg (.nm 3) (.sub (.lst (.cons (.int 1) (.cons (.int 2) (.cons (.int 3) (.cons (.int 4) (.cons (.int 8) (.cons (.int 16) (.cons (.bin .Add (.int 1) (.call "_law_take" (.cons (.var 0) (.cons (.int 16) .nil)))) .nil)))))))) (.call "_law_take" (.cons (.var 0) (.cons (.int 7) .nil)))))
    (.cons (.asg (.nm 4) (.sub (.lst (.cons (.int 0) (.cons (.int 1) (.cons (.int 2) (.cons (.int 3) (.cons (.call "_law_take" (.cons (.var 0) (.cons (.int 7) .nil))) .nil)))))) (.call "_law_take" (.cons (.var 0) (.cons (.int 5) .nil)))))
    (.cons (.asg (.nm 5) (.slc (.sub (.lst (.cons (.lst (.cons (.int 0) (.cons (.int 1) (.cons (.int 2) (.cons (.int 3) (.cons (.int 7) (.cons (.int 40) .nil))))))) (.cons (.lst (.cons (.int 0) (.cons (.int 1) (.cons (.int 53) (.cons (.int 3) (.cons (.int 4) (.cons (.int 5) (.cons (.int 99) .nil)))))))) .nil))) (.call "_law_take" (.cons (.var 0) (.cons (.int 2) .nil)))) .none (.some (.bin .Add (.int 2) (.call "_law_take" (.cons (.var 0) (.cons (.int 6) .nil)))))))
    (.cons (.asg (.nm 6) (.dic (.cons (.str "draw") (.var 0) (.cons (.str "width") (.var 3) (.cons (.str "variables") (.var 5) .nil)))))
    (.cons (.asg (.nm 7) (.bin .Add (.int 1) (.call "_law_take" (.cons (.var 0) (.cons (.var 1) .nil)))))
    (.cons (.asg (.nm 8) (.lc (.bin .Add (.int 3) (.bin .Mult (.int 5) (.var 10))) (.nm 10) (.rng (.cons (.var 7) .nil)) .nil [10]))
    (.cons (.ite (.cmp .Eq (.call "_law_take" (.cons (.var 0) (.cons (.int 3) .nil))) (.int 0)) (.cons (.asg (.nm 8) (.lc (.sub (.var 8) (.bin .Sub (.bin .Sub (.var 7) (.int 1)) (.var 10))) (.nm 10) (.rng (.cons (.var 7) .nil)) .nil [10]))
    .nil) .nil)
    (.cons (.asg (.nm 9) (.lst .nil))
    (.cons (.frr (.nm 10) (.rng (.cons (.var 7) .nil)) (.cons (.asg (.nm 11) (.lc (.call "_law_statement" (.cons (.var 6) .nil)) (.nm 16) (.rng (.cons (.call "_law_take" (.cons (.var 0) (.cons (.bin .Add (.var 2) (.int 1)) .nil))) .nil)) .nil [16]))
    (.cons (.asg (.nm 12) (.call "_law_take" (.cons (.var 0) (.cons (.int 4) .nil))))
    (.cons (.asg (.nm 13) (.slc (.var 8) (.some (.bin .Add (.var 10) (.int 1))) .none))
    (.cons (.ite (.or (.cmp .Eq (.var 13) (.lst .nil)) (.cmp .Eq (.var 12) (.int 0))) (.cons (.asg (.nm 14) (.tup (.cons (.str "return") (.cons (.call "_law_expression" (.cons (.var 6) (.cons (.int 1) .nil))) .nil))))
    .nil) (.cons (.ite (.cmp .Eq (.var 12) (.int 1)) (.cons (.asg (.nm 14) (.tup (.cons (.str "go") (.cons (.sub (.var 13) (.call "_law_take" (.cons (.var 0) (.cons (.bi .len (.cons (.var 13) .nil)) .nil)))) .nil))))
    .nil) (.cons (.asg (.nm 15) (.ite (.cmp .Eq (.call "_law_take" (.cons (.var 0) (.cons (.int 3) .nil))) (.int 0)) (.sub (.slc (.var 8) (.some (.int 1)) .none) (.call "_law_take" (.cons (.var 0) (.cons (.bin .Sub (.var 7) (.int 1)) .nil)))) (.sub (.var 13) (.call "_law_take" (.cons (.var 0) (.cons (.bi .len (.cons (.var 13) .nil)) .nil))))))
    (.cons (.asg (.nm 14) (.tup (.cons (.str "if") (.cons (.call "_law_expression" (.cons (.var 6) (.cons (.int 2) .nil))) (.cons (.var 15) (.cons (.sub (.var 13) (.call "_law_take" (.cons (.var 0) (.cons (.bi .len (.cons (.var 13) .nil)) .nil)))) .nil))))))
    .nil)))
    .nil))
    (.cons (.ex (.mt .append (.var 9) (.cons (.tup (.cons (.sub (.var 8) (.var 10)) (.cons (.bi .tuple (.cons (.var 11) .nil)) (.cons (.var 14) .nil)))) .nil)))
    .nil))))))
    (.cons (.ret (.tup (.cons (.var 3) (.cons (.var 4) (.cons (.bi .tuple (.cons (.var 9) .nil)) .nil)))))
    .nil))))))))))
def d__law_function : Df := ⟨3, 17, b__law_function, none⟩
abbrev s__law_function : Stmt := top 17
/-! _law_rule(draw, name, result, pattern): draw 0 name 1 result 2 pattern 3 least 4 cost 5 -/
def b__law_rule : Ss :=
    (.cons (.asg (.nm 4) (.ite (.or (.cmp .Eq (.bi .len (.cons (.var 3) .nil)) (.int 1)) (.cmp .Eq (.sub (.var 3) (.int 0)) (.str "nt"))) (.int 1) (.int 0)))
    (.cons (.asg (.nm 5) (.bi .max (.cons (.var 4) (.cons (.sub (.lst (.cons (.int 1) (.cons (.int 1) (.cons (.int 2) (.cons (.int 3) (.cons (.int 0) (.cons (.int 9) .nil))))))) (.call "_law_take" (.cons (.var 0) (.cons (.int 6) .nil)))) .nil))))
    (.cons (.ite (.cmp .NotIn (.var 2) (.lst (.cons (.str "reg") (.cons (.str "") .nil)))) (.cons (.ret (.tup (.cons (.var 1) (.cons (.var 2) (.cons (.var 3) (.cons (.var 5) (.cons (.int 1) (.cons (.int 0) (.cons (.tup .nil) .nil)))))))))
    .nil) .nil)
    (.cons (.ret (.tup (.cons (.var 1) (.cons (.var 2) (.cons (.var 3) (.cons (.var 5) (.cons (.sub (.lst (.cons (.int 1) (.cons (.int 1) (.cons (.int 2) (.cons (.int 4) .nil))))) (.call "_law_take" (.cons (.var 0) (.cons (.int 4) .nil)))) (.cons (.call "_law_take" (.cons (.var 0) (.cons (.int 3) .nil))) (.cons (.tup .nil) .nil)))))))))
    .nil))))
def d__law_rule : Df := ⟨4, 6, b__law_rule, none⟩
abbrev s__law_rule : Stmt := top 18
/-! _law_machine(draw, width): draw 0 width 1 reg 2 rows 3 op 4 addr 5 small 6 more 7 row 8 gone 9 rules 10 registers 11 k 12 rule 13 -/
def b__law_machine : Ss :=
    (.cons (.asg (.nm 2) (.tup (.cons (.str "reg") .nil)))
    (.cons (.asg (.nm 3) (.lst (.cons (.tup (.cons (.str "lit") (.cons (.str "reg") (.cons (.tup (.cons (.str "imm") (.cons (.int 0) (.cons (.int 65535) .nil)))) .nil)))) (.cons (.tup (.cons (.str "ld") (.cons (.str "reg") (.cons (.tup (.cons (.str "load") (.cons (.var 2) .nil))) .nil)))) (.cons (.tup (.cons (.str "st") (.cons (.str "") (.cons (.tup (.cons (.str "store") (.cons (.var 2) (.cons (.var 2) .nil)))) .nil)))) (.cons (.tup (.cons (.str "out") (.cons (.str "") (.cons (.tup (.cons (.str "write") (.cons (.var 2) .nil))) .nil)))) (.cons (.tup (.cons (.str "ret") (.cons (.str "") (.cons (.tup (.cons (.str "return") (.cons (.var 2) .nil))) .nil)))) (.cons (.tup (.cons (.str "br") (.cons (.str "") (.cons (.tup (.cons (.str "branch") (.cons (.var 2) .nil))) .nil)))) (.cons (.tup (.cons (.str "inv") (.cons (.str "reg") (.cons (.tup (.cons (.str "not") (.cons (.var 2) .nil))) .nil)))) (.cons (.tup (.cons (.str "min") (.cons (.str "reg") (.cons (.tup (.cons (.str "neg") (.cons (.var 2) .nil))) .nil)))) .nil))))))))))
    (.cons (.frr (.nm 4) (.ex (.call "_law_pairs" .nil)) (.cons (.ex (.mt .append (.var 3) (.cons (.tup (.cons (.bin .Add (.str "x") (.var 4)) (.cons (.str "reg") (.cons (.tup (.cons (.var 4) (.cons (.var 2) (.cons (.var 2) .nil)))) .nil)))) .nil)))
    .nil))
    (.cons (.asg (.nm 5) (.tup (.cons (.str "nt") (.cons (.str "addr") .nil))))
    (.cons (.asg (.nm 6) (.tup (.cons (.str "nt") (.cons (.str "small") .nil))))
    (.cons (.asg (.nm 7) (.lst (.cons (.tup (.cons (.str "addi") (.cons (.str "reg") (.cons (.tup (.cons (.str "add") (.cons (.var 2) (.cons (.tup (.cons (.str "imm") (.cons (.neg (.int 8)) (.cons (.int 7) .nil)))) .nil)))) .nil)))) (.cons (.tup (.cons (.str "base") (.cons (.str "addr") (.cons (.var 2) .nil)))) (.cons (.tup (.cons (.str "disp") (.cons (.str "addr") (.cons (.tup (.cons (.str "add") (.cons (.var 2) (.cons (.tup (.cons (.str "imm") (.cons (.int 0) (.cons (.int 15) .nil)))) .nil)))) .nil)))) (.cons (.tup (.cons (.str "index") (.cons (.str "addr") (.cons (.tup (.cons (.str "add") (.cons (.var 2) (.cons (.var 2) .nil)))) .nil)))) (.cons (.tup (.cons (.str "ldx") (.cons (.str "reg") (.cons (.tup (.cons (.str "load") (.cons (.var 5) .nil))) .nil)))) (.cons (.tup (.cons (.str "stx") (.cons (.str "") (.cons (.tup (.cons (.str "store") (.cons (.var 5) (.cons (.var 2) .nil)))) .nil)))) (.cons (.tup (.cons (.str "brl") (.cons (.str "") (.cons (.tup (.cons (.str "branch") (.cons (.tup (.cons (.str "less") (.cons (.var 2) (.cons (.var 2) .nil)))) .nil))) .nil)))) (.cons (.tup (.cons (.str "mac") (.cons (.str "reg") (.cons (.tup (.cons (.str "add") (.cons (.var 2) (.cons (.tup (.cons (.str "mul") (.cons (.var 2) (.cons (.var 2) .nil)))) .nil)))) .nil)))) (.cons (.tup (.cons (.str "stz") (.cons (.str "") (.cons (.tup (.cons (.str "store") (.cons (.var 2) (.cons (.tup (.cons (.str "imm") (.cons (.int 0) (.cons (.int 0) .nil)))) .nil)))) .nil)))) (.cons (.tup (.cons (.str "nand") (.cons (.str "reg") (.cons (.tup (.cons (.str "not") (.cons (.tup (.cons (.str "and") (.cons (.var 2) (.cons (.var 2) .nil)))) .nil))) .nil)))) (.cons (.tup (.cons (.str "tiny") (.cons (.str "small") (.cons (.tup (.cons (.str "imm") (.cons (.int 0) (.cons (.int 3) .nil)))) .nil)))) (.cons (.tup (.cons (.str "vary") (.cons (.str "small") (.cons (.var 2) .nil)))) (.cons (.tup (.cons (.str "shs") (.cons (.str "reg") (.cons (.tup (.cons (.str "shl") (.cons (.var 2) (.cons (.var 6) .nil)))) .nil)))) (.cons (.tup (.cons (.str "subs") (.cons (.str "reg") (.cons (.tup (.cons (.str "sub") (.cons (.var 2) (.cons (.var 6) .nil)))) .nil)))) (.cons (.tup (.cons (.str "retx") (.cons (.str "") (.cons (.tup (.cons (.str "return") (.cons (.tup (.cons (.str "add") (.cons (.var 2) (.cons (.var 6) .nil)))) .nil))) .nil)))) (.cons (.tup (.cons (.str "deep") (.cons (.str "addr") (.cons (.tup (.cons (.str "load") (.cons (.var 5) .nil))) .nil)))) (.cons (.tup (.cons (.str "lea") (.cons (.str "reg") (.cons (.var 5) .nil)))) (.cons (.tup (.cons (.str "outx") (.cons (.str "") (.cons (.tup (.cons (.str "write") (.cons (.tup (.cons (.str "load") (.cons (.var 5) .nil))) .nil))) .nil)))) .nil))))))))))))))))))))
    (.cons (.frr (.nm 8) (.ex (.var 7)) (.cons (.ite (.cmp .Eq (.call "_law_take" (.cons (.var 0) (.cons (.int 2) .nil))) (.int 0)) (.cons (.ex (.mt .append (.var 3) (.cons (.var 8) .nil)))
    .nil) .nil)
    .nil))
    (.cons (.ite (.cmp .Eq (.call "_law_take" (.cons (.var 0) (.cons (.int 6) .nil))) (.int 0)) (.cons (.asg (.nm 9) (.call "_law_take" (.cons (.var 0) (.cons (.bi .len (.cons (.var 3) .nil)) .nil))))
    (.cons (.asg (.nm 3) (.bin .Add (.slc (.var 3) .none (.some (.var 9))) (.slc (.var 3) (.some (.bin .Add (.var 9) (.int 1))) .none)))
    .nil)) .nil)
    (.cons (.asg (.nm 10) (.lc (.call "_law_rule" (.cons (.var 0) (.cons (.sub (.var 8) (.int 0)) (.cons (.sub (.var 8) (.int 1)) (.cons (.sub (.var 8) (.int 2)) .nil))))) (.nm 8) (.ex (.var 3)) .nil [8]))
    (.cons (.ite (.cmp .Eq (.call "_law_take" (.cons (.var 0) (.cons (.int 3) .nil))) (.int 0)) (.cons (.asg (.nm 10) (.lc (.sub (.var 10) (.bin .Sub (.bin .Sub (.bi .len (.cons (.var 10) .nil)) (.int 1)) (.var 12))) (.nm 12) (.rng (.cons (.bi .len (.cons (.var 10) .nil)) .nil)) .nil [12]))
    .nil) .nil)
    (.cons (.asg (.nm 11) (.bin .Add (.int 7) (.call "_law_take" (.cons (.var 0) (.cons (.int 10) .nil)))))
    (.cons (.ite (.cmp .Eq (.call "_law_take" (.cons (.var 0) (.cons (.int 3) .nil))) (.int 0)) (.cons (.asg (.nm 10) (.lc (.call "_law_tied" (.cons (.var 0) (.cons (.var 13) (.cons (.var 11) .nil)))) (.nm 13) (.ex (.var 10)) .nil [13]))
    .nil) .nil)
    (.cons (.ret (.tup (.cons (.var 1) (.cons (.var 11) (.cons (.sub (.lst (.cons (.int 64) (.cons (.int 64) (.cons (.int 3) .nil)))) (.call "_law_take" (.cons (.var 0) (.cons (.int 3) .nil)))) (.cons (.tup (.cons (.int 1) (.cons (.sub (.lst (.cons (.int 2) (.cons (.int 3) .nil))) (.call "_law_take" (.cons (.var 0) (.cons (.int 2) .nil)))) (.cons (.int 2) .nil)))) (.cons (.bi .tuple (.cons (.var 10) .nil)) .nil)))))))
    .nil)))))))))))))
def d__law_machine : Df := ⟨2, 14, b__law_machine, none⟩
abbrev s__law_machine : Stmt := top 19
/-! _law_tied(draw, rule, registers): draw 0 rule 1 registers 2 ties 3 -/
def b__law_tied : Ss :=
    (.cons (.ite (.or (.cmp .NotEq (.sub (.var 1) (.int 1)) (.str "reg")) (.or (.cmp .NotIn (.sub (.sub (.var 1) (.int 2)) (.int 0)) (.call "_law_pairs" .nil)) (.or (.cmp .NotEq (.sub (.sub (.var 1) (.int 2)) (.int 1)) (.tup (.cons (.str "reg") .nil))) (.cmp .Gt (.call "_law_take" (.cons (.var 0) (.cons (.int 3) .nil))) (.int 0))))) (.cons (.ret (.var 1))
    .nil) .nil)
    (.cons (.asg (.nm 3) (.sub (.lst (.cons (.tup (.cons (.tup (.cons (.str "same") (.cons (.int 0) .nil))) .nil)) (.cons (.tup (.cons (.tup (.cons (.str "result") (.cons (.call "_law_take" (.cons (.var 0) (.cons (.var 2) .nil))) .nil))) .nil)) (.cons (.tup (.cons (.tup (.cons (.str "needs") (.cons (.int 0) (.cons (.call "_law_take" (.cons (.var 0) (.cons (.var 2) .nil))) .nil)))) .nil)) (.cons (.tup (.cons (.tup (.cons (.str "same") (.cons (.int 0) .nil))) (.cons (.tup (.cons (.str "result") (.cons (.call "_law_take" (.cons (.var 0) (.cons (.var 2) .nil))) .nil))) .nil))) .nil))))) (.call "_law_take" (.cons (.var 0) (.cons (.int 4) .nil)))))
    (.cons (.ret (.bin .Add (.slc (.var 1) .none (.some (.int 6))) (.tup (.cons (.var 3) .nil))))
    .nil)))
def d__law_tied : Df := ⟨3, 4, b__law_tied, none⟩
abbrev s__law_tied : Stmt := top 20
/-! _law_inputs(draw, function): draw 0 function 1 k 2 -/
def b__law_inputs : Ss :=
    (.cons (.ret (.bi .tuple (.cons (.lc (.call "_law_word" (.cons (.var 0) (.cons (.sub (.var 1) (.int 0)) .nil))) (.nm 2) (.rng (.cons (.sub (.var 1) (.int 1)) .nil)) .nil [2]) .nil)))
    .nil)
def d__law_inputs : Df := ⟨2, 3, b__law_inputs, none⟩
abbrev s__law_inputs : Stmt := top 21
/-! _law_value(w, e, variables, memory): w 0 e 1 variables 2 memory 3 x 4 -/
def b__law_value : Ss :=
    (.cons (.ite (.cmp .Eq (.sub (.var 1) (.int 0)) (.str "int")) (.cons (.ret (.sub (.var 1) (.int 1)))
    .nil) .nil)
    (.cons (.ite (.cmp .Eq (.sub (.var 1) (.int 0)) (.str "var")) (.cons (.ret (.mt .get (.var 2) (.cons (.sub (.var 1) (.int 1)) (.cons (.int 0) .nil))))
    .nil) .nil)
    (.cons (.asg (.nm 4) (.call "_law_value" (.cons (.var 0) (.cons (.sub (.var 1) (.int 1)) (.cons (.var 2) (.cons (.var 3) .nil))))))
    (.cons (.ite (.cmp .Eq (.sub (.var 1) (.int 0)) (.str "load")) (.cons (.ret (.sub (.var 3) (.bin .Mod (.var 4) (.int 16))))
    .nil) .nil)
    (.cons (.ite (.cmp .Eq (.bi .len (.cons (.var 1) .nil)) (.int 2)) (.cons (.ret (.call "_law_compute" (.cons (.sub (.var 1) (.int 0)) (.cons (.var 0) (.cons (.var 4) (.cons (.int 0) .nil))))))
    .nil) .nil)
    (.cons (.ret (.call "_law_compute" (.cons (.sub (.var 1) (.int 0)) (.cons (.var 0) (.cons (.var 4) (.cons (.call "_law_value" (.cons (.var 0) (.cons (.sub (.var 1) (.int 2)) (.cons (.var 2) (.cons (.var 3) .nil))))) .nil))))))
    .nil))))))
def d__law_value : Df := ⟨4, 5, b__law_value, none⟩
abbrev s__law_value : Stmt := top 22
/-! _law_run(function, inputs, fuel): function 0 inputs 1 fuel 2 w 3 variables 4 k 5 memory 6 writes 7 labels 8 label 9 block 10 s 11 word 12 end 13 row 14 -/
def b__law_run : Ss :=
    (.cons (.asg (.nm 3) (.sub (.var 0) (.int 0)))
    (.cons (.asg (.nm 4) (.dic .nil))
    (.cons (.frr (.nm 5) (.rng (.cons (.bi .len (.cons (.var 1) .nil)) .nil)) (.cons (.asg (.sub (.var 4) (.var 5)) (.sub (.var 1) (.var 5)))
    .nil))
    (.cons (.asg (.nm 6) (.bin .Mult (.lst (.cons (.int 0) .nil)) (.int 16)))
    (.cons (.asg (.nm 7) (.lst .nil))
    (.cons (.asg (.nm 8) (.lst .nil))
    (.cons (.asg (.nm 9) (.sub (.sub (.sub (.var 0) (.int 2)) (.int 0)) (.int 0)))
    (.cons (.whl (.cmp .Lt (.bi .len (.cons (.var 8) .nil)) (.var 2)) (.cons (.asg (.nm 10) (.sub (.lc (.var 14) (.nm 14) (.ex (.sub (.var 0) (.int 2))) (.cons (.cmp .Eq (.sub (.var 14) (.int 0)) (.var 9)) .nil) [14]) (.int 0)))
    (.cons (.ex (.mt .append (.var 8) (.cons (.var 9) .nil)))
    (.cons (.frr (.nm 11) (.ex (.sub (.var 10) (.int 1))) (.cons (.ite (.cmp .Eq (.sub (.var 11) (.int 0)) (.str "set")) (.cons (.asg (.sub (.var 4) (.sub (.var 11) (.int 1))) (.call "_law_value" (.cons (.var 3) (.cons (.sub (.var 11) (.int 2)) (.cons (.var 4) (.cons (.var 6) .nil))))))
    .nil) (.cons (.ite (.cmp .Eq (.sub (.var 11) (.int 0)) (.str "write")) (.cons (.ex (.mt .append (.var 7) (.cons (.call "_law_value" (.cons (.var 3) (.cons (.sub (.var 11) (.int 1)) (.cons (.var 4) (.cons (.var 6) .nil))))) .nil)))
    .nil) (.cons (.asg (.nm 12) (.call "_law_value" (.cons (.var 3) (.cons (.sub (.var 11) (.int 2)) (.cons (.var 4) (.cons (.var 6) .nil))))))
    (.cons (.asg (.sub (.var 6) (.bin .Mod (.call "_law_value" (.cons (.var 3) (.cons (.sub (.var 11) (.int 1)) (.cons (.var 4) (.cons (.var 6) .nil))))) (.int 16))) (.var 12))
    .nil)))
    .nil))
    .nil))
    (.cons (.asg (.nm 13) (.sub (.var 10) (.int 2)))
    (.cons (.ite (.cmp .Eq (.sub (.var 13) (.int 0)) (.str "return")) (.cons (.ret (.tup (.cons (.var 7) (.cons (.tup (.cons (.str "return") (.cons (.call "_law_value" (.cons (.var 3) (.cons (.sub (.var 13) (.int 1)) (.cons (.var 4) (.cons (.var 6) .nil))))) .nil))) (.cons (.bi .len (.cons (.var 8) .nil)) (.cons (.var 8) .nil))))))
    .nil) .nil)
    (.cons (.asg (.nm 9) (.ite (.cmp .Eq (.sub (.var 13) (.int 0)) (.str "go")) (.sub (.var 13) (.int 1)) (.ite (.cmp .NotEq (.call "_law_value" (.cons (.var 3) (.cons (.sub (.var 13) (.int 1)) (.cons (.var 4) (.cons (.var 6) .nil))))) (.int 0)) (.sub (.var 13) (.int 2)) (.sub (.var 13) (.int 3)))))
    .nil)))))))
    (.cons (.ret (.tup (.cons (.var 7) (.cons (.tup (.cons (.str "none") .nil)) (.cons (.bi .len (.cons (.var 8) .nil)) (.cons (.var 8) .nil))))))
    .nil)))))))))
def d__law_run : Df := ⟨3, 15, b__law_run, none⟩
abbrev s__law_run : Stmt := top 23
/-! law(script): script 0 draw 1 function 2 before 3 j 4 inputs 5 fuel 6 due 7 -/
def b_law : Ss :=
    (.cons (.asg (.nm 1) (.call "_law_draw" (.cons (.var 0) .nil)))
    (.cons (.asg (.nm 2) (.call "_law_function" (.cons (.var 1) (.cons (.int 6) (.cons (.int 5) .nil)))))
    (.cons (.asg (.nm 3) (.rpr (.var 2)))
    (.cons (.frr (.nm 4) (.rng (.cons (.int 3) .nil)) (.cons (.asg (.nm 5) (.call "_law_inputs" (.cons (.var 1) (.cons (.var 2) .nil))))
    (.cons (.asg (.nm 6) (.sub (.lst (.cons (.int 60) (.cons (.int 60) (.cons (.int 0) (.cons (.int 1) (.cons (.call "_law_take" (.cons (.var 1) (.cons (.int 9) .nil))) .nil)))))) (.call "_law_take" (.cons (.var 1) (.cons (.int 5) .nil)))))
    (.cons (.asg (.nm 7) (.call "_law_run" (.cons (.var 2) (.cons (.var 5) (.cons (.var 6) .nil)))))
    (.cons (.ite (.or (.cmp .NotEq (.kcall "run" (.cons (.var 2) (.cons (.var 5) .nil)) (.cons (.var 6) .nil)) (.slc (.var 7) .none (.some (.int 3)))) (.cmp .NotEq (.lgen "trace" (.cons (.var 2) (.cons (.var 5) .nil)) (.cons (.var 6) .nil)) (.sub (.var 7) (.int 3)))) (.cons (.ret (.bl false))
    .nil) .nil)
    .nil)))))
    (.cons (.ret (.cmp .Eq (.rpr (.var 2)) (.var 3)))
    .nil)))))
def d_law : Df := ⟨1, 8, b_law, none⟩
abbrev s_law : Stmt := top 24
def T (f : Str) : Option Df :=
  if f = "top" then some d_top else if f = "shifted" then some d_shifted else if f = "compute" then some d_compute else if f = "Runner.__init__" then some d_Runner___init__ else if f = "Runner.value" then some d_Runner_value else if f = "Runner.statement" then some d_Runner_statement else if f = "Runner.block" then some d_Runner_block else if f = "run" then some d_run else if f = "trace" then some d_trace else if f = "_law_draw" then some d__law_draw else if f = "_law_take" then some d__law_take else if f = "_law_top" then some d__law_top else if f = "_law_compute" then some d__law_compute else if f = "_law_pairs" then some d__law_pairs else if f = "_law_word" then some d__law_word else if f = "_law_expression" then some d__law_expression else if f = "_law_statement" then some d__law_statement else if f = "_law_function" then some d__law_function else if f = "_law_rule" then some d__law_rule else if f = "_law_machine" then some d__law_machine else if f = "_law_tied" then some d__law_tied else if f = "_law_inputs" then some d__law_inputs else if f = "_law_value" then some d__law_value else if f = "_law_run" then some d__law_run else none
theorem T_top : T "top" = some d_top := by unfold T; rw [if_pos rfl]
theorem T_shifted : T "shifted" = some d_shifted := by unfold T; rw [if_neg (by decide), if_pos rfl]
theorem T_compute : T "compute" = some d_compute := by unfold T; rw [if_neg (by decide), if_neg (by decide), if_pos rfl]
theorem T_Runner___init__ : T "Runner.__init__" = some d_Runner___init__ := by unfold T; rw [if_neg (by decide), if_neg (by decide), if_neg (by decide), if_pos rfl]
theorem T_Runner_value : T "Runner.value" = some d_Runner_value := by unfold T; rw [if_neg (by decide), if_neg (by decide), if_neg (by decide), if_neg (by decide), if_pos rfl]
theorem T_Runner_statement : T "Runner.statement" = some d_Runner_statement := by unfold T; rw [if_neg (by decide), if_neg (by decide), if_neg (by decide), if_neg (by decide), if_neg (by decide), if_pos rfl]
theorem T_Runner_block : T "Runner.block" = some d_Runner_block := by unfold T; rw [if_neg (by decide), if_neg (by decide), if_neg (by decide), if_neg (by decide), if_neg (by decide), if_neg (by decide), if_pos rfl]
theorem T_run : T "run" = some d_run := by unfold T; rw [if_neg (by decide), if_neg (by decide), if_neg (by decide), if_neg (by decide), if_neg (by decide), if_neg (by decide), if_neg (by decide), if_pos rfl]
theorem T_trace : T "trace" = some d_trace := by unfold T; rw [if_neg (by decide), if_neg (by decide), if_neg (by decide), if_neg (by decide), if_neg (by decide), if_neg (by decide), if_neg (by decide), if_neg (by decide), if_pos rfl]
theorem T__law_draw : T "_law_draw" = some d__law_draw := by unfold T; rw [if_neg (by decide), if_neg (by decide), if_neg (by decide), if_neg (by decide), if_neg (by decide), if_neg (by decide), if_neg (by decide), if_neg (by decide), if_neg (by decide), if_pos rfl]
theorem T__law_take : T "_law_take" = some d__law_take := by unfold T; rw [if_neg (by decide), if_neg (by decide), if_neg (by decide), if_neg (by decide), if_neg (by decide), if_neg (by decide), if_neg (by decide), if_neg (by decide), if_neg (by decide), if_neg (by decide), if_pos rfl]
theorem T__law_top : T "_law_top" = some d__law_top := by unfold T; rw [if_neg (by decide), if_neg (by decide), if_neg (by decide), if_neg (by decide), if_neg (by decide), if_neg (by decide), if_neg (by decide), if_neg (by decide), if_neg (by decide), if_neg (by decide), if_neg (by decide), if_pos rfl]
theorem T__law_compute : T "_law_compute" = some d__law_compute := by unfold T; rw [if_neg (by decide), if_neg (by decide), if_neg (by decide), if_neg (by decide), if_neg (by decide), if_neg (by decide), if_neg (by decide), if_neg (by decide), if_neg (by decide), if_neg (by decide), if_neg (by decide), if_neg (by decide), if_pos rfl]
theorem T__law_pairs : T "_law_pairs" = some d__law_pairs := by unfold T; rw [if_neg (by decide), if_neg (by decide), if_neg (by decide), if_neg (by decide), if_neg (by decide), if_neg (by decide), if_neg (by decide), if_neg (by decide), if_neg (by decide), if_neg (by decide), if_neg (by decide), if_neg (by decide), if_neg (by decide), if_pos rfl]
theorem T__law_word : T "_law_word" = some d__law_word := by unfold T; rw [if_neg (by decide), if_neg (by decide), if_neg (by decide), if_neg (by decide), if_neg (by decide), if_neg (by decide), if_neg (by decide), if_neg (by decide), if_neg (by decide), if_neg (by decide), if_neg (by decide), if_neg (by decide), if_neg (by decide), if_neg (by decide), if_pos rfl]
theorem T__law_expression : T "_law_expression" = some d__law_expression := by unfold T; rw [if_neg (by decide), if_neg (by decide), if_neg (by decide), if_neg (by decide), if_neg (by decide), if_neg (by decide), if_neg (by decide), if_neg (by decide), if_neg (by decide), if_neg (by decide), if_neg (by decide), if_neg (by decide), if_neg (by decide), if_neg (by decide), if_neg (by decide), if_pos rfl]
theorem T__law_statement : T "_law_statement" = some d__law_statement := by unfold T; rw [if_neg (by decide), if_neg (by decide), if_neg (by decide), if_neg (by decide), if_neg (by decide), if_neg (by decide), if_neg (by decide), if_neg (by decide), if_neg (by decide), if_neg (by decide), if_neg (by decide), if_neg (by decide), if_neg (by decide), if_neg (by decide), if_neg (by decide), if_neg (by decide), if_pos rfl]
theorem T__law_function : T "_law_function" = some d__law_function := by unfold T; rw [if_neg (by decide), if_neg (by decide), if_neg (by decide), if_neg (by decide), if_neg (by decide), if_neg (by decide), if_neg (by decide), if_neg (by decide), if_neg (by decide), if_neg (by decide), if_neg (by decide), if_neg (by decide), if_neg (by decide), if_neg (by decide), if_neg (by decide), if_neg (by decide), if_neg (by decide), if_pos rfl]
theorem T__law_rule : T "_law_rule" = some d__law_rule := by unfold T; rw [if_neg (by decide), if_neg (by decide), if_neg (by decide), if_neg (by decide), if_neg (by decide), if_neg (by decide), if_neg (by decide), if_neg (by decide), if_neg (by decide), if_neg (by decide), if_neg (by decide), if_neg (by decide), if_neg (by decide), if_neg (by decide), if_neg (by decide), if_neg (by decide), if_neg (by decide), if_neg (by decide), if_pos rfl]
theorem T__law_machine : T "_law_machine" = some d__law_machine := by unfold T; rw [if_neg (by decide), if_neg (by decide), if_neg (by decide), if_neg (by decide), if_neg (by decide), if_neg (by decide), if_neg (by decide), if_neg (by decide), if_neg (by decide), if_neg (by decide), if_neg (by decide), if_neg (by decide), if_neg (by decide), if_neg (by decide), if_neg (by decide), if_neg (by decide), if_neg (by decide), if_neg (by decide), if_neg (by decide), if_pos rfl]
theorem T__law_tied : T "_law_tied" = some d__law_tied := by unfold T; rw [if_neg (by decide), if_neg (by decide), if_neg (by decide), if_neg (by decide), if_neg (by decide), if_neg (by decide), if_neg (by decide), if_neg (by decide), if_neg (by decide), if_neg (by decide), if_neg (by decide), if_neg (by decide), if_neg (by decide), if_neg (by decide), if_neg (by decide), if_neg (by decide), if_neg (by decide), if_neg (by decide), if_neg (by decide), if_neg (by decide), if_pos rfl]
theorem T__law_inputs : T "_law_inputs" = some d__law_inputs := by unfold T; rw [if_neg (by decide), if_neg (by decide), if_neg (by decide), if_neg (by decide), if_neg (by decide), if_neg (by decide), if_neg (by decide), if_neg (by decide), if_neg (by decide), if_neg (by decide), if_neg (by decide), if_neg (by decide), if_neg (by decide), if_neg (by decide), if_neg (by decide), if_neg (by decide), if_neg (by decide), if_neg (by decide), if_neg (by decide), if_neg (by decide), if_neg (by decide), if_pos rfl]
theorem T__law_value : T "_law_value" = some d__law_value := by unfold T; rw [if_neg (by decide), if_neg (by decide), if_neg (by decide), if_neg (by decide), if_neg (by decide), if_neg (by decide), if_neg (by decide), if_neg (by decide), if_neg (by decide), if_neg (by decide), if_neg (by decide), if_neg (by decide), if_neg (by decide), if_neg (by decide), if_neg (by decide), if_neg (by decide), if_neg (by decide), if_neg (by decide), if_neg (by decide), if_neg (by decide), if_neg (by decide), if_neg (by decide), if_pos rfl]
theorem T__law_run : T "_law_run" = some d__law_run := by unfold T; rw [if_neg (by decide), if_neg (by decide), if_neg (by decide), if_neg (by decide), if_neg (by decide), if_neg (by decide), if_neg (by decide), if_neg (by decide), if_neg (by decide), if_neg (by decide), if_neg (by decide), if_neg (by decide), if_neg (by decide), if_neg (by decide), if_neg (by decide), if_neg (by decide), if_neg (by decide), if_neg (by decide), if_neg (by decide), if_neg (by decide), if_neg (by decide), if_neg (by decide), if_neg (by decide), if_pos rfl]
def loc (f : Str) : Plc :=
  if f = "Runner.__init__" then .met "Runner" "__init__" else if f = "Runner.value" then .met "Runner" "value" else if f = "Runner.statement" then .met "Runner" "statement" else if f = "Runner.block" then .met "Runner" "block" else if f = "trace" then .gen else .glo
def kws (f : Str) : List Str :=
  if f = "run" then ["fuel"] else if f = "trace" then ["fuel"] else []
def kf : KF := ⟨loc, ["Runner"], [("Runner", "blocks"), ("Runner", "ending"), ("Runner", "label"), ("Runner", "memory"), ("Runner", "steps"), ("Runner", "variables"), ("Runner", "width"), ("Runner", "writes")], ["Runner"], kws⟩
def dd (a : Str × Option Str) (n q : Str) (s : Stmt) : He.DefD := ⟨a, n, q, defArgs s, defBody s, defScope s, [], []⟩
def fns : List He.DefD := [dd ("top", none) "top" "top" s_top, dd ("shifted", none) "shifted" "shifted" s_shifted, dd ("compute", none) "compute" "compute" s_compute, dd ("Runner", some "__init__") "__init__" "Runner.__init__" s_Runner___init__, dd ("Runner", some "value") "value" "Runner.value" s_Runner_value, dd ("Runner", some "statement") "statement" "Runner.statement" s_Runner_statement, dd ("Runner", some "block") "block" "Runner.block" s_Runner_block, dd ("run", none) "run" "run" s_run, dd ("trace", none) "trace" "trace" s_trace, dd ("_law_draw", none) "_law_draw" "_law_draw" s__law_draw, dd ("_law_take", none) "_law_take" "_law_take" s__law_take, dd ("_law_top", none) "_law_top" "_law_top" s__law_top, dd ("_law_compute", none) "_law_compute" "_law_compute" s__law_compute, dd ("_law_pairs", none) "_law_pairs" "_law_pairs" s__law_pairs, dd ("_law_word", none) "_law_word" "_law_word" s__law_word, dd ("_law_expression", none) "_law_expression" "_law_expression" s__law_expression, dd ("_law_statement", none) "_law_statement" "_law_statement" s__law_statement, dd ("_law_function", none) "_law_function" "_law_function" s__law_function, dd ("_law_rule", none) "_law_rule" "_law_rule" s__law_rule, dd ("_law_machine", none) "_law_machine" "_law_machine" s__law_machine, dd ("_law_tied", none) "_law_tied" "_law_tied" s__law_tied, dd ("_law_inputs", none) "_law_inputs" "_law_inputs" s__law_inputs, dd ("_law_value", none) "_law_value" "_law_value" s__law_value, dd ("_law_run", none) "_law_run" "_law_run" s__law_run, dd ("law", none) "law" "law" s_law]
def fas : List He.Fa := [.glo "top", .glo "shifted", .glo "compute", .glo "run", .glo "trace", .glo "_law_draw", .glo "_law_take", .glo "_law_top", .glo "_law_compute", .glo "_law_pairs", .glo "_law_word", .glo "_law_expression", .glo "_law_statement", .glo "_law_function", .glo "_law_rule", .glo "_law_machine", .glo "_law_tied", .glo "_law_inputs", .glo "_law_value", .glo "_law_run", .glo "law", .free "abs", .free "all", .free "any", .free "bool", .free "dict", .free "int", .free "len", .free "list", .free "max", .free "min", .free "sorted", .free "sum", .free "tuple", .free "isinstance", .free "range", .free "str", .free "reversed", .free "set", .free "repr", .glo "Runner", .cls "Runner", .noat "Runner" "blocks", .noat "Runner" "ending", .noat "Runner" "label", .noat "Runner" "memory", .noat "Runner" "steps", .noat "Runner" "variables", .noat "Runner" "width", .noat "Runner" "writes", .meth "Runner" "__init__", .meth "Runner" "value", .meth "Runner" "statement", .meth "Runner" "block", .mkr "Runner"]
section
variable {K : Fg} {h : Heap} {mg : Str → Option Value}
theorem kbn_of {x qual : Str} {params : Arguments} {body : List Stmt} {scope : Scope} {f : Addr} {fd : FuncData} {ps ks : List Str} {n : Nat} (F : FunD K x qual params body scope [] [] f fd)
    (h : ∀ (kV doc pm : Value) (an : Option Addr) (cdv ct : Value) (us ws : List Value), us.length = n → ws.length = ks.length → bindArgs (PySem.W.fnOf x qual params body scope .none kV doc pm an cdv ct) { pos := us, kw := ks.zip ws } = pure (ps.zip (us ++ ws))) : KBn K fd ps n ks (fun us ws => us ++ ws) (fun us ws => us ++ ws) := by
  refine ⟨fun s us ws _ h1 h2 => ?_, fun r rz => Vals.append r rz⟩
  obtain ⟨oc, od, dV, kV, doc, pm, an, cdv, ct, osl, rfl, lk, hcd, hD, hK⟩ := F.ex
  rcases hD with ⟨_, rfl⟩ | ⟨e, _⟩
  · exact BindsTo.of_eq (h kV doc pm an cdv ct us ws h1 h2)
  · exact absurd rfl e
theorem chk_top : chkSs ⟨["w"], defScope s_top, none, kf, false⟩ d_top.body (defBody s_top) = true := by decide +kernel
theorem sc_top : FnScope ["w"] ["w"] (defScope s_top) := ⟨rfl, rfl, rfl, by decide +kernel, rfl, by decide +kernel, by decide +kernel⟩
theorem is_top (X : K.In h) (G : h.Ns mainGlobals mg) (c : He.SaysD fas fns K) : ∃ fd, DefIs K mg kf "top" d_top "top" "top" s_top (He.fAd K ("top", none)) fd ["w"] ["w"] := by
  obtain ⟨fd, F⟩ := c.def_ 0 (d := dd ("top", none) "top" "top" s_top) rfl
  have L : LocOk K mg (kf.loc "top") "top" (He.fAd K ("top", none)) := by
    rw [show kf.loc "top" = .glo from by decide]
    exact He.glo_ok X G (c.fact 0 (f := .glo "top") rfl)
  exact ⟨fd, ⟨F, L, fun _ => F.bindsN fun _ _ _ _ _ _ us hl => (match us, hl with | [_], _ => rfl), fun z => absurd (show kf.kws "top" = [] from by decide) z, sc_top, chk_top, rfl, rfl⟩⟩
theorem chk_shifted : chkSs ⟨["op", "w", "x", "y"], defScope s_shifted, none, kf, false⟩ d_shifted.body (defBody s_shifted) = true := by decide +kernel
theorem sc_shifted : FnScope ["op", "w", "x", "y"] ["op", "w", "x", "y"] (defScope s_shifted) := ⟨rfl, rfl, rfl, by decide +kernel, rfl, by decide +kernel, by decide +kernel⟩
theorem is_shifted (X : K.In h) (G : h.Ns mainGlobals mg) (c : He.SaysD fas fns K) : ∃ fd, DefIs K mg kf "shifted" d_shifted "shifted" "shifted" s_shifted (He.fAd K ("shifted", none)) fd ["op", "w", "x", "y"] ["op", "w", "x", "y"] := by
  obtain ⟨fd, F⟩ := c.def_ 1 (d := dd ("shifted", none) "shifted" "shifted" s_shifted) rfl
  have L : LocOk K mg (kf.loc "shifted") "shifted" (He.fAd K ("shifted", none)) := by
    rw [show kf.loc "shifted" = .glo from by decide]
    exact He.glo_ok X G (c.fact 1 (f := .glo "shifted") rfl)
  exact ⟨fd, ⟨F, L, fun _ => F.bindsN fun _ _ _ _ _ _ us hl => (match us, hl with | [_, _, _, _], _ => rfl), fun z => absurd (show kf.kws "shifted" = [] from by decide) z, sc_shifted, chk_shifted, rfl, rfl⟩⟩
theorem chk_compute : chkSs ⟨["op", "w", "x", "y"], defScope s_compute, none, kf, false⟩ d_compute.body (defBody s_compute) = true := by decide +kernel
theorem sc_compute : FnScope ["op", "w", "x", "y"] ["op", "w", "x", "y"] (defScope s_compute) := ⟨rfl, rfl, rfl, by decide +kernel, rfl, by decide +kernel, by decide +kernel⟩
theorem is_compute (X : K.In h) (G : h.Ns mainGlobals mg) (c : He.SaysD fas fns K) : ∃ fd, DefIs K mg kf "compute" d_compute "compute" "compute" s_compute (He.fAd K ("compute", none)) fd ["op", "w", "x", "y"] ["op", "w", "x", "y"] := by
  obtain ⟨fd, F⟩ := c.def_ 2 (d := dd ("compute", none) "compute" "compute" s_compute) rfl
  have L : LocOk K mg (kf.loc "compute") "compute" (He.fAd K ("compute", none)) := by
    rw [show kf.loc "compute" = .glo from by decide]
    exact He.glo_ok X G (c.fact 2 (f := .glo "compute") rfl)
  exact ⟨fd, ⟨F, L, fun _ => F.bindsN fun _ _ _ _ _ _ us hl => (match us, hl with | [_, _, _, _], _ => rfl), fun z => absurd (show kf.kws "compute" = [] from by decide) z, sc_compute, chk_compute, rfl, rfl⟩⟩
theorem chk_Runner___init__ : chkSs ⟨["self", "function", "inputs", "k", "block"], defScope s_Runner___init__, none, kf, false⟩ d_Runner___init__.body (defBody s_Runner___init__) = true := by decide +kernel
theorem sc_Runner___init__ : FnScope ["self", "function", "inputs", "k", "block"] ["self", "function", "inputs"] (defScope s_Runner___init__) := ⟨rfl, rfl, rfl, by decide +kernel, rfl, by decide +kernel, by decide +kernel⟩
theorem is_Runner___init__ (X : K.In h) (G : h.Ns mainGlobals mg) (c : He.SaysD fas fns K) : ∃ fd, DefIs K mg kf "Runner.__init__" d_Runner___init__ "__init__" "Runner.__init__" s_Runner___init__ (He.fAd K ("Runner", some "__init__")) fd ["self", "function", "inputs", "k", "block"] ["self", "function", "inputs"] := by
  obtain ⟨fd, F⟩ := c.def_ 3 (d := dd ("Runner", some "__init__") "__init__" "Runner.__init__" s_Runner___init__) rfl
  have L : LocOk K mg (kf.loc "Runner.__init__") "Runner.__init__" (He.fAd K ("Runner", some "__init__")) := by
    rw [show kf.loc "Runner.__init__" = .met "Runner" "__init__" from by decide]
    exact He.meth_ok (c.fact 50 (f := .meth "Runner" "__init__") rfl)
  exact ⟨fd, ⟨F, L, fun _ => F.bindsN fun _ _ _ _ _ _ us hl => (match us, hl with | [_, _, _], _ => rfl), fun z => absurd (show kf.kws "Runner.__init__" = [] from by decide) z, sc_Runner___init__, chk_Runner___init__, rfl, rfl⟩⟩
theorem chk_Runner_value : chkSs ⟨["self", "e", "word"], defScope s_Runner_value, none, kf, false⟩ d_Runner_value.body (defBody s_Runner_value) = true := by decide +kernel
theorem sc_Runner_value : FnScope ["self", "e", "word"] ["self", "e"] (defScope s_Runner_value) := ⟨rfl, rfl, rfl, by decide +kernel, rfl, by decide +kernel, by decide +kernel⟩
theorem is_Runner_value (X : K.In h) (G : h.Ns mainGlobals mg) (c : He.SaysD fas fns K) : ∃ fd, DefIs K mg kf "Runner.value" d_Runner_value "value" "Runner.value" s_Runner_value (He.fAd K ("Runner", some "value")) fd ["self", "e", "word"] ["self", "e"] := by
  obtain ⟨fd, F⟩ := c.def_ 4 (d := dd ("Runner", some "value") "value" "Runner.value" s_Runner_value) rfl
  have L : LocOk K mg (kf.loc "Runner.value") "Runner.value" (He.fAd K ("Runner", some "value")) := by
    rw [show kf.loc "Runner.value" = .met "Runner" "value" from by decide]
    exact He.meth_ok (c.fact 51 (f := .meth "Runner" "value") rfl)
  exact ⟨fd, ⟨F, L, fun _ => F.bindsN fun _ _ _ _ _ _ us hl => (match us, hl with | [_, _], _ => rfl), fun z => absurd (show kf.kws "Runner.value" = [] from by decide) z, sc_Runner_value, chk_Runner_value, rfl, rfl⟩⟩
theorem chk_Runner_statement : chkSs ⟨["self", "statement", "at"], defScope s_Runner_statement, none, kf, false⟩ d_Runner_statement.body (defBody s_Runner_statement) = true := by decide +kernel
theorem sc_Runner_statement : FnScope ["self", "statement", "at"] ["self", "statement"] (defScope s_Runner_statement) := ⟨rfl, rfl, rfl, by decide +kernel, rfl, by decide +kernel, by decide +kernel⟩
theorem is_Runner_statement (X : K.In h) (G : h.Ns mainGlobals mg) (c : He.SaysD fas fns K) : ∃ fd, DefIs K mg kf "Runner.statement" d_Runner_statement "statement" "Runner.statement" s_Runner_statement (He.fAd K ("Runner", some "statement")) fd ["self", "statement", "at"] ["self", "statement"] := by
  obtain ⟨fd, F⟩ := c.def_ 5 (d := dd ("Runner", some "statement") "statement" "Runner.statement" s_Runner_statement) rfl
  have L : LocOk K mg (kf.loc "Runner.statement") "Runner.statement" (He.fAd K ("Runner", some "statement")) := by
    rw [show kf.loc "Runner.statement" = .met "Runner" "statement" from by decide]
    exact He.meth_ok (c.fact 52 (f := .meth "Runner" "statement") rfl)
  exact ⟨fd, ⟨F, L, fun _ => F.bindsN fun _ _ _ _ _ _ us hl => (match us, hl with | [_, _], _ => rfl), fun z => absurd (show kf.kws "Runner.statement" = [] from by decide) z, sc_Runner_statement, chk_Runner_statement, rfl, rfl⟩⟩
theorem chk_Runner_block : chkSs ⟨["self", "block", "statement", "end"], defScope s_Runner_block, none, kf, false⟩ d_Runner_block.body (defBody s_Runner_block) = true := by decide +kernel
theorem sc_Runner_block : FnScope ["self", "block", "statement", "end"] ["self"] (defScope s_Runner_block) := ⟨rfl, rfl, rfl, by decide +kernel, rfl, by decide +kernel, by decide +kernel⟩
theorem is_Runner_block (X : K.In h) (G : h.Ns mainGlobals mg) (c : He.SaysD fas fns K) : ∃ fd, DefIs K mg kf "Runner.block" d_Runner_block "block" "Runner.block" s_Runner_block (He.fAd K ("Runner", some "block")) fd ["self", "block", "statement", "end"] ["self"] := by
  obtain ⟨fd, F⟩ := c.def_ 6 (d := dd ("Runner", some "block") "block" "Runner.block" s_Runner_block) rfl
  have L : LocOk K mg (kf.loc "Runner.block") "Runner.block" (He.fAd K ("Runner", some "block")) := by
    rw [show kf.loc "Runner.block" = .met "Runner" "block" from by decide]
    exact He.meth_ok (c.fact 53 (f := .meth "Runner" "block") rfl)
  exact ⟨fd, ⟨F, L, fun _ => F.bindsN fun _ _ _ _ _ _ us hl => (match us, hl with | [_], _ => rfl), fun z => absurd (show kf.kws "Runner.block" = [] from by decide) z, sc_Runner_block, chk_Runner_block, rfl, rfl⟩⟩
theorem chk_run : chkSs ⟨["function", "inputs", "fuel", "runner"], defScope s_run, none, kf, false⟩ d_run.body (defBody s_run) = true := by decide +kernel
theorem sc_run : FnScope ["function", "inputs", "fuel", "runner"] ["function", "inputs", "fuel"] (defScope s_run) := ⟨rfl, rfl, rfl, by decide +kernel, rfl, by decide +kernel, by decide +kernel⟩
theorem is_run (X : K.In h) (G : h.Ns mainGlobals mg) (c : He.SaysD fas fns K) : ∃ fd, DefIs K mg kf "run" d_run "run" "run" s_run (He.fAd K ("run", none)) fd ["function", "inputs", "fuel", "runner"] ["function", "inputs", "fuel"] := by
  obtain ⟨fd, F⟩ := c.def_ 7 (d := dd ("run", none) "run" "run" s_run) rfl
  have L : LocOk K mg (kf.loc "run") "run" (He.fAd K ("run", none)) := by
    rw [show kf.loc "run" = .glo from by decide]
    exact He.glo_ok X G (c.fact 3 (f := .glo "run") rfl)
  exact ⟨fd, ⟨F, L, fun z => absurd z (by decide), fun _ => kbn_of F fun _ _ _ _ _ _ us ws h1 h2 => (match us, ws, h1, h2 with | [_, _], [_], _, _ => rfl), sc_run, chk_run, rfl, rfl⟩⟩
theorem chk_trace : chkYs ⟨["function", "inputs", "fuel", "runner"], defScope s_trace, none, kf, false⟩ b_trace (defBody s_trace) = true := by decide +kernel
theorem sc_trace : GScope ["function", "inputs", "fuel", "runner"] ["function", "inputs", "fuel"] (defScope s_trace) := ⟨rfl, rfl, rfl, by decide +kernel, rfl, by decide +kernel, by decide +kernel⟩
theorem is_trace (X : K.In h) (G : h.Ns mainGlobals mg) (c : He.SaysD fas fns K) : ∃ fd, GenIs K mg kf "trace" d_trace b_trace "trace" "trace" s_trace (He.fAd K ("trace", none)) fd ["function", "inputs", "fuel", "runner"] ["function", "inputs", "fuel"] := by
  obtain ⟨fd, F⟩ := c.def_ 8 (d := dd ("trace", none) "trace" "trace" s_trace) rfl
  exact ⟨fd, ⟨F, He.glo_ok X G (c.fact 4 (f := .glo "trace") rfl), by decide, fun _ => kbn_of F fun _ _ _ _ _ _ us ws h1 h2 => (match us, ws, h1, h2 with | [_, _], [_], _, _ => rfl), sc_trace, chk_trace, rfl, rfl⟩⟩
theorem chk__law_draw : chkSs ⟨["script", "seed", "cell"], defScope s__law_draw, none, kf, false⟩ d__law_draw.body (defBody s__law_draw) = true := by decide +kernel
theorem sc__law_draw : FnScope ["script", "seed", "cell"] ["script"] (defScope s__law_draw) := ⟨rfl, rfl, rfl, by decide +kernel, rfl, by decide +kernel, by decide +kernel⟩
theorem is__law_draw (X : K.In h) (G : h.Ns mainGlobals mg) (c : He.SaysD fas fns K) : ∃ fd, DefIs K mg kf "_law_draw" d__law_draw "_law_draw" "_law_draw" s__law_draw (He.fAd K ("_law_draw", none)) fd ["script", "seed", "cell"] ["script"] := by
  obtain ⟨fd, F⟩ := c.def_ 9 (d := dd ("_law_draw", none) "_law_draw" "_law_draw" s__law_draw) rfl
  have L : LocOk K mg (kf.loc "_law_draw") "_law_draw" (He.fAd K ("_law_draw", none)) := by
    rw [show kf.loc "_law_draw" = .glo from by decide]
    exact He.glo_ok X G (c.fact 5 (f := .glo "_law_draw") rfl)
  exact ⟨fd, ⟨F, L, fun _ => F.bindsN fun _ _ _ _ _ _ us hl => (match us, hl with | [_], _ => rfl), fun z => absurd (show kf.kws "_law_draw" = [] from by decide) z, sc__law_draw, chk__law_draw, rfl, rfl⟩⟩
theorem chk__law_take : chkSs ⟨["draw", "many", "found"], defScope s__law_take, none, kf, false⟩ d__law_take.body (defBody s__law_take) = true := by decide +kernel
theorem sc__law_take : FnScope ["draw", "many", "found"] ["draw", "many"] (defScope s__law_take) := ⟨rfl, rfl, rfl, by decide +kernel, rfl, by decide +kernel, by decide +kernel⟩
theorem is__law_take (X : K.In h) (G : h.Ns mainGlobals mg) (c : He.SaysD fas fns K) : ∃ fd, DefIs K mg kf "_law_take" d__law_take "_law_take" "_law_take" s__law_take (He.fAd K ("_law_take", none)) fd ["draw", "many", "found"] ["draw", "many"] := by
  obtain ⟨fd, F⟩ := c.def_ 10 (d := dd ("_law_take", none) "_law_take" "_law_take" s__law_take) rfl
  have L : LocOk K mg (kf.loc "_law_take") "_law_take" (He.fAd K ("_law_take", none)) := by
    rw [show kf.loc "_law_take" = .glo from by decide]
    exact He.glo_ok X G (c.fact 6 (f := .glo "_law_take") rfl)
  exact ⟨fd, ⟨F, L, fun _ => F.bindsN fun _ _ _ _ _ _ us hl => (match us, hl with | [_, _], _ => rfl), fun z => absurd (show kf.kws "_law_take" = [] from by decide) z, sc__law_take, chk__law_take, rfl, rfl⟩⟩
theorem chk__law_top : chkSs ⟨["w"], defScope s__law_top, none, kf, false⟩ d__law_top.body (defBody s__law_top) = true := by decide +kernel
theorem sc__law_top : FnScope ["w"] ["w"] (defScope s__law_top) := ⟨rfl, rfl, rfl, by decide +kernel, rfl, by decide +kernel, by decide +kernel⟩
theorem is__law_top (X : K.In h) (G : h.Ns mainGlobals mg) (c : He.SaysD fas fns K) : ∃ fd, DefIs K mg kf "_law_top" d__law_top "_law_top" "_law_top" s__law_top (He.fAd K ("_law_top", none)) fd ["w"] ["w"] := by
  obtain ⟨fd, F⟩ := c.def_ 11 (d := dd ("_law_top", none) "_law_top" "_law_top" s__law_top) rfl
  have L : LocOk K mg (kf.loc "_law_top") "_law_top" (He.fAd K ("_law_top", none)) := by
    rw [show kf.loc "_law_top" = .glo from by decide]
    exact He.glo_ok X G (c.fact 7 (f := .glo "_law_top") rfl)
  exact ⟨fd, ⟨F, L, fun _ => F.bindsN fun _ _ _ _ _ _ us hl => (match us, hl with | [_], _ => rfl), fun z => absurd (show kf.kws "_law_top" = [] from by decide) z, sc__law_top, chk__law_top, rfl, rfl⟩⟩
theorem chk__law_compute : chkSs ⟨["op", "w", "x", "y", "size", "found", "k", "both"], defScope s__law_compute, none, kf, false⟩ d__law_compute.body (defBody s__law_compute) = true := by decide +kernel
theorem sc__law_compute : FnScope ["op", "w", "x", "y", "size", "found", "k", "both"] ["op", "w", "x", "y"] (defScope s__law_compute) := ⟨rfl, rfl, rfl, by decide +kernel, rfl, by decide +kernel, by decide +kernel⟩
theorem is__law_compute (X : K.In h) (G : h.Ns mainGlobals mg) (c : He.SaysD fas fns K) : ∃ fd, DefIs K mg kf "_law_compute" d__law_compute "_law_compute" "_law_compute" s__law_compute (He.fAd K ("_law_compute", none)) fd ["op", "w", "x", "y", "size", "found", "k", "both"] ["op", "w", "x", "y"] := by
  obtain ⟨fd, F⟩ := c.def_ 12 (d := dd ("_law_compute", none) "_law_compute" "_law_compute" s__law_compute) rfl
  have L : LocOk K mg (kf.loc "_law_compute") "_law_compute" (He.fAd K ("_law_compute", none)) := by
    rw [show kf.loc "_law_compute" = .glo from by decide]
    exact He.glo_ok X G (c.fact 8 (f := .glo "_law_compute") rfl)
  exact ⟨fd, ⟨F, L, fun _ => F.bindsN fun _ _ _ _ _ _ us hl => (match us, hl with | [_, _, _, _], _ => rfl), fun z => absurd (show kf.kws "_law_compute" = [] from by decide) z, sc__law_compute, chk__law_compute, rfl, rfl⟩⟩
theorem chk__law_pairs : chkSs ⟨[], defScope s__law_pairs, none, kf, false⟩ d__law_pairs.body (defBody s__law_pairs) = true := by decide +kernel
theorem sc__law_pairs : FnScope [] [] (defScope s__law_pairs) := ⟨rfl, rfl, rfl, by decide +kernel, rfl, by decide +kernel, by decide +kernel⟩
theorem is__law_pairs (X : K.In h) (G : h.Ns mainGlobals mg) (c : He.SaysD fas fns K) : ∃ fd, DefIs K mg kf "_law_pairs" d__law_pairs "_law_pairs" "_law_pairs" s__law_pairs (He.fAd K ("_law_pairs", none)) fd [] [] := by
  obtain ⟨fd, F⟩ := c.def_ 13 (d := dd ("_law_pairs", none) "_law_pairs" "_law_pairs" s__law_pairs) rfl
  have L : LocOk K mg (kf.loc "_law_pairs") "_law_pairs" (He.fAd K ("_law_pairs", none)) := by
    rw [show kf.loc "_law_pairs" = .glo from by decide]
    exact He.glo_ok X G (c.fact 9 (f := .glo "_law_pairs") rfl)
  exact ⟨fd, ⟨F, L, fun _ => F.bindsN fun _ _ _ _ _ _ us hl => (match us, hl with | [], _ => rfl), fun z => absurd (show kf.kws "_law_pairs" = [] from by decide) z, sc__law_pairs, chk__law_pairs, rfl, rfl⟩⟩
theorem chk__law_word : chkSs ⟨["draw", "w", "k"], defScope s__law_word, none, kf, false⟩ d__law_word.body (defBody s__law_word) = true := by decide +kernel
theorem sc__law_word : FnScope ["draw", "w", "k"] ["draw", "w"] (defScope s__law_word) := ⟨rfl, rfl, rfl, by decide +kernel, rfl, by decide +kernel, by decide +kernel⟩
theorem is__law_word (X : K.In h) (G : h.Ns mainGlobals mg) (c : He.SaysD fas fns K) : ∃ fd, DefIs K mg kf "_law_word" d__law_word "_law_word" "_law_word" s__law_word (He.fAd K ("_law_word", none)) fd ["draw", "w", "k"] ["draw", "w"] := by
  obtain ⟨fd, F⟩ := c.def_ 14 (d := dd ("_law_word", none) "_law_word" "_law_word" s__law_word) rfl
  have L : LocOk K mg (kf.loc "_law_word") "_law_word" (He.fAd K ("_law_word", none)) := by
    rw [show kf.loc "_law_word" = .glo from by decide]
    exact He.glo_ok X G (c.fact 10 (f := .glo "_law_word") rfl)
  exact ⟨fd, ⟨F, L, fun _ => F.bindsN fun _ _ _ _ _ _ us hl => (match us, hl with | [_, _], _ => rfl), fun z => absurd (show kf.kws "_law_word" = [] from by decide) z, sc__law_word, chk__law_word, rfl, rfl⟩⟩
theorem chk__law_expression : chkSs ⟨["p", "depth", "draw", "k", "op"], defScope s__law_expression, none, kf, false⟩ d__law_expression.body (defBody s__law_expression) = true := by decide +kernel
theorem sc__law_expression : FnScope ["p", "depth", "draw", "k", "op"] ["p", "depth"] (defScope s__law_expression) := ⟨rfl, rfl, rfl, by decide +kernel, rfl, by decide +kernel, by decide +kernel⟩
theorem is__law_expression (X : K.In h) (G : h.Ns mainGlobals mg) (c : He.SaysD fas fns K) : ∃ fd, DefIs K mg kf "_law_expression" d__law_expression "_law_expression" "_law_expression" s__law_expression (He.fAd K ("_law_expression", none)) fd ["p", "depth", "draw", "k", "op"] ["p", "depth"] := by
  obtain ⟨fd, F⟩ := c.def_ 15 (d := dd ("_law_expression", none) "_law_expression" "_law_expression" s__law_expression) rfl
  have L : LocOk K mg (kf.loc "_law_expression") "_law_expression" (He.fAd K ("_law_expression", none)) := by
    rw [show kf.loc "_law_expression" = .glo from by decide]
    exact He.glo_ok X G (c.fact 11 (f := .glo "_law_expression") rfl)
  exact ⟨fd, ⟨F, L, fun _ => F.bindsN fun _ _ _ _ _ _ us hl => (match us, hl with | [_, _], _ => rfl), fun z => absurd (show kf.kws "_law_expression" = [] from by decide) z, sc__law_expression, chk__law_expression, rfl, rfl⟩⟩
theorem chk__law_statement : chkSs ⟨["p", "draw", "k"], defScope s__law_statement, none, kf, false⟩ d__law_statement.body (defBody s__law_statement) = true := by decide +kernel
theorem sc__law_statement : FnScope ["p", "draw", "k"] ["p"] (defScope s__law_statement) := ⟨rfl, rfl, rfl, by decide +kernel, rfl, by decide +kernel, by decide +kernel⟩
theorem is__law_statement (X : K.In h) (G : h.Ns mainGlobals mg) (c : He.SaysD fas fns K) : ∃ fd, DefIs K mg kf "_law_statement" d__law_statement "_law_statement" "_law_statement" s__law_statement (He.fAd K ("_law_statement", none)) fd ["p", "draw", "k"] ["p"] := by
  obtain ⟨fd, F⟩ := c.def_ 16 (d := dd ("_law_statement", none) "_law_statement" "_law_statement" s__law_statement) rfl
  have L : LocOk K mg (kf.loc "_law_statement") "_law_statement" (He.fAd K ("_law_statement", none)) := by
    rw [show kf.loc "_law_statement" = .glo from by decide]
    exact He.glo_ok X G (c.fact 12 (f := .glo "_law_statement") rfl)
  exact ⟨fd, ⟨F, L, fun _ => F.bindsN fun _ _ _ _ _ _ us hl => (match us, hl with | [_], _ => rfl), fun z => absurd (show kf.kws "_law_statement" = [] from by decide) z, sc__law_statement, chk__law_statement, rfl, rfl⟩⟩
theorem chk__law_function : chkSs ⟨["draw", "blocks", "most", "width", "params", "variables", "p", "count", "labels", "rows", "k", "body", "what", "later", "end", "other", "j"], defScope s__law_function, none, kf, false⟩ d__law_function.body (defBody s__law_function) = true := by decide +kernel
theorem sc__law_function : FnScope ["draw", "blocks", "most", "width", "params", "variables", "p", "count", "labels", "rows", "k", "body", "what", "later", "end", "other", "j"] ["draw", "blocks", "most"] (defScope s__law_function) := ⟨rfl, rfl, rfl, by decide +kernel, rfl, by decide +kernel, by decide +kernel⟩
theorem is__law_function (X : K.In h) (G : h.Ns mainGlobals mg) (c : He.SaysD fas fns K) : ∃ fd, DefIs K mg kf "_law_function" d__law_function "_law_function" "_law_function" s__law_function (He.fAd K ("_law_function", none)) fd ["draw", "blocks", "most", "width", "params", "variables", "p", "count", "labels", "rows", "k", "body", "what", "later", "end", "other", "j"] ["draw", "blocks", "most"] := by
  obtain ⟨fd, F⟩ := c.def_ 17 (d := dd ("_law_function", none) "_law_function" "_law_function" s__law_function) rfl
  have L : LocOk K mg (kf.loc "_law_function") "_law_function" (He.fAd K ("_law_function", none)) := by
    rw [show kf.loc "_law_function" = .glo from by decide]
    exact He.glo_ok X G (c.fact 13 (f := .glo "_law_function") rfl)
  exact ⟨fd, ⟨F, L, fun _ => F.bindsN fun _ _ _ _ _ _ us hl => (match us, hl with | [_, _, _], _ => rfl), fun z => absurd (show kf.kws "_law_function" = [] from by decide) z, sc__law_function, chk__law_function, rfl, rfl⟩⟩
theorem chk__law_rule : chkSs ⟨["draw", "name", "result", "pattern", "least", "cost"], defScope s__law_rule, none, kf, false⟩ d__law_rule.body (defBody s__law_rule) = true := by decide +kernel
theorem sc__law_rule : FnScope ["draw", "name", "result", "pattern", "least", "cost"] ["draw", "name", "result", "pattern"] (defScope s__law_rule) := ⟨rfl, rfl, rfl, by decide +kernel, rfl, by decide +kernel, by decide +kernel⟩
theorem is__law_rule (X : K.In h) (G : h.Ns mainGlobals mg) (c : He.SaysD fas fns K) : ∃ fd, DefIs K mg kf "_law_rule" d__law_rule "_law_rule" "_law_rule" s__law_rule (He.fAd K ("_law_rule", none)) fd ["draw", "name", "result", "pattern", "least", "cost"] ["draw", "name", "result", "pattern"] := by
  obtain ⟨fd, F⟩ := c.def_ 18 (d := dd ("_law_rule", none) "_law_rule" "_law_rule" s__law_rule) rfl
  have L : LocOk K mg (kf.loc "_law_rule") "_law_rule" (He.fAd K ("_law_rule", none)) := by
    rw [show kf.loc "_law_rule" = .glo from by decide]
    exact He.glo_ok X G (c.fact 14 (f := .glo "_law_rule") rfl)
  exact ⟨fd, ⟨F, L, fun _ => F.bindsN fun _ _ _ _ _ _ us hl => (match us, hl with | [_, _, _, _], _ => rfl), fun z => absurd (show kf.kws "_law_rule" = [] from by decide) z, sc__law_rule, chk__law_rule, rfl, rfl⟩⟩
theorem chk__law_machine : chkSs ⟨["draw", "width", "reg", "rows", "op", "addr", "small", "more", "row", "gone", "rules", "registers", "k", "rule"], defScope s__law_machine, none, kf, false⟩ d__law_machine.body (defBody s__law_machine) = true := by decide +kernel
theorem sc__law_machine : FnScope ["draw", "width", "reg", "rows", "op", "addr", "small", "more", "row", "gone", "rules", "registers", "k", "rule"] ["draw", "width"] (defScope s__law_machine) := ⟨rfl, rfl, rfl, by decide +kernel, rfl, by decide +kernel, by decide +kernel⟩
theorem is__law_machine (X : K.In h) (G : h.Ns mainGlobals mg) (c : He.SaysD fas fns K) : ∃ fd, DefIs K mg kf "_law_machine" d__law_machine "_law_machine" "_law_machine" s__law_machine (He.fAd K ("_law_machine", none)) fd ["draw", "width", "reg", "rows", "op", "addr", "small", "more", "row", "gone", "rules", "registers", "k", "rule"] ["draw", "width"] := by
  obtain ⟨fd, F⟩ := c.def_ 19 (d := dd ("_law_machine", none) "_law_machine" "_law_machine" s__law_machine) rfl
  have L : LocOk K mg (kf.loc "_law_machine") "_law_machine" (He.fAd K ("_law_machine", none)) := by
    rw [show kf.loc "_law_machine" = .glo from by decide]
    exact He.glo_ok X G (c.fact 15 (f := .glo "_law_machine") rfl)
  exact ⟨fd, ⟨F, L, fun _ => F.bindsN fun _ _ _ _ _ _ us hl => (match us, hl with | [_, _], _ => rfl), fun z => absurd (show kf.kws "_law_machine" = [] from by decide) z, sc__law_machine, chk__law_machine, rfl, rfl⟩⟩
theorem chk__law_tied : chkSs ⟨["draw", "rule", "registers", "ties"], defScope s__law_tied, none, kf, false⟩ d__law_tied.body (defBody s__law_tied) = true := by decide +kernel
theorem sc__law_tied : FnScope ["draw", "rule", "registers", "ties"] ["draw", "rule", "registers"] (defScope s__law_tied) := ⟨rfl, rfl, rfl, by decide +kernel, rfl, by decide +kernel, by decide +kernel⟩
theorem is__law_tied (X : K.In h) (G : h.Ns mainGlobals mg) (c : He.SaysD fas fns K) : ∃ fd, DefIs K mg kf "_law_tied" d__law_tied "_law_tied" "_law_tied" s__law_tied (He.fAd K ("_law_tied", none)) fd ["draw", "rule", "registers", "ties"] ["draw", "rule", "registers"] := by
  obtain ⟨fd, F⟩ := c.def_ 20 (d := dd ("_law_tied", none) "_law_tied" "_law_tied" s__law_tied) rfl
  have L : LocOk K mg (kf.loc "_law_tied") "_law_tied" (He.fAd K ("_law_tied", none)) := by
    rw [show kf.loc "_law_tied" = .glo from by decide]
    exact He.glo_ok X G (c.fact 16 (f := .glo "_law_tied") rfl)
  exact ⟨fd, ⟨F, L, fun _ => F.bindsN fun _ _ _ _ _ _ us hl => (match us, hl with | [_, _, _], _ => rfl), fun z => absurd (show kf.kws "_law_tied" = [] from by decide) z, sc__law_tied, chk__law_tied, rfl, rfl⟩⟩
theorem chk__law_inputs : chkSs ⟨["draw", "function", "k"], defScope s__law_inputs, none, kf, false⟩ d__law_inputs.body (defBody s__law_inputs) = true := by decide +kernel
theorem sc__law_inputs : FnScope ["draw", "function", "k"] ["draw", "function"] (defScope s__law_inputs) := ⟨rfl, rfl, rfl, by decide +kernel, rfl, by decide +kernel, by decide +kernel⟩
theorem is__law_inputs (X : K.In h) (G : h.Ns mainGlobals mg) (c : He.SaysD fas fns K) : ∃ fd, DefIs K mg kf "_law_inputs" d__law_inputs "_law_inputs" "_law_inputs" s__law_inputs (He.fAd K ("_law_inputs", none)) fd ["draw", "function", "k"] ["draw", "function"] := by
  obtain ⟨fd, F⟩ := c.def_ 21 (d := dd ("_law_inputs", none) "_law_inputs" "_law_inputs" s__law_inputs) rfl
  have L : LocOk K mg (kf.loc "_law_inputs") "_law_inputs" (He.fAd K ("_law_inputs", none)) := by
    rw [show kf.loc "_law_inputs" = .glo from by decide]
    exact He.glo_ok X G (c.fact 17 (f := .glo "_law_inputs") rfl)
  exact ⟨fd, ⟨F, L, fun _ => F.bindsN fun _ _ _ _ _ _ us hl => (match us, hl with | [_, _], _ => rfl), fun z => absurd (show kf.kws "_law_inputs" = [] from by decide) z, sc__law_inputs, chk__law_inputs, rfl, rfl⟩⟩
theorem chk__law_value : chkSs ⟨["w", "e", "variables", "memory", "x"], defScope s__law_value, none, kf, false⟩ d__law_value.body (defBody s__law_value) = true := by decide +kernel
theorem sc__law_value : FnScope ["w", "e", "variables", "memory", "x"] ["w", "e", "variables", "memory"] (defScope s__law_value) := ⟨rfl, rfl, rfl, by decide +kernel, rfl, by decide +kernel, by decide +kernel⟩
theorem is__law_value (X : K.In h) (G : h.Ns mainGlobals mg) (c : He.SaysD fas fns K) : ∃ fd, DefIs K mg kf "_law_value" d__law_value "_law_value" "_law_value" s__law_value (He.fAd K ("_law_value", none)) fd ["w", "e", "variables", "memory", "x"] ["w", "e", "variables", "memory"] := by
  obtain ⟨fd, F⟩ := c.def_ 22 (d := dd ("_law_value", none) "_law_value" "_law_value" s__law_value) rfl
  have L : LocOk K mg (kf.loc "_law_value") "_law_value" (He.fAd K ("_law_value", none)) := by
    rw [show kf.loc "_law_value" = .glo from by decide]
    exact He.glo_ok X G (c.fact 18 (f := .glo "_law_value") rfl)
  exact ⟨fd, ⟨F, L, fun _ => F.bindsN fun _ _ _ _ _ _ us hl => (match us, hl with | [_, _, _, _], _ => rfl), fun z => absurd (show kf.kws "_law_value" = [] from by decide) z, sc__law_value, chk__law_value, rfl, rfl⟩⟩
theorem chk__law_run : chkSs ⟨["function", "inputs", "fuel", "w", "variables", "k", "memory", "writes", "labels", "label", "block", "s", "word", "end", "row"], defScope s__law_run, none, kf, false⟩ d__law_run.body (defBody s__law_run) = true := by decide +kernel
theorem sc__law_run : FnScope ["function", "inputs", "fuel", "w", "variables", "k", "memory", "writes", "labels", "label", "block", "s", "word", "end", "row"] ["function", "inputs", "fuel"] (defScope s__law_run) := ⟨rfl, rfl, rfl, by decide +kernel, rfl, by decide +kernel, by decide +kernel⟩
theorem is__law_run (X : K.In h) (G : h.Ns mainGlobals mg) (c : He.SaysD fas fns K) : ∃ fd, DefIs K mg kf "_law_run" d__law_run "_law_run" "_law_run" s__law_run (He.fAd K ("_law_run", none)) fd ["function", "inputs", "fuel", "w", "variables", "k", "memory", "writes", "labels", "label", "block", "s", "word", "end", "row"] ["function", "inputs", "fuel"] := by
  obtain ⟨fd, F⟩ := c.def_ 23 (d := dd ("_law_run", none) "_law_run" "_law_run" s__law_run) rfl
  have L : LocOk K mg (kf.loc "_law_run") "_law_run" (He.fAd K ("_law_run", none)) := by
    rw [show kf.loc "_law_run" = .glo from by decide]
    exact He.glo_ok X G (c.fact 19 (f := .glo "_law_run") rfl)
  exact ⟨fd, ⟨F, L, fun _ => F.bindsN fun _ _ _ _ _ _ us hl => (match us, hl with | [_, _, _], _ => rfl), fun z => absurd (show kf.kws "_law_run" = [] from by decide) z, sc__law_run, chk__law_run, rfl, rfl⟩⟩
theorem chk_law : chkSs ⟨["script", "draw", "function", "before", "j", "inputs", "fuel", "due"], defScope s_law, none, kf, true⟩ d_law.body (defBody s_law) = true := by decide +kernel
theorem sc_law : FnScope ["script", "draw", "function", "before", "j", "inputs", "fuel", "due"] ["script"] (defScope s_law) := ⟨rfl, rfl, rfl, by decide +kernel, rfl, by decide +kernel, by decide +kernel⟩
theorem is_law (X : K.In h) (G : h.Ns mainGlobals mg) (c : He.SaysD fas fns K) : ∃ fd, LawIs K mg kf d_law "law" "law" s_law (He.fAd K ("law", none)) fd ["script", "draw", "function", "before", "j", "inputs", "fuel", "due"] := by
  obtain ⟨fd, F⟩ := c.def_ 24 (d := dd ("law", none) "law" "law" s_law) rfl
  exact ⟨fd, ⟨F, He.glo_ok X G (c.fact 20 (f := .glo "law") rfl), fun s u => F.bindsA (ps := ["script"]) (fun _ _ _ _ _ _ us hl => (match us, hl with | [_], _ => rfl)) s [u] rfl, sc_law, chk_law, rfl⟩⟩
theorem modOk (X : K.In h) (G : h.Ns mainGlobals mg) (c : He.SaysD fas fns K) : ModOk mg where
  bi := fun f => by
    cases f
    · exact He.free_ok X G (c.fact 27 (f := .free "len") rfl)
    · exact He.free_ok X G (c.fact 21 (f := .free "abs") rfl)
    · exact He.free_ok X G (c.fact 26 (f := .free "int") rfl)
    · exact He.free_ok X G (c.fact 24 (f := .free "bool") rfl)
    · exact He.free_ok X G (c.fact 29 (f := .free "max") rfl)
    · exact He.free_ok X G (c.fact 30 (f := .free "min") rfl)
    · exact He.free_ok X G (c.fact 28 (f := .free "list") rfl)
    · exact He.free_ok X G (c.fact 33 (f := .free "tuple") rfl)
    · exact He.free_ok X G (c.fact 31 (f := .free "sorted") rfl)
    · exact He.free_ok X G (c.fact 32 (f := .free "sum") rfl)
    · exact He.free_ok X G (c.fact 23 (f := .free "any") rfl)
    · exact He.free_ok X G (c.fact 22 (f := .free "all") rfl)
    · exact He.free_ok X G (c.fact 25 (f := .free "dict") rfl)
    · exact He.free_ok X G (c.fact 34 (f := .free "isinstance") rfl)
    · exact He.free_ok X G (c.fact 39 (f := .free "repr") rfl)
    · exact He.free_ok X G (c.fact 36 (f := .free "str") rfl)
    · exact He.free_ok X G (c.fact 37 (f := .free "reversed") rfl)
    · exact He.free_ok X G (c.fact 38 (f := .free "set") rfl)
  range := He.free_ok X G (c.fact 35 (f := .free "range") rfl)
theorem kfOk (X : K.In h) (G : h.Ns mainGlobals mg) (c : He.SaysD fas fns K) : KfOk K mg kf where
  cls := fun x q => by
    simp only [kf, List.mem_cons, List.not_mem_nil, or_false] at q
    rcases q with rfl
    · exact He.cls_ok (c.fact 41 (f := .cls "Runner") rfl)
  noat := fun x f q => by
    simp only [kf, List.mem_cons, List.not_mem_nil, or_false, Prod.mk.injEq] at q
    rcases q with ⟨rfl, rfl⟩ | ⟨rfl, rfl⟩ | ⟨rfl, rfl⟩ | ⟨rfl, rfl⟩ | ⟨rfl, rfl⟩ | ⟨rfl, rfl⟩ | ⟨rfl, rfl⟩ | ⟨rfl, rfl⟩
    · exact He.noat_ok (c.fact 42 (f := .noat "Runner" "blocks") rfl)
    · exact He.noat_ok (c.fact 43 (f := .noat "Runner" "ending") rfl)
    · exact He.noat_ok (c.fact 44 (f := .noat "Runner" "label") rfl)
    · exact He.noat_ok (c.fact 45 (f := .noat "Runner" "memory") rfl)
    · exact He.noat_ok (c.fact 46 (f := .noat "Runner" "steps") rfl)
    · exact He.noat_ok (c.fact 47 (f := .noat "Runner" "variables") rfl)
    · exact He.noat_ok (c.fact 48 (f := .noat "Runner" "width") rfl)
    · exact He.noat_ok (c.fact 49 (f := .noat "Runner" "writes") rfl)
  mkr := fun x q => by
    simp only [kf, List.mem_cons, List.not_mem_nil, or_false] at q
    rcases q with rfl
    · exact ⟨⟨_, He.mkr_ok (c.fact 54 (f := .mkr "Runner") rfl)⟩, He.glo_ok X G (c.fact 40 (f := .glo "Runner") rfl)⟩
theorem defs_at (X : K.In h) (G : h.Ns mainGlobals mg) (c : He.SaysD fas fns K) (f : Str) (d : Df) (e : T f = some d) : DefAt K mg kf f d := by
  by_cases q0 : f = "top"
  · subst q0; rw [T_top] at e; cases e; obtain ⟨fd, Di⟩ := is_top X G c; exact .inl ⟨rfl, _, _, _, _, _, _, _, Di⟩
  by_cases q1 : f = "shifted"
  · subst q1; rw [T_shifted] at e; cases e; obtain ⟨fd, Di⟩ := is_shifted X G c; exact .inl ⟨rfl, _, _, _, _, _, _, _, Di⟩
  by_cases q2 : f = "compute"
  · subst q2; rw [T_compute] at e; cases e; obtain ⟨fd, Di⟩ := is_compute X G c; exact .inl ⟨rfl, _, _, _, _, _, _, _, Di⟩
  by_cases q3 : f = "Runner.__init__"
  · subst q3; rw [T_Runner___init__] at e; cases e; obtain ⟨fd, Di⟩ := is_Runner___init__ X G c; exact .inl ⟨rfl, _, _, _, _, _, _, _, Di⟩
  by_cases q4 : f = "Runner.value"
  · subst q4; rw [T_Runner_value] at e; cases e; obtain ⟨fd, Di⟩ := is_Runner_value X G c; exact .inl ⟨rfl, _, _, _, _, _, _, _, Di⟩
  by_cases q5 : f = "Runner.statement"
  · subst q5; rw [T_Runner_statement] at e; cases e; obtain ⟨fd, Di⟩ := is_Runner_statement X G c; exact .inl ⟨rfl, _, _, _, _, _, _, _, Di⟩
  by_cases q6 : f = "Runner.block"
  · subst q6; rw [T_Runner_block] at e; cases e; obtain ⟨fd, Di⟩ := is_Runner_block X G c; exact .inl ⟨rfl, _, _, _, _, _, _, _, Di⟩
  by_cases q7 : f = "run"
  · subst q7; rw [T_run] at e; cases e; obtain ⟨fd, Di⟩ := is_run X G c; exact .inl ⟨rfl, _, _, _, _, _, _, _, Di⟩
  by_cases q8 : f = "trace"
  · subst q8; rw [T_trace] at e; cases e; obtain ⟨fd, Di⟩ := is_trace X G c; exact .inr ⟨_, rfl, _, _, _, _, _, _, _, Di⟩
  by_cases q9 : f = "_law_draw"
  · subst q9; rw [T__law_draw] at e; cases e; obtain ⟨fd, Di⟩ := is__law_draw X G c; exact .inl ⟨rfl, _, _, _, _, _, _, _, Di⟩
  by_cases q10 : f = "_law_take"
  · subst q10; rw [T__law_take] at e; cases e; obtain ⟨fd, Di⟩ := is__law_take X G c; exact .inl ⟨rfl, _, _, _, _, _, _, _, Di⟩
  by_cases q11 : f = "_law_top"
  · subst q11; rw [T__law_top] at e; cases e; obtain ⟨fd, Di⟩ := is__law_top X G c; exact .inl ⟨rfl, _, _, _, _, _, _, _, Di⟩
  by_cases q12 : f = "_law_compute"
  · subst q12; rw [T__law_compute] at e; cases e; obtain ⟨fd, Di⟩ := is__law_compute X G c; exact .inl ⟨rfl, _, _, _, _, _, _, _, Di⟩
  by_cases q13 : f = "_law_pairs"
  · subst q13; rw [T__law_pairs] at e; cases e; obtain ⟨fd, Di⟩ := is__law_pairs X G c; exact .inl ⟨rfl, _, _, _, _, _, _, _, Di⟩
  by_cases q14 : f = "_law_word"
  · subst q14; rw [T__law_word] at e; cases e; obtain ⟨fd, Di⟩ := is__law_word X G c; exact .inl ⟨rfl, _, _, _, _, _, _, _, Di⟩
  by_cases q15 : f = "_law_expression"
  · subst q15; rw [T__law_expression] at e; cases e; obtain ⟨fd, Di⟩ := is__law_expression X G c; exact .inl ⟨rfl, _, _, _, _, _, _, _, Di⟩
  by_cases q16 : f = "_law_statement"
  · subst q16; rw [T__law_statement] at e; cases e; obtain ⟨fd, Di⟩ := is__law_statement X G c; exact .inl ⟨rfl, _, _, _, _, _, _, _, Di⟩
  by_cases q17 : f = "_law_function"
  · subst q17; rw [T__law_function] at e; cases e; obtain ⟨fd, Di⟩ := is__law_function X G c; exact .inl ⟨rfl, _, _, _, _, _, _, _, Di⟩
  by_cases q18 : f = "_law_rule"
  · subst q18; rw [T__law_rule] at e; cases e; obtain ⟨fd, Di⟩ := is__law_rule X G c; exact .inl ⟨rfl, _, _, _, _, _, _, _, Di⟩
  by_cases q19 : f = "_law_machine"
  · subst q19; rw [T__law_machine] at e; cases e; obtain ⟨fd, Di⟩ := is__law_machine X G c; exact .inl ⟨rfl, _, _, _, _, _, _, _, Di⟩
  by_cases q20 : f = "_law_tied"
  · subst q20; rw [T__law_tied] at e; cases e; obtain ⟨fd, Di⟩ := is__law_tied X G c; exact .inl ⟨rfl, _, _, _, _, _, _, _, Di⟩
  by_cases q21 : f = "_law_inputs"
  · subst q21; rw [T__law_inputs] at e; cases e; obtain ⟨fd, Di⟩ := is__law_inputs X G c; exact .inl ⟨rfl, _, _, _, _, _, _, _, Di⟩
  by_cases q22 : f = "_law_value"
  · subst q22; rw [T__law_value] at e; cases e; obtain ⟨fd, Di⟩ := is__law_value X G c; exact .inl ⟨rfl, _, _, _, _, _, _, _, Di⟩
  by_cases q23 : f = "_law_run"
  · subst q23; rw [T__law_run] at e; cases e; obtain ⟨fd, Di⟩ := is__law_run X G c; exact .inl ⟨rfl, _, _, _, _, _, _, _, Di⟩
  unfold T at e
  rw [if_neg q0, if_neg q1, if_neg q2, if_neg q3, if_neg q4, if_neg q5, if_neg q6, if_neg q7, if_neg q8, if_neg q9, if_neg q10, if_neg q11, if_neg q12, if_neg q13, if_neg q14, if_neg q15, if_neg q16, if_neg q17, if_neg q18, if_neg q19, if_neg q20, if_neg q21, if_neg q22, if_neg q23] at e
  cases e
end
abbrev R : PySem.W.OpenRow := PySem.W.OpenLaw.row PySem.Challenge.rw_leasttiles_k03_runs_of_functions
abbrev hk : PySem.W.Hook := He.hookD 4 fas fns
def ob (s : PySem.W.SharedT) : He.AlD := He.obsDG 4 fas fns (HandSHeadRun.getT s)
theorem ob_eq (s : PySem.W.SharedT) : ob s = hk.obs s.abs := He.obsDG_eq (HandSHeadRun.getT_eq s)
theorem run (w : World) : HandSHeadRun.RunEq R (PySem.W.view R.prog [24]) hk ob 4000 ["top", "shifted", "compute", "run", "trace", "_law_draw", "_law_take", "_law_top", "_law_compute", "_law_pairs", "_law_word", "_law_expression", "_law_statement", "_law_function", "_law_rule", "_law_machine", "_law_tied", "_law_inputs", "_law_value", "_law_run", "Runner"] w := by
  intro os
  kernel_rfl
end Lw
namespace Lw
open PySem PySem.W PySem.Calls PyProof.Rows
theorem holds_of (holds : ∀ ns : List Int, ns.length ≤ 63 → ∃ h, MP.evSs (MP.evCall Lw.T 12) Lw.d_law.body (some (.fro (ns.map MP.PV.int)) :: List.replicate (Lw.d_law.ns - 1) none) [] = .rt (.bl true) h) : PySem.Challenge.rw_leasttiles_k03_runs_of_functions.Holds := by
  w_on; o_law
  refine HandSHeadRun.head_any (r := OpenLaw.row PySem.Challenge.rw_leasttiles_k03_runs_of_functions) (q := view (OpenLaw.row PySem.Challenge.rw_leasttiles_k03_runs_of_functions).prog [24]) (H := Lw.hk) (ob := Lw.ob) (M := 4000) (loose := ["top", "shifted", "compute", "run", "trace", "_law_draw", "_law_take", "_law_top", "_law_compute", "_law_pairs", "_law_word", "_law_expression", "_law_statement", "_law_function", "_law_rule", "_law_machine", "_law_tied", "_law_inputs", "_law_value", "_law_run", "Runner"]) (d := HandSHeadRun.topDef (OpenLaw.row PySem.Challenge.rw_leasttiles_k03_runs_of_functions).prog 24) (kwd := []) Lw.ob_eq
    (by kernel_rfl) (fun s => by kernel_rfl) Lw.run (by kernel_rfl) (by kernel_rfl) (by kernel_rfl) (by rfl) (by first | assumption | decide +kernel) (by decide +kernel) ⟨rfl, rfl, rfl, rfl, rfl, by decide +kernel⟩ ?hw ?hc
  case hw => w_witness2
  case hc =>
    refine MP.law_end (l := PySem.Challenge.rw_leasttiles_k03_runs_of_functions) (T := Lw.T) (dl := Lw.d_law) (k := 12) (n := 63) (fns := Lw.fns) (fas := Lw.fas) (kf := Lw.kf) rfl (by decide) (by kernel_rfl) ⟨rfl, by decide, by decide⟩ (by kernel_rfl) ?defs holds
    intro K mg h X G c
    obtain ⟨fd, Li⟩ := Lw.is_law X G c
    exact ⟨Lw.modOk X G c, Lw.kfOk X G c, fun f d e => Lw.defs_at X G c f d e, _, _, _, _, _, _, Li⟩
end Lw

set_option Elab.async false
set_option linter.all false
set_option maxRecDepth 100000
set_option maxHeartbeats 4000000
namespace MP
open PySem
open Out (ok bad)
/-! ### the laws' random functions -/
def g_top : Ss :=
    (.cons (.ret (.bin .Sub (.bin .LShift (.int 1) (.var 0)) (.int 1)))
    .nil)
def g_pairs : Ss :=
    (.cons (.ret (.lst (.cons (.str "add") (.cons (.str "sub") (.cons (.str "mul") (.cons (.str "and") (.cons (.str "or") (.cons (.str "xor") (.cons (.str "shl") (.cons (.str "shr") (.cons (.str "less") (.cons (.str "equal") .nil))))))))))))
    .nil)
def g_word : Ss :=
    (.cons (.asg (.nm 2) (.call "_law_take" (.cons (.var 0) (.cons (.int 6) .nil))))
    (.cons (.ite (.cmp .Lt (.var 2) (.int 3)) (.cons (.ret (.bi .min (.cons (.sub (.lst (.cons (.int 0) (.cons (.int 1) (.cons (.int 5) .nil)))) (.var 2)) (.cons (.call "_law_top" (.cons (.var 1) .nil)) .nil))))
    .nil) .nil)
    (.cons (.ite (.cmp .Eq (.var 2) (.int 3)) (.cons (.ret (.call "_law_top" (.cons (.var 1) .nil)))
    .nil) .nil)
    (.cons (.ret (.bin .Mod (.bi .int (.cons (.call "_law_take" (.cons (.var 0) (.cons (.int 65536) .nil))) .nil)) (.bin .LShift (.int 1) (.var 1))))
    .nil))))
def g_expression : Ss :=
    (.cons (.asg (.nm 2) (.sub (.var 0) (.str "draw")))
    (.cons (.asg (.nm 3) (.call "_law_take" (.cons (.var 2) (.cons (.int 10) .nil))))
    (.cons (.ite (.or (.cmp .Eq (.var 1) (.int 0)) (.cmp .Lt (.var 3) (.int 4))) (.cons (.ite (.cmp .Eq (.call "_law_take" (.cons (.var 2) (.cons (.int 3) .nil))) (.int 0)) (.cons (.ret (.tup (.cons (.str "int") (.cons (.call "_law_word" (.cons (.var 2) (.cons (.sub (.var 0) (.str "width")) .nil))) .nil))))
    .nil) .nil)
    (.cons (.ret (.tup (.cons (.str "var") (.cons (.sub (.sub (.var 0) (.str "variables")) (.call "_law_take" (.cons (.var 2) (.cons (.bi .len (.cons (.sub (.var 0) (.str "variables")) .nil)) .nil)))) .nil))))
    .nil)) .nil)
    (.cons (.ite (.cmp .Eq (.var 3) (.int 4)) (.cons (.ret (.tup (.cons (.str "load") (.cons (.call "_law_expression" (.cons (.var 0) (.cons (.bin .Sub (.var 1) (.int 1)) .nil))) .nil))))
    .nil) .nil)
    (.cons (.ite (.cmp .Eq (.var 3) (.int 5)) (.cons (.ret (.tup (.cons (.sub (.lst (.cons (.str "not") (.cons (.str "neg") .nil))) (.call "_law_take" (.cons (.var 2) (.cons (.int 2) .nil)))) (.cons (.call "_law_expression" (.cons (.var 0) (.cons (.bin .Sub (.var 1) (.int 1)) .nil))) .nil))))
    .nil) .nil)
    (.cons (.asg (.nm 4) (.sub (.call "_law_pairs" .nil) (.sub (.lst (.cons (.int 0) (.cons (.int 0) (.cons (.int 1) (.cons (.int 2) (.cons (.int 3) (.cons (.int 4) (.cons (.int 5) (.cons (.int 6) (.cons (.int 7) (.cons (.int 8) (.cons (.int 9) (.cons (.int 0) .nil))))))))))))) (.call "_law_take" (.cons (.var 2) (.cons (.int 12) .nil))))))
    (.cons (.ret (.tup (.cons (.var 4) (.cons (.call "_law_expression" (.cons (.var 0) (.cons (.bin .Sub (.var 1) (.int 1)) .nil))) (.cons (.call "_law_expression" (.cons (.var 0) (.cons (.bin .Sub (.var 1) (.int 1)) .nil))) .nil)))))
    .nil)))))))
def g_statement : Ss :=
    (.cons (.asg (.nm 1) (.sub (.var 0) (.str "draw")))
    (.cons (.asg (.nm 2) (.call "_law_take" (.cons (.var 1) (.cons (.int 8) .nil))))
    (.cons (.ite (.cmp .Lt (.var 2) (.int 5)) (.cons (.ret (.tup (.cons (.str "set") (.cons (.sub (.sub (.var 0) (.str "variables")) (.call "_law_take" (.cons (.var 1) (.cons (.bi .len (.cons (.sub (.var 0) (.str "variables")) .nil)) .nil)))) (.cons (.call "_law_expression" (.cons (.var 0) (.cons (.int 2) .nil))) .nil)))))
    .nil) .nil)
    (.cons (.ite (.cmp .Lt (.var 2) (.int 7)) (.cons (.ret (.tup (.cons (.str "write") (.cons (.call "_law_expression" (.cons (.var 0) (.cons (.int 2) .nil))) .nil))))
    .nil) .nil)
    (.cons (.ret (.tup (.cons (.str "store") (.cons (.call "_law_expression" (.cons (.var 0) (.cons (.int 1) .nil))) (.cons (.call "_law_expression" (.cons (.var 0) (.cons (.int 2) .nil))) .nil)))))
    .nil)))))
def g_function : Ss :=
    (.cons (.asg (.nm 3) (.sub (.lst (.cons (.int 1) (.cons (.int 2) (.cons (.int 3) (.cons (.int 4) (.cons (.int 8) (.cons (.int 16) (.cons (.bin .Add (.int 1) (.call "_law_take" (.cons (.var 0) (.cons (.int 16) .nil)))) .nil)))))))) (.call "_law_take" (.cons (.var 0) (.cons (.int 7) .nil)))))
    (.cons (.asg (.nm 4) (.sub (.lst (.cons (.int 0) (.cons (.int 1) (.cons (.int 2) (.cons (.int 3) (.cons (.call "_law_take" (.cons (.var 0) (.cons (.int 7) .nil))) .nil)))))) (.call "_law_take" (.cons (.var 0) (.cons (.int 5) .nil)))))
    (.cons (.asg (.nm 5) (.slc (.sub (.lst (.cons (.lst (.cons (.int 0) (.cons (.int 1) (.cons (.int 2) (.cons (.int 3) (.cons (.int 7) (.cons (.int 40) .nil))))))) (.cons (.lst (.cons (.int 0) (.cons (.int 1) (.cons (.int 53) (.cons (.int 3) (.cons (.int 4) (.cons (.int 5) (.cons (.int 99) .nil)))))))) .nil))) (.call "_law_take" (.cons (.var 0) (.cons (.int 2) .nil)))) .none (.some (.bin .Add (.int 2) (.call "_law_take" (.cons (.var 0) (.cons (.int 6) .nil)))))))
    (.cons (.asg (.nm 6) (.dic (.cons (.str "draw") (.var 0) (.cons (.str "width") (.var 3) (.cons (.str "variables") (.var 5) .nil)))))
    (.cons (.asg (.nm 7) (.bin .Add (.int 1) (.call "_law_take" (.cons (.var 0) (.cons (.var 1) .nil)))))
    (.cons (.asg (.nm 8) (.lc (.bin .Add (.int 3) (.bin .Mult (.int 5) (.var 10))) (.nm 10) (.rng (.cons (.var 7) .nil)) .nil [10]))
    (.cons (.ite (.cmp .Eq (.call "_law_take" (.cons (.var 0) (.cons (.int 3) .nil))) (.int 0)) (.cons (.asg (.nm 8) (.lc (.sub (.var 8) (.bin .Sub (.bin .Sub (.var 7) (.int 1)) (.var 10))) (.nm 10) (.rng (.cons (.var 7) .nil)) .nil [10]))
    .nil) .nil)
    (.cons (.asg (.nm 9) (.lst .nil))
    (.cons (.frr (.nm 10) (.rng (.cons (.var 7) .nil)) (.cons (.asg (.nm 11) (.lc (.call "_law_statement" (.cons (.var 6) .nil)) (.nm 16) (.rng (.cons (.call "_law_take" (.cons (.var 0) (.cons (.bin .Add (.var 2) (.int 1)) .nil))) .nil)) .nil [16]))
    (.cons (.asg (.nm 12) (.call "_law_take" (.cons (.var 0) (.cons (.int 4) .nil))))
    (.cons (.asg (.nm 13) (.slc (.var 8) (.some (.bin .Add (.var 10) (.int 1))) .none))
    (.cons (.ite (.or (.cmp .Eq (.var 13) (.lst .nil)) (.cmp .Eq (.var 12) (.int 0))) (.cons (.asg (.nm 14) (.tup (.cons (.str "return") (.cons (.call "_law_expression" (.cons (.var 6) (.cons (.int 1) .nil))) .nil))))
    .nil) (.cons (.ite (.cmp .Eq (.var 12) (.int 1)) (.cons (.asg (.nm 14) (.tup (.cons (.str "go") (.cons (.sub (.var 13) (.call "_law_take" (.cons (.var 0) (.cons (.bi .len (.cons (.var 13) .nil)) .nil)))) .nil))))
    .nil) (.cons (.asg (.nm 15) (.ite (.cmp .Eq (.call "_law_take" (.cons (.var 0) (.cons (.int 3) .nil))) (.int 0)) (.sub (.slc (.var 8) (.some (.int 1)) .none) (.call "_law_take" (.cons (.var 0) (.cons (.bin .Sub (.var 7) (.int 1)) .nil)))) (.sub (.var 13) (.call "_law_take" (.cons (.var 0) (.cons (.bi .len (.cons (.var 13) .nil)) .nil))))))
    (.cons (.asg (.nm 14) (.tup (.cons (.str "if") (.cons (.call "_law_expression" (.cons (.var 6) (.cons (.int 2) .nil))) (.cons (.var 15) (.cons (.sub (.var 13) (.call "_law_take" (.cons (.var 0) (.cons (.bi .len (.cons (.var 13) .nil)) .nil)))) .nil))))))
    .nil)))
    .nil))
    (.cons (.ex (.mt .append (.var 9) (.cons (.tup (.cons (.sub (.var 8) (.var 10)) (.cons (.bi .tuple (.cons (.var 11) .nil)) (.cons (.var 14) .nil)))) .nil)))
    .nil))))))
    (.cons (.ret (.tup (.cons (.var 3) (.cons (.var 4) (.cons (.bi .tuple (.cons (.var 9) .nil)) .nil)))))
    .nil))))))))))
structure Gen (T : Str → Option Df) : Prop where
  take : T "_law_take" = some ⟨2, 3, b_take, none⟩
  draw : T "_law_draw" = some ⟨1, 3, b_draw, none⟩
  top : T "_law_top" = some ⟨1, 1, g_top, none⟩
  pairs : T "_law_pairs" = some ⟨0, 0, g_pairs, none⟩
  word : T "_law_word" = some ⟨2, 3, g_word, none⟩
  expression : T "_law_expression" = some ⟨2, 5, g_expression, none⟩
  statement : T "_law_statement" = some ⟨1, 3, g_statement, none⟩
  function_ : T "_law_function" = some ⟨3, 17, g_function, none⟩
/-- a draw stands at place 1 -/
def DW (h : PH) : Prop := ∃ (cs : List Int) (o : PO), h[0]? = some (.lst (cs.map PV.int)) ∧ h[1]? = some o ∧ DrawO 0 o
/-- all but the draw's own place is kept -/
structure Fr (h h' : PH) : Prop where
  dw : DW h'
  len : h.length ≤ h'.length
  keep : ∀ i, i < h.length → i ≠ 1 → h'[i]? = h[i]?
theorem Fr.refl {h : PH} (d : DW h) : Fr h h := ⟨d, Nat.le_refl _, fun _ _ _ => rfl⟩
theorem Fr.trans {a b c : PH} (x : Fr a b) (y : Fr b c) : Fr a c := ⟨y.dw, Nat.le_trans x.len y.len, fun i hi hn => (y.keep i (Nat.lt_of_lt_of_le hi x.len) hn).trans (x.keep i hi hn)⟩
theorem Fr.at {h h' : PH} {l : Nat} {o : PO} (x : Fr h h') (e : h[l]? = some o) (n : l ≠ 1) : h'[l]? = some o := (x.keep l (lt_of_some e) n).trans e
theorem DW.two {h : PH} (d : DW h) : 2 ≤ h.length := by
  obtain ⟨_, _, _, e, _⟩ := d
  exact lt_of_some e
theorem Fr.new {h : PH} (d : DW h) (o : PO) : Fr h (h ++ [o]) := by
  have := d.two
  refine ⟨?_, by simp, fun i hi _ => List.getElem?_append_left hi⟩
  obtain ⟨cs, p, e1, e2, e3⟩ := d
  exact ⟨cs, p, by rw [List.getElem?_append_left (by omega)]; exact e1, by rw [List.getElem?_append_left (by omega)]; exact e2, e3⟩
theorem at_new {h : PH} {o : PO} : (h ++ [o])[h.length]? = some o := by simp
section
variable {T : Str → Option Df} {h : PH} {m w : Int} {k : Nat}
theorem gen_take (G : Gen T) (d : DW h) (h0 : 0 < m) (h1 : m < 1073741824) : (evCall T (k + 1) "_law_take" [.ref 1, .int m] h).Ok fun v h' => (∃ r : Int, v = .int r ∧ 0 ≤ r ∧ r < m) ∧ Fr h h' := by
  obtain ⟨cs, o, e1, e2, hd⟩ := d
  refine call_ok G.take rfl (by decide) ?_
  obtain ⟨r, o', q1, q2, q3, q4⟩ := take_ok (C := evCall T k) e1 e2 hd (by decide) h0 h1
  show (evSs (evCall T k) b_take [some (.ref 1), some (.int m), none] h).Rt _
  rw [q4]
  have l2 := lt_of_some e2
  exact ⟨⟨r, rfl, q1, q2⟩, ⟨cs, o', by rw [List.getElem?_set_ne (by omega)]; exact e1, List.getElem?_set_self l2, q3⟩, by rw [List.length_set]; exact Nat.le_refl _, fun i _ hn => by rw [List.getElem?_set_ne (Ne.symm hn)]⟩
theorem b_shl {i j : Int} {h : PH} (q1 : 0 ≤ j) (q2 : j ≤ 1000000) (q3 : i.natAbs < 2 ^ 64) : binF .LShift (.int i) (.int j) h = .ok (.int (i * 2 ^ j.toNat)) h := if_pos ⟨q1, q2, q3⟩
theorem gen_top (G : Gen T) (w0 : 0 ≤ w) (w1 : w ≤ 64) : (evCall T (k + 1) "_law_top" [.int w] h).Ok fun v h' => v = .int (2 ^ w.toNat - 1) ∧ h' = h := by
  refine call_ok G.top rfl (by decide) ?_
  show (evSs (evCall T k) g_top [some (.int w)] h).Rt _
  unfold g_top
  simp [bnd_bnd, bnd_sbnd, sbnd_seq, seq_seq, seqC_ap, ss_cons, ss_nil, s_asg, s_ret, s_ite, s_ex, s_for, s_whl, e_non, e_bl, e_int, e_str, e_var, e_bin, e_neg, e_cmp, e_not, e_tup, e_lst, e_dic0, e_sub, e_call, e_bi, e_mt, kindG_same, e_isi, e_inv, e_lrg, e_fld, e_mk, e_um, e_kcall, e_lgen, e_rpr, s_sfld, s_augF, e_lc, e_dc, wipeP, new, evEs, evT, evTs, evP, evI, evG, bnd_ok, sbnd_ok, seq_nx, seq_rt, to_nx, go_nx, go_ct, rt_rt, ok_ok, slot, item0, item1, item2, item3, sub_t, i_int, i_abs, i_lenT, c_eqI, c_neI, c_eqS, c_neS, c_lt, c_le, c_gt, c_ge, asB_bl, iteC_t, iteC_f, iteC_d, b_add, b_sub, b_mul, b_mod, b_shl w0 (by omega : w ≤ 1000000) (by decide : (1 : Int).natAbs < 2 ^ 64)]
def pairs : List Str := ["add", "sub", "mul", "and", "or", "xor", "shl", "shr", "less", "equal"]
theorem gen_pairs (G : Gen T) : (evCall T (k + 1) "_law_pairs" [] h).Ok fun v h' => v = .ref h.length ∧ h' = h ++ [.lst (pairs.map PV.str)] := by
  have hS : (64 : Nat) ≤ sizeLine := by decide
  refine call_ok G.pairs rfl (by decide) ?_
  show (evSs (evCall T k) g_pairs [] h).Rt _
  unfold g_pairs
  simp [bnd_bnd, bnd_sbnd, sbnd_seq, seq_seq, seqC_ap, ss_cons, ss_nil, s_asg, s_ret, s_ite, s_ex, s_for, s_whl, e_non, e_bl, e_int, e_str, e_var, e_bin, e_neg, e_cmp, e_not, e_tup, e_lst, e_dic0, e_sub, e_call, e_bi, e_mt, kindG_same, e_isi, e_inv, e_lrg, e_fld, e_mk, e_um, e_kcall, e_lgen, e_rpr, s_sfld, s_augF, e_lc, e_dc, wipeP, new, evEs, evT, evTs, evP, evI, evG, bnd_ok, sbnd_ok, seq_nx, seq_rt, to_nx, go_nx, go_ct, rt_rt, ok_ok, slot, item0, item1, item2, item3, sub_t, i_int, i_abs, i_lenT, c_eqI, c_neI, c_eqS, c_neS, c_lt, c_le, c_gt, c_ge, asB_bl, iteC_t, iteC_f, iteC_d, b_add, b_sub, b_mul, b_mod, pairs, (by omega : 10 ≤ sizeLine)]
theorem item_mem {xs : List PV} {r : Int} (h0 : 0 ≤ r) (h1 : r < xs.length) : ∃ v, v ∈ xs ∧ ∀ h, itemF xs (.int r) h = ok v h := by
  obtain ⟨v, hv⟩ : ∃ v, xs[r.toNat]? = some v := ⟨xs[r.toNat]'(by omega), List.getElem?_eq_getElem (by omega)⟩
  exact ⟨v, List.mem_of_getElem? hv, fun h => itemF_at h0 hv⟩
theorem gen_word (G : Gen T) (d : DW h) (w0 : 0 ≤ w) (w1 : w ≤ 64) : (evCall T (k + 2) "_law_word" [.ref 1, .int w] h).Ok fun v h' => (∃ n : Int, v = .int n ∧ 0 ≤ n ∧ n < 2 ^ w.toNat) ∧ Fr h h' := by
  have hS : (64 : Nat) ≤ sizeLine := by decide
  have pw : (1 : Int) ≤ 2 ^ w.toNat := by
    have : 0 < (2 : Int) ^ w.toNat := Int.pow_pos (by decide)
    omega
  refine call_ok G.word rfl (by decide) ?_
  show (evSs (evCall T (k + 1)) g_word [some (.ref 1), some (.int w), none] h).Rt _
  unfold g_word
  simp only [bnd_bnd, bnd_sbnd, sbnd_seq, seq_seq, seqC_ap, ss_cons, ss_nil, s_asg, s_ret, s_ite, s_ex, s_for, s_whl, e_non, e_bl, e_int, e_str, e_var, e_bin, e_neg, e_cmp, e_not, e_tup, e_lst, e_dic0, e_sub, e_call, e_bi, e_mt, kindG_same, e_isi, e_inv, e_lrg, e_fld, e_mk, e_um, e_kcall, e_lgen, e_rpr, s_sfld, s_augF, e_lc, e_dc, wipeP, new, evEs, evT, evTs, evP, evI, evG, bnd_ok, sbnd_ok, seq_nx, seq_rt, to_nx, go_nx, go_ct, rt_rt, ok_ok, slot, item0, item1, item2, item3, sub_t, i_int, i_abs, i_lenT, c_eqI, c_neI, c_eqS, c_neS, c_lt, c_le, c_gt, c_ge, asB_bl, iteC_t, iteC_f, iteC_d, b_add, b_sub, b_mul, b_mod, List.getElem?_cons_succ, List.getElem?_cons_zero, List.set_cons_succ, List.set_cons_zero]
  refine Out.Ok.rt (gen_take G d (by decide) (by decide)) fun v h1 ⟨⟨r, ev, r0, r1⟩, f1⟩ => ?_
  subst ev
  simp only [bnd_bnd, bnd_sbnd, sbnd_seq, seq_seq, seqC_ap, ss_cons, ss_nil, s_asg, s_ret, s_ite, s_ex, s_for, s_whl, e_non, e_bl, e_int, e_str, e_var, e_bin, e_neg, e_cmp, e_not, e_tup, e_lst, e_dic0, e_sub, e_call, e_bi, e_mt, kindG_same, e_isi, e_inv, e_lrg, e_fld, e_mk, e_um, e_kcall, e_lgen, e_rpr, s_sfld, s_augF, e_lc, e_dc, wipeP, new, evEs, evT, evTs, evP, evI, evG, bnd_ok, sbnd_ok, seq_nx, seq_rt, to_nx, go_nx, go_ct, rt_rt, ok_ok, slot, item0, item1, item2, item3, sub_t, i_int, i_abs, i_lenT, c_eqI, c_neI, c_eqS, c_neS, c_lt, c_le, c_gt, c_ge, asB_bl, iteC_t, iteC_f, iteC_d, b_add, b_sub, b_mul, b_mod, List.getElem?_cons_succ, List.getElem?_cons_zero, List.set_cons_succ, List.set_cons_zero]
  by_cases q : r < 3
  · rw [if_pos q]
    simp only [bnd_bnd, bnd_sbnd, sbnd_seq, seq_seq, seqC_ap, ss_cons, ss_nil, s_asg, s_ret, s_ite, s_ex, s_for, s_whl, e_non, e_bl, e_int, e_str, e_var, e_bin, e_neg, e_cmp, e_not, e_tup, e_lst, e_dic0, e_sub, e_call, e_bi, e_mt, kindG_same, e_isi, e_inv, e_lrg, e_fld, e_mk, e_um, e_kcall, e_lgen, e_rpr, s_sfld, s_augF, e_lc, e_dc, wipeP, new, evEs, evT, evTs, evP, evI, evG, bnd_ok, sbnd_ok, seq_nx, seq_rt, to_nx, go_nx, go_ct, rt_rt, ok_ok, slot, item0, item1, item2, item3, sub_t, i_int, i_abs, i_lenT, c_eqI, c_neI, c_eqS, c_neS, c_lt, c_le, c_gt, c_ge, asB_bl, iteC_t, iteC_f, iteC_d, b_add, b_sub, b_mul, b_mod, List.getElem?_cons_succ, List.getElem?_cons_zero, List.set_cons_succ, List.set_cons_zero, List.length_cons, List.length_nil]
    rw [if_pos (by omega), sbnd_ok]
    obtain ⟨x, hx, ex⟩ := item_mem (xs := [.int 0, .int 1, .int 5]) r0 (by simpa using q)
    simp only [sub_l at_new, ex, sbnd_ok]
    refine Out.Ok.rt (gen_top G w0 w1) fun v h2 ⟨ev, eh⟩ => ?_
    subst ev eh
    obtain ⟨n, en, n0⟩ : ∃ n : Int, x = .int n ∧ 0 ≤ n := by
      simp only [List.mem_cons, List.not_mem_nil, or_false] at hx
      rcases hx with h | h | h <;> exact ⟨_, h, by decide⟩
    subst en
    refine ⟨⟨_, rfl, ?_⟩, f1.trans (Fr.new f1.dw _)⟩
    split <;> omega
  · rw [if_neg q]
    simp only [bnd_bnd, bnd_sbnd, sbnd_seq, seq_seq, seqC_ap, ss_cons, ss_nil, s_asg, s_ret, s_ite, s_ex, s_for, s_whl, e_non, e_bl, e_int, e_str, e_var, e_bin, e_neg, e_cmp, e_not, e_tup, e_lst, e_dic0, e_sub, e_call, e_bi, e_mt, kindG_same, e_isi, e_inv, e_lrg, e_fld, e_mk, e_um, e_kcall, e_lgen, e_rpr, s_sfld, s_augF, e_lc, e_dc, wipeP, new, evEs, evT, evTs, evP, evI, evG, bnd_ok, sbnd_ok, seq_nx, seq_rt, to_nx, go_nx, go_ct, rt_rt, ok_ok, slot, item0, item1, item2, item3, sub_t, i_int, i_abs, i_lenT, c_eqI, c_neI, c_eqS, c_neS, c_lt, c_le, c_gt, c_ge, asB_bl, iteC_t, iteC_f, iteC_d, b_add, b_sub, b_mul, b_mod, List.getElem?_cons_succ, List.getElem?_cons_zero, List.set_cons_succ, List.set_cons_zero]
    by_cases q2 : r = 3
    · rw [if_pos q2]
      simp only [bnd_bnd, bnd_sbnd, sbnd_seq, seq_seq, seqC_ap, ss_cons, ss_nil, s_asg, s_ret, s_ite, s_ex, s_for, s_whl, e_non, e_bl, e_int, e_str, e_var, e_bin, e_neg, e_cmp, e_not, e_tup, e_lst, e_dic0, e_sub, e_call, e_bi, e_mt, kindG_same, e_isi, e_inv, e_lrg, e_fld, e_mk, e_um, e_kcall, e_lgen, e_rpr, s_sfld, s_augF, e_lc, e_dc, wipeP, new, evEs, evT, evTs, evP, evI, evG, bnd_ok, sbnd_ok, seq_nx, seq_rt, to_nx, go_nx, go_ct, rt_rt, ok_ok, slot, item0, item1, item2, item3, sub_t, i_int, i_abs, i_lenT, c_eqI, c_neI, c_eqS, c_neS, c_lt, c_le, c_gt, c_ge, asB_bl, iteC_t, iteC_f, iteC_d, b_add, b_sub, b_mul, b_mod, List.getElem?_cons_succ, List.getElem?_cons_zero]
      refine Out.Ok.rt (gen_top G w0 w1) fun v h2 ⟨ev, eh⟩ => ?_
      subst ev eh
      exact ⟨⟨_, rfl, by omega, by omega⟩, f1⟩
    · rw [if_neg q2]
      simp only [bnd_bnd, bnd_sbnd, sbnd_seq, seq_seq, seqC_ap, ss_cons, ss_nil, s_asg, s_ret, s_ite, s_ex, s_for, s_whl, e_non, e_bl, e_int, e_str, e_var, e_bin, e_neg, e_cmp, e_not, e_tup, e_lst, e_dic0, e_sub, e_call, e_bi, e_mt, kindG_same, e_isi, e_inv, e_lrg, e_fld, e_mk, e_um, e_kcall, e_lgen, e_rpr, s_sfld, s_augF, e_lc, e_dc, wipeP, new, evEs, evT, evTs, evP, evI, evG, bnd_ok, sbnd_ok, seq_nx, seq_rt, to_nx, go_nx, go_ct, rt_rt, ok_ok, slot, item0, item1, item2, item3, sub_t, i_int, i_abs, i_lenT, c_eqI, c_neI, c_eqS, c_neS, c_lt, c_le, c_gt, c_ge, asB_bl, iteC_t, iteC_f, iteC_d, b_add, b_sub, b_mul, b_mod, List.getElem?_cons_succ, List.getElem?_cons_zero, List.set_cons_succ, List.set_cons_zero]
      refine Out.Ok.rt (gen_take G f1.dw (by decide) (by decide)) fun v h2 ⟨⟨r2, ev, r20, r21⟩, f2⟩ => ?_
      subst ev
      simp only [i_int, sbnd_ok, bnd_ok, b_shl w0 (by omega : w ≤ 1000000) (by decide : (1 : Int).natAbs < 2 ^ 64), Int.one_mul, b_mod (show (0 : Int) < 2 ^ w.toNat by omega)]
      exact ⟨⟨_, rfl, Int.emod_nonneg _ (by omega), Int.emod_lt_of_pos _ (by omega)⟩, f1.trans f2⟩
end
end MP

set_option Elab.async false
set_option linter.all false
set_option maxRecDepth 100000
set_option maxHeartbeats 4000000
namespace MP
open PySem
open Out (ok bad)
/-- expressions -/
inductive X where
  | int (n : Int) | var (v : Int) | load (e : X) | un (o : Str) (e : X) | bin (o : Str) (a b : X)
def X.pv : X → PV
  | .int n => .tup [.str "int", .int n]
  | .var v => .tup [.str "var", .int v]
  | .load e => .tup [.str "load", e.pv]
  | .un o e => .tup [.str o, e.pv]
  | .bin o a b => .tup [.str o, a.pv, b.pv]
def X.good (w : Int) (vars : List Int) : X → Prop
  | .int n => 0 ≤ n ∧ n < 2 ^ w.toNat
  | .var v => v ∈ vars
  | .load e => e.good w vars
  | .un o e => o ∈ (["not", "neg"] : List Str) ∧ e.good w vars
  | .bin o a b => o ∈ pairs ∧ a.good w vars ∧ b.good w vars
def X.deep : X → Nat
  | .int _ => 1
  | .var _ => 1
  | .load e => e.deep + 1
  | .un _ e => e.deep + 1
  | .bin _ a b => max a.deep b.deep + 1
/-- what the random parts lean on -/
structure GP (h : PH) (P V : Nat) (w : Int) (vars : List Int) : Prop where
  dw : DW h
  p : h[P]? = some (.dic [(.str "draw", .ref 1), (.str "width", .int w), (.str "variables", .ref V)])
  v : h[V]? = some (.lst (vars.map PV.int))
  p2 : P ≠ 1
  v2 : V ≠ 1
  w0 : 0 ≤ w
  w1 : w ≤ 64
  ne : 0 < vars.length
  le : vars.length < 64
section
variable {T : Str → Option Df} {h h' : PH} {m w : Int} {k P V : Nat} {vars : List Int}
theorem GP.fr (g : GP h P V w vars) (f : Fr h h') : GP h' P V w vars := ⟨f.dw, f.at g.p g.p2, f.at g.v g.v2, g.p2, g.v2, g.w0, g.w1, g.ne, g.le⟩
theorem GP.draw (g : GP h P V w vars) : subF (.ref P) (.str "draw") h = ok (.ref 1) h := by
  simp only [subF, g.p, lookF, isKey, if_true]; rfl
theorem GP.width (g : GP h P V w vars) : subF (.ref P) (.str "width") h = ok (.int w) h := by
  simp only [subF, g.p, lookF, isKey, if_true]; rfl
theorem GP.variables (g : GP h P V w vars) : subF (.ref P) (.str "variables") h = ok (.ref V) h := by
  simp only [subF, g.p, lookF, isKey, if_true]; rfl
theorem item_int {xs : List Int} {r : Int} (h0 : 0 ≤ r) (h1 : r < xs.length) : ∃ v, v ∈ xs ∧ ∀ h, itemF (xs.map PV.int) (.int r) h = ok (.int v) h := by
  obtain ⟨v, hv⟩ : ∃ v, xs[r.toNat]? = some v := ⟨xs[r.toNat]'(by omega), List.getElem?_eq_getElem (by omega)⟩
  exact ⟨v, List.mem_of_getElem? hv, fun h => itemF_at h0 (by rw [List.getElem?_map, hv]; rfl)⟩
theorem item_str {xs : List Str} {r : Int} (h0 : 0 ≤ r) (h1 : r < xs.length) : ∃ v, v ∈ xs ∧ ∀ h, itemF (xs.map PV.str) (.int r) h = ok (.str v) h := by
  obtain ⟨v, hv⟩ : ∃ v, xs[r.toNat]? = some v := ⟨xs[r.toNat]'(by omega), List.getElem?_eq_getElem (by omega)⟩
  exact ⟨v, List.mem_of_getElem? hv, fun h => itemF_at h0 (by rw [List.getElem?_map, hv]; rfl)⟩
/-- an expression is told -/
def IsX (w : Int) (vars : List Int) (d : Nat) (v : PV) : Prop := ∃ e : X, v = e.pv ∧ e.good w vars ∧ e.deep ≤ d + 1
theorem or_b {a b : Bool} {h : PH} : (if a = true then ok true h else ok b h) = ok (a || b) h := by cases a <;> rfl
theorem and_b {a b : Bool} {h : PH} : (if a = true then ok b h else ok false h) = ok (a && b) h := by cases a <;> rfl
theorem gen_expr (G : Gen T) : ∀ (d k : Nat) (h : PH), GP h P V w vars → (evCall T (k + d + 3) "_law_expression" [.ref P, .int d] h).Ok fun v h' => IsX w vars d v ∧ Fr h h' := by
  intro d
  induction d using Nat.strongRecOn with
  | ind d ih =>
  intro k h g
  have hS : (64 : Nat) ≤ sizeLine := by decide
  have q2 : 2 ≤ sizeLine := by omega
  have q3 : 3 ≤ sizeLine := by omega
  have q12 : 12 ≤ sizeLine := by omega
  have l2 : ([PV.str "int", .non].length : Nat) = 2 := rfl
  refine call_ok G.expression rfl (by decide) ?_
  show (evSs (evCall T (k + d + 2)) g_expression [some (.ref P), some (.int d), none, none, none] h).Rt _
  unfold g_expression
  simp only [bnd_bnd, bnd_sbnd, sbnd_seq, seq_seq, seqC_ap, ss_cons, ss_nil, s_asg, s_ret, s_ite, s_ex, s_for, s_whl, e_non, e_bl, e_int, e_str, e_var, e_bin, e_neg, e_cmp, e_not, e_tup, e_lst, e_dic0, e_sub, e_call, e_bi, e_mt, kindG_same, e_isi, e_inv, e_lrg, e_fld, e_mk, e_um, e_kcall, e_lgen, e_rpr, s_sfld, s_augF, e_lc, e_dc, wipeP, new, evEs, evT, evTs, evP, evI, evG, bnd_ok, sbnd_ok, seq_nx, seq_rt, to_nx, go_nx, go_ct, rt_rt, ok_ok, slot, item0, item1, item2, item3, sub_t, i_int, i_abs, i_lenT, c_eqI, c_neI, c_eqS, c_neS, c_lt, c_le, c_gt, c_ge, asB_bl, iteC_t, iteC_f, iteC_d, b_add, b_sub, b_mul, b_mod, List.getElem?_cons_succ, List.getElem?_cons_zero, List.set_cons_succ, List.set_cons_zero, g.draw]
  refine Out.Ok.rt (gen_take (k := k + d + 1) G g.dw (by decide) (by decide)) fun v h1 ⟨⟨r, ev, r0, r1⟩, f1⟩ => ?_
  subst ev
  have g1 := g.fr f1
  simp only [bnd_bnd, bnd_sbnd, sbnd_seq, seq_seq, seqC_ap, ss_cons, ss_nil, s_asg, s_ret, s_ite, s_ex, s_for, s_whl, e_non, e_bl, e_int, e_str, e_var, e_bin, e_neg, e_cmp, e_not, e_tup, e_lst, e_dic0, e_sub, e_call, e_bi, e_mt, kindG_same, e_isi, e_inv, e_lrg, e_fld, e_mk, e_um, e_kcall, e_lgen, e_rpr, s_sfld, s_augF, e_lc, e_dc, wipeP, new, evEs, evT, evTs, evP, evI, evG, bnd_ok, sbnd_ok, seq_nx, seq_rt, to_nx, go_nx, go_ct, rt_rt, ok_ok, slot, item0, item1, item2, item3, sub_t, i_int, i_abs, i_lenT, c_eqI, c_neI, c_eqS, c_neS, c_lt, c_le, c_gt, c_ge, asB_bl, iteC_t, iteC_f, iteC_d, b_add, b_sub, b_mul, b_mod, or_b, List.getElem?_cons_succ, List.getElem?_cons_zero, List.set_cons_succ, List.set_cons_zero]
  by_cases c1 : (d : Int) = 0 ∨ r < 4
  · rw [show (decide ((d : Int) = 0) || decide (r < 4)) = true from by simpa using c1]
    simp only [bnd_bnd, bnd_sbnd, sbnd_seq, seq_seq, seqC_ap, ss_cons, ss_nil, s_asg, s_ret, s_ite, s_ex, s_for, s_whl, e_non, e_bl, e_int, e_str, e_var, e_bin, e_neg, e_cmp, e_not, e_tup, e_lst, e_dic0, e_sub, e_call, e_bi, e_mt, kindG_same, e_isi, e_inv, e_lrg, e_fld, e_mk, e_um, e_kcall, e_lgen, e_rpr, s_sfld, s_augF, e_lc, e_dc, wipeP, new, evEs, evT, evTs, evP, evI, evG, bnd_ok, sbnd_ok, seq_nx, seq_rt, to_nx, go_nx, go_ct, rt_rt, ok_ok, slot, item0, item1, item2, item3, sub_t, i_int, i_abs, i_lenT, c_eqI, c_neI, c_eqS, c_neS, c_lt, c_le, c_gt, c_ge, asB_bl, iteC_t, iteC_f, iteC_d, b_add, b_sub, b_mul, b_mod, List.getElem?_cons_succ, List.getElem?_cons_zero, List.set_cons_succ, List.set_cons_zero]
    refine Out.Ok.rt (gen_take (k := k + d + 1) G g1.dw (by decide) (by decide)) fun v h2 ⟨⟨r2, ev, r20, r21⟩, f2⟩ => ?_
    subst ev
    have g2 := g1.fr f2
    simp only [bnd_bnd, bnd_sbnd, sbnd_seq, seq_seq, seqC_ap, ss_cons, ss_nil, s_asg, s_ret, s_ite, s_ex, s_for, s_whl, e_non, e_bl, e_int, e_str, e_var, e_bin, e_neg, e_cmp, e_not, e_tup, e_lst, e_dic0, e_sub, e_call, e_bi, e_mt, kindG_same, e_isi, e_inv, e_lrg, e_fld, e_mk, e_um, e_kcall, e_lgen, e_rpr, s_sfld, s_augF, e_lc, e_dc, wipeP, new, evEs, evT, evTs, evP, evI, evG, bnd_ok, sbnd_ok, seq_nx, seq_rt, to_nx, go_nx, go_ct, rt_rt, ok_ok, slot, item0, item1, item2, item3, sub_t, i_int, i_abs, i_lenT, c_eqI, c_neI, c_eqS, c_neS, c_lt, c_le, c_gt, c_ge, asB_bl, iteC_t, iteC_f, iteC_d, b_add, b_sub, b_mul, b_mod]
    by_cases c2 : r2 = 0
    · rw [if_pos c2]
      simp only [bnd_bnd, bnd_sbnd, sbnd_seq, seq_seq, seqC_ap, ss_cons, ss_nil, s_asg, s_ret, s_ite, s_ex, s_for, s_whl, e_non, e_bl, e_int, e_str, e_var, e_bin, e_neg, e_cmp, e_not, e_tup, e_lst, e_dic0, e_sub, e_call, e_bi, e_mt, kindG_same, e_isi, e_inv, e_lrg, e_fld, e_mk, e_um, e_kcall, e_lgen, e_rpr, s_sfld, s_augF, e_lc, e_dc, wipeP, new, evEs, evT, evTs, evP, evI, evG, bnd_ok, sbnd_ok, seq_nx, seq_rt, to_nx, go_nx, go_ct, rt_rt, ok_ok, slot, item0, item1, item2, item3, sub_t, i_int, i_abs, i_lenT, c_eqI, c_neI, c_eqS, c_neS, c_lt, c_le, c_gt, c_ge, asB_bl, iteC_t, iteC_f, iteC_d, b_add, b_sub, b_mul, b_mod, List.getElem?_cons_succ, List.getElem?_cons_zero, g2.width]
      refine Out.Ok.rt (gen_word (k := k + d) G g2.dw g2.w0 g2.w1) fun v h3 ⟨⟨n, ev, n0, n1⟩, f3⟩ => ?_
      subst ev
      simp only [List.length_cons, List.length_nil, q2, if_true, sbnd_ok, rt_rt, seq_rt]
      exact ⟨⟨.int n, rfl, ⟨n0, n1⟩, Nat.le_add_left _ _⟩, (f1.trans f2).trans f3⟩
    · rw [if_neg c2]
      simp only [bnd_bnd, bnd_sbnd, sbnd_seq, seq_seq, seqC_ap, ss_cons, ss_nil, s_asg, s_ret, s_ite, s_ex, s_for, s_whl, e_non, e_bl, e_int, e_str, e_var, e_bin, e_neg, e_cmp, e_not, e_tup, e_lst, e_dic0, e_sub, e_call, e_bi, e_mt, kindG_same, e_isi, e_inv, e_lrg, e_fld, e_mk, e_um, e_kcall, e_lgen, e_rpr, s_sfld, s_augF, e_lc, e_dc, wipeP, new, evEs, evT, evTs, evP, evI, evG, bnd_ok, sbnd_ok, seq_nx, seq_rt, to_nx, go_nx, go_ct, rt_rt, ok_ok, slot, item0, item1, item2, item3, sub_t, i_int, i_abs, i_lenT, c_eqI, c_neI, c_eqS, c_neS, c_lt, c_le, c_gt, c_ge, asB_bl, iteC_t, iteC_f, iteC_d, b_add, b_sub, b_mul, b_mod, List.getElem?_cons_succ, List.getElem?_cons_zero, g2.variables, i_lenL g2.v, List.length_map]
      refine Out.Ok.rt (gen_take (k := k + d + 1) G g2.dw (by have := g2.ne; omega) (by have := g2.le; omega)) fun v h3 ⟨⟨r3, ev, r30, r31⟩, f3⟩ => ?_
      subst ev
      have g3 := g2.fr f3
      obtain ⟨x, hx, ex⟩ := item_int r30 r31
      simp only [sub_l g3.v, ex, bnd_ok, sbnd_ok, List.length_cons, List.length_nil, q2, if_true, rt_rt, seq_rt]
      exact ⟨⟨.var x, rfl, hx, Nat.le_add_left _ _⟩, (f1.trans f2).trans f3⟩
  · rw [show (decide ((d : Int) = 0) || decide (r < 4)) = false from by simpa using c1]
    obtain ⟨d', rfl⟩ : ∃ d', d = d' + 1 := ⟨d - 1, by omega⟩
    have ed : ((d' + 1 : Nat) : Int) - 1 = (d' : Int) := by omega
    have rex : ∀ h, GP h P V w vars → (evCall T (k + (d' + 1) + 2) "_law_expression" [.ref P, .int d'] h).Ok fun v h' => IsX w vars d' v ∧ Fr h h' := fun h g => by
      have := ih d' (by omega) k h g
      rw [show k + (d' + 1) + 2 = k + d' + 3 by omega]
      exact this
    simp only [bnd_bnd, bnd_sbnd, sbnd_seq, seq_seq, seqC_ap, ss_cons, ss_nil, s_asg, s_ret, s_ite, s_ex, s_for, s_whl, e_non, e_bl, e_int, e_str, e_var, e_bin, e_neg, e_cmp, e_not, e_tup, e_lst, e_dic0, e_sub, e_call, e_bi, e_mt, kindG_same, e_isi, e_inv, e_lrg, e_fld, e_mk, e_um, e_kcall, e_lgen, e_rpr, s_sfld, s_augF, e_lc, e_dc, wipeP, new, evEs, evT, evTs, evP, evI, evG, bnd_ok, sbnd_ok, seq_nx, seq_rt, to_nx, go_nx, go_ct, rt_rt, ok_ok, slot, item0, item1, item2, item3, sub_t, i_int, i_abs, i_lenT, c_eqI, c_neI, c_eqS, c_neS, c_lt, c_le, c_gt, c_ge, asB_bl, iteC_t, iteC_f, iteC_d, b_add, b_sub, b_mul, b_mod, List.getElem?_cons_succ, List.getElem?_cons_zero, ed]
    by_cases c3 : r = 4
    · rw [if_pos c3]
      simp only [bnd_bnd, bnd_sbnd, sbnd_seq, seq_seq, seqC_ap, ss_cons, ss_nil, s_asg, s_ret, s_ite, s_ex, s_for, s_whl, e_non, e_bl, e_int, e_str, e_var, e_bin, e_neg, e_cmp, e_not, e_tup, e_lst, e_dic0, e_sub, e_call, e_bi, e_mt, kindG_same, e_isi, e_inv, e_lrg, e_fld, e_mk, e_um, e_kcall, e_lgen, e_rpr, s_sfld, s_augF, e_lc, e_dc, wipeP, new, evEs, evT, evTs, evP, evI, evG, bnd_ok, sbnd_ok, seq_nx, seq_rt, to_nx, go_nx, go_ct, rt_rt, ok_ok, slot, item0, item1, item2, item3, sub_t, i_int, i_abs, i_lenT, c_eqI, c_neI, c_eqS, c_neS, c_lt, c_le, c_gt, c_ge, asB_bl, iteC_t, iteC_f, iteC_d, b_add, b_sub, b_mul, b_mod, List.getElem?_cons_succ, List.getElem?_cons_zero, ed]
      refine Out.Ok.rt (rex h1 g1) fun v h2 ⟨⟨e, ev, eg, edp⟩, f2⟩ => ?_
      subst ev
      simp only [List.length_cons, List.length_nil, q2, if_true, bnd_ok, sbnd_ok, rt_rt, seq_rt]
      exact ⟨⟨.load e, rfl, eg, Nat.succ_le_succ edp⟩, f1.trans f2⟩
    · rw [if_neg c3]
      simp only [bnd_bnd, bnd_sbnd, sbnd_seq, seq_seq, seqC_ap, ss_cons, ss_nil, s_asg, s_ret, s_ite, s_ex, s_for, s_whl, e_non, e_bl, e_int, e_str, e_var, e_bin, e_neg, e_cmp, e_not, e_tup, e_lst, e_dic0, e_sub, e_call, e_bi, e_mt, kindG_same, e_isi, e_inv, e_lrg, e_fld, e_mk, e_um, e_kcall, e_lgen, e_rpr, s_sfld, s_augF, e_lc, e_dc, wipeP, new, evEs, evT, evTs, evP, evI, evG, bnd_ok, sbnd_ok, seq_nx, seq_rt, to_nx, go_nx, go_ct, rt_rt, ok_ok, slot, item0, item1, item2, item3, sub_t, i_int, i_abs, i_lenT, c_eqI, c_neI, c_eqS, c_neS, c_lt, c_le, c_gt, c_ge, asB_bl, iteC_t, iteC_f, iteC_d, b_add, b_sub, b_mul, b_mod, List.getElem?_cons_succ, List.getElem?_cons_zero, ed]
      by_cases c4 : r = 5
      · rw [if_pos c4]
        simp only [bnd_bnd, bnd_sbnd, sbnd_seq, seq_seq, seqC_ap, ss_cons, ss_nil, s_asg, s_ret, s_ite, s_ex, s_for, s_whl, e_non, e_bl, e_int, e_str, e_var, e_bin, e_neg, e_cmp, e_not, e_tup, e_lst, e_dic0, e_sub, e_call, e_bi, e_mt, kindG_same, e_isi, e_inv, e_lrg, e_fld, e_mk, e_um, e_kcall, e_lgen, e_rpr, s_sfld, s_augF, e_lc, e_dc, wipeP, new, evEs, evT, evTs, evP, evI, evG, bnd_ok, sbnd_ok, seq_nx, seq_rt, to_nx, go_nx, go_ct, rt_rt, ok_ok, slot, item0, item1, item2, item3, sub_t, i_int, i_abs, i_lenT, c_eqI, c_neI, c_eqS, c_neS, c_lt, c_le, c_gt, c_ge, asB_bl, iteC_t, iteC_f, iteC_d, b_add, b_sub, b_mul, b_mod, List.getElem?_cons_succ, List.getElem?_cons_zero, List.length_cons, List.length_nil, q2, if_true]
        have fn := Fr.new g1.dw (.lst [.str "not", .str "neg"])
        refine Out.Ok.rt (gen_take (k := k + (d' + 1) + 1) G fn.dw (by decide) (by decide)) fun v h2 ⟨⟨r3, ev, r30, r31⟩, f2⟩ => ?_
        subst ev
        have g2 := (g1.fr fn).fr f2
        have en : h2[h1.length]? = some (.lst ((["not", "neg"] : List Str).map PV.str)) := f2.at at_new (by have := g1.dw.two; omega)
        obtain ⟨x, hx, ex⟩ := item_str (xs := ["not", "neg"]) r30 r31
        simp only [sub_l en, ex, bnd_ok, sbnd_ok]
        refine Out.Ok.rt (rex h2 g2) fun v h3 ⟨⟨e, ev, eg, edp⟩, f3⟩ => ?_
        subst ev
        simp only [List.length_cons, List.length_nil, q2, if_true, bnd_ok, sbnd_ok, rt_rt, seq_rt]
        exact ⟨⟨.un x e, rfl, ⟨hx, eg⟩, Nat.succ_le_succ edp⟩, ((f1.trans fn).trans f2).trans f3⟩
      · rw [if_neg c4]
        simp only [bnd_bnd, bnd_sbnd, sbnd_seq, seq_seq, seqC_ap, ss_cons, ss_nil, s_asg, s_ret, s_ite, s_ex, s_for, s_whl, e_non, e_bl, e_int, e_str, e_var, e_bin, e_neg, e_cmp, e_not, e_tup, e_lst, e_dic0, e_sub, e_call, e_bi, e_mt, kindG_same, e_isi, e_inv, e_lrg, e_fld, e_mk, e_um, e_kcall, e_lgen, e_rpr, s_sfld, s_augF, e_lc, e_dc, wipeP, new, evEs, evT, evTs, evP, evI, evG, bnd_ok, sbnd_ok, seq_nx, seq_rt, to_nx, go_nx, go_ct, rt_rt, ok_ok, slot, item0, item1, item2, item3, sub_t, i_int, i_abs, i_lenT, c_eqI, c_neI, c_eqS, c_neS, c_lt, c_le, c_gt, c_ge, asB_bl, iteC_t, iteC_f, iteC_d, b_add, b_sub, b_mul, b_mod, List.getElem?_cons_succ, List.getElem?_cons_zero]
        refine Out.Ok.rt (gen_pairs (k := k + (d' + 1) + 1) G) fun v h2 ⟨ev, eh⟩ => ?_
        subst ev eh
        have fn := Fr.new g1.dw (.lst (pairs.map PV.str))
        simp only [bnd_bnd, bnd_sbnd, sbnd_seq, seq_seq, seqC_ap, ss_cons, ss_nil, s_asg, s_ret, s_ite, s_ex, s_for, s_whl, e_non, e_bl, e_int, e_str, e_var, e_bin, e_neg, e_cmp, e_not, e_tup, e_lst, e_dic0, e_sub, e_call, e_bi, e_mt, kindG_same, e_isi, e_inv, e_lrg, e_fld, e_mk, e_um, e_kcall, e_lgen, e_rpr, s_sfld, s_augF, e_lc, e_dc, wipeP, new, evEs, evT, evTs, evP, evI, evG, bnd_ok, sbnd_ok, seq_nx, seq_rt, to_nx, go_nx, go_ct, rt_rt, ok_ok, slot, item0, item1, item2, item3, sub_t, i_int, i_abs, i_lenT, c_eqI, c_neI, c_eqS, c_neS, c_lt, c_le, c_gt, c_ge, asB_bl, iteC_t, iteC_f, iteC_d, b_add, b_sub, b_mul, b_mod, List.length_cons, List.length_nil, q12, if_true]
        have fn2 := Fr.new fn.dw (.lst (([0, 0, 1, 2, 3, 4, 5, 6, 7, 8, 9, 0] : List Int).map PV.int))
        refine Out.Ok.rt (gen_take (k := k + (d' + 1) + 1) G fn2.dw (by decide) (by decide)) fun v h3 ⟨⟨r3, ev, r30, r31⟩, f3⟩ => ?_
        subst ev
        have g3 := ((g1.fr fn).fr fn2).fr f3
        have two := g1.dw.two
        have en : h3[h1.length]? = some (.lst (pairs.map PV.str)) := f3.at (fn2.at at_new (by omega)) (by omega)
        have en2 : h3[(h1 ++ [PO.lst (pairs.map PV.str)]).length]? = some (.lst (([0, 0, 1, 2, 3, 4, 5, 6, 7, 8, 9, 0] : List Int).map PV.int)) := f3.at at_new (by rw [List.length_append]; simp only [List.length_cons, List.length_nil]; omega)
        obtain ⟨x, hx, ex⟩ := item_int (xs := [0, 0, 1, 2, 3, 4, 5, 6, 7, 8, 9, 0]) r30 (by simpa using r31)
        have hx2 : 0 ≤ x ∧ x < 10 := by
          simp only [List.mem_cons, List.not_mem_nil, or_false] at hx
          omega
        obtain ⟨y, hy, ey⟩ := item_str (xs := pairs) hx2.1 (by simpa [pairs] using hx2.2)
        simp only [sub_l en2, ex, sub_l en, ey, bnd_ok, sbnd_ok, g_nm, seq_nx, bnd_bnd, bnd_sbnd, sbnd_seq, seq_seq, seqC_ap, ss_cons, ss_nil, s_asg, s_ret, s_ite, s_ex, s_for, s_whl, e_non, e_bl, e_int, e_str, e_var, e_bin, e_neg, e_cmp, e_not, e_tup, e_lst, e_dic0, e_sub, e_call, e_bi, e_mt, kindG_same, e_isi, e_inv, e_lrg, e_fld, e_mk, e_um, e_kcall, e_lgen, e_rpr, s_sfld, s_augF, e_lc, e_dc, wipeP, new, evEs, evT, evTs, evP, evI, evG, bnd_ok, sbnd_ok, seq_nx, seq_rt, to_nx, go_nx, go_ct, rt_rt, ok_ok, slot, item0, item1, item2, item3, sub_t, i_int, i_abs, i_lenT, c_eqI, c_neI, c_eqS, c_neS, c_lt, c_le, c_gt, c_ge, asB_bl, iteC_t, iteC_f, iteC_d, b_add, b_sub, b_mul, b_mod, List.getElem?_cons_succ, List.getElem?_cons_zero, List.set_cons_succ, List.set_cons_zero, ed]
        refine Out.Ok.rt (rex h3 g3) fun v h4 ⟨⟨e1, ev, eg1, ed1⟩, f4⟩ => ?_
        subst ev
        have g4 := g3.fr f4
        refine Out.Ok.rt (rex h4 g4) fun v h5 ⟨⟨e2, ev, eg2, ed2⟩, f5⟩ => ?_
        subst ev
        simp only [List.length_cons, List.length_nil, q3, if_true, bnd_ok, sbnd_ok, rt_rt, seq_rt]
        exact ⟨⟨.bin y e1 e2, rfl, ⟨hy, eg1, eg2⟩, by simp only [X.deep]; omega⟩, ((((f1.trans fn).trans fn2).trans f3).trans f4).trans f5⟩
end
end MP

set_option Elab.async false
set_option linter.all false
set_option maxRecDepth 100000
set_option maxHeartbeats 4000000
namespace MP
open PySem
open Out (ok bad)
/-! ### equal data -/
section
variable {h : PH} {n : Nat}
theorem d_int {i : Int} : datum h (n + 1) (.int i) = some (.int i) := by unfold datum; rfl
theorem d_str {i : Str} : datum h (n + 1) (.str i) = some (.str i) := by unfold datum; rfl
theorem d_tup {xs : List PV} {ds : List PyData} (e : dataL (datum h n) xs = some ds) : datum h (n + 1) (.tup xs) = some (.tuple ds) := by
  unfold datum; rw [e]; rfl
theorem d_lst {l : Nat} {xs : List PV} {ds : List PyData} (q : h[l]? = some (.lst xs)) (e : dataL (datum h n) xs = some ds) : datum h (n + 1) (.ref l) = some (.list ds) := by
  unfold datum
  simp only [q, e]
  rfl
theorem dl_nil {f : PV → Option PyData} : dataL f [] = some [] := rfl
theorem dl_cons {f : PV → Option PyData} {x : PV} {xs : List PV} {d : PyData} {ds : List PyData} (e : f x = some d) (es : dataL f xs = some ds) : dataL f (x :: xs) = some (d :: ds) := by
  simp only [dataL, e, es]
theorem dl_map {α : Type} {f : PV → Option PyData} {p : α → PV} {q : α → PyData} : ∀ {l : List α}, (∀ x ∈ l, f (p x) = some (q x)) → dataL f (l.map p) = some (l.map q)
  | [], _ => rfl
  | x :: r, e => dl_cons (e x (by simp)) (dl_map fun y hy => e y (List.mem_cons_of_mem _ hy))
theorem eq_data {x y : PV} {d e : PyData} (hx : (∃ l, x = .ref l) ∨ ∃ xs, x = .tup xs) (h1 : datum h 64 x = some d) (h2 : datum h 64 y = some e) (s1 : SeqAt.shaped d = true) (s2 : SeqAt.shaped e = true) : eqB x y h = ok (PyData.eqv d e) h := by
  rcases hx with ⟨l, rfl⟩ | ⟨xs, rfl⟩ <;> simp only [eqB, h1, h2, s1, s2, and_self, if_true]
theorem c_eq {x y : PV} {b : Bool} (e : eqB x y h = ok b h) : cmpF .Eq x y h = ok (.bl b) h := by simp only [cmpF, e, bnd_ok]
theorem c_ne {x y : PV} {b : Bool} (e : eqB x y h = ok b h) : cmpF .NotEq x y h = ok (.bl (!b)) h := by simp only [cmpF, e, bnd_ok]
theorem lay_all {α : Type} {q : α → PyData} : ∀ {l : List α}, (∀ x ∈ l, (q x).canLay0 = true) → PyData.canLayAll0 (l.map q) = true
  | [], _ => rfl
  | x :: r, e => by
    rw [List.map_cons]
    unfold PyData.canLayAll0
    rw [e x (by simp), lay_all fun y hy => e y (List.mem_cons_of_mem _ hy)]
    rfl
theorem deep_all {α : Type} {q : α → PyData} {m : Nat} : ∀ {l : List α}, (∀ x ∈ l, (q x).depth ≤ m) → PyData.depthAll (l.map q) ≤ m
  | [], _ => Nat.zero_le _
  | x :: r, e => by
    rw [List.map_cons]
    unfold PyData.depthAll
    exact Nat.max_le.mpr ⟨e x (by simp), deep_all fun y hy => e y (List.mem_cons_of_mem _ hy)⟩
theorem shaped_of {d : PyData} (h1 : d.canLay0 = true) (h2 : d.depth ≤ 64) : SeqAt.shaped d = true := by
  unfold SeqAt.shaped
  rw [h1, Bool.true_and]
  exact decide_eq_true h2
theorem eqv_map {α : Type} {q : α → PyData} : ∀ {l m : List α}, (∀ x ∈ l, ∀ y ∈ m, PyData.eqv (q x) (q y) = true ↔ x = y) → (PyData.eqvAll (l.map q) (m.map q) = true ↔ l = m)
  | [], [], _ => by simp [PyData.eqvAll]
  | [], _ :: _, _ => by simp [PyData.eqvAll]
  | _ :: _, [], _ => by simp [PyData.eqvAll]
  | x :: l, y :: m, e => by
    rw [List.map_cons, List.map_cons]
    unfold PyData.eqvAll
    rw [Bool.and_eq_true, e x (by simp) y (by simp), eqv_map fun a ha b hb => e a (List.mem_cons_of_mem _ ha) b (List.mem_cons_of_mem _ hb)]
    simp
theorem eqv_int {i j : Int} : PyData.eqv (.int i) (.int j) = true ↔ i = j := by unfold PyData.eqv; simp
theorem lay_ints {l : List Int} : PyData.canLayAll0 (l.map PyData.int) = true := lay_all fun x _ => by unfold PyData.canLay0; rfl
theorem deep_ints {l : List Int} : PyData.depthAll (l.map PyData.int) ≤ 0 := deep_all fun x _ => by unfold PyData.depth; exact Nat.le_refl _
theorem shaped_list {ds : List PyData} {m : Nat} (h1 : PyData.canLayAll0 ds = true) (h2 : PyData.depthAll ds ≤ m) (hm : m ≤ 63) : SeqAt.shaped (.list ds) = true :=
  shaped_of (by unfold PyData.canLay0; exact h1) (by unfold PyData.depth; omega)
theorem shaped_tuple {ds : List PyData} {m : Nat} (h1 : PyData.canLayAll0 ds = true) (h2 : PyData.depthAll ds ≤ m) (hm : m ≤ 63) : SeqAt.shaped (.tuple ds) = true :=
  shaped_of (by unfold PyData.canLay0; exact h1) (by unfold PyData.depth; omega)
theorem eqv_list {a b : List PyData} : PyData.eqv (.list a) (.list b) = PyData.eqvAll a b := by conv => lhs; unfold PyData.eqv
theorem eqv_tuple {a b : List PyData} : PyData.eqv (.tuple a) (.tuple b) = PyData.eqvAll a b := by conv => lhs; unfold PyData.eqv
/-- lists of ints -/
theorem eq_ints {a b : Nat} {xs ys : List Int} (e1 : h[a]? = some (.lst (xs.map PV.int))) (e2 : h[b]? = some (.lst (ys.map PV.int))) : eqB (.ref a) (.ref b) h = ok (decide (xs = ys)) h := by
  have k : ∀ l : List Int, dataL (datum h 63) (l.map PV.int) = some (l.map PyData.int) := fun l => dl_map fun x _ => d_int
  rw [eq_data (.inl ⟨_, rfl⟩) (d_lst e1 (k xs)) (d_lst e2 (k ys)) (shaped_list lay_ints deep_ints (by decide)) (shaped_list lay_ints deep_ints (by decide)), eqv_list]
  congr 1
  rw [Bool.eq_iff_iff, decide_eq_true_eq]
  exact eqv_map fun x _ y _ => eqv_int
/-- tuples of ints -/
theorem eq_tints {xs ys : List Int} : eqB (.tup (xs.map PV.int)) (.tup (ys.map PV.int)) h = ok (decide (xs = ys)) h := by
  have k : ∀ l : List Int, dataL (datum h 63) (l.map PV.int) = some (l.map PyData.int) := fun l => dl_map fun x _ => d_int
  rw [eq_data (.inr ⟨_, rfl⟩) (d_tup (k xs)) (d_tup (k ys)) (shaped_tuple lay_ints deep_ints (by decide)) (shaped_tuple lay_ints deep_ints (by decide)), eqv_tuple]
  congr 1
  rw [Bool.eq_iff_iff, decide_eq_true_eq]
  exact eqv_map fun x _ y _ => eqv_int
end
/-! ### statements -/
inductive Sm where
  | set (v : Int) (e : X) | write (e : X) | store (a b : X)
def Sm.pv : Sm → PV
  | .set v e => .tup [.str "set", .int v, e.pv]
  | .write e => .tup [.str "write", e.pv]
  | .store a b => .tup [.str "store", a.pv, b.pv]
def Sm.good (w : Int) (vars : List Int) : Sm → Prop
  | .set v e => v ∈ vars ∧ e.good w vars ∧ e.deep ≤ 3
  | .write e => e.good w vars ∧ e.deep ≤ 3
  | .store a b => (a.good w vars ∧ a.deep ≤ 3) ∧ b.good w vars ∧ b.deep ≤ 3
section
variable {T : Str → Option Df} {h h' : PH} {m w : Int} {k P V : Nat} {vars : List Int}
theorem gen_expr' (G : Gen T) {d k : Nat} {i : Int} (hi : i = d) (hk : d + 3 ≤ k) (g : GP h P V w vars) : (evCall T k "_law_expression" [.ref P, .int i] h).Ok fun v h' => IsX w vars d v ∧ Fr h h' := by
  subst hi
  have := gen_expr G d (k - (d + 3)) h g
  rw [show k - (d + 3) + d + 3 = k by omega] at this
  exact this
theorem gen_take' (G : Gen T) {k : Nat} (hk : 1 ≤ k) (d : DW h) (h0 : 0 < m) (h1 : m < 1073741824) : (evCall T k "_law_take" [.ref 1, .int m] h).Ok fun v h' => (∃ r : Int, v = .int r ∧ 0 ≤ r ∧ r < m) ∧ Fr h h' := by
  have := gen_take (k := k - 1) G d h0 h1
  rw [show k - 1 + 1 = k by omega] at this
  exact this
theorem gen_stmt (G : Gen T) {k : Nat} (hk : 6 ≤ k) (g : GP h P V w vars) : (evCall T k "_law_statement" [.ref P] h).Ok fun v h' => (∃ s : Sm, v = s.pv ∧ s.good w vars) ∧ Fr h h' := by
  obtain ⟨k, rfl⟩ : ∃ j, k = j + 1 := ⟨k - 1, by omega⟩
  have hS : (64 : Nat) ≤ sizeLine := by decide
  have q2 : 2 ≤ sizeLine := by omega
  have q3 : 3 ≤ sizeLine := by omega
  refine call_ok G.statement rfl (by decide) ?_
  show (evSs (evCall T k) g_statement [some (.ref P), none, none] h).Rt _
  unfold g_statement
  simp only [bnd_bnd, bnd_sbnd, sbnd_seq, seq_seq, seqC_ap, ss_cons, ss_nil, s_asg, s_ret, s_ite, s_ex, s_for, s_whl, e_non, e_bl, e_int, e_str, e_var, e_bin, e_neg, e_cmp, e_not, e_tup, e_lst, e_dic0, e_sub, e_call, e_bi, e_mt, kindG_same, e_isi, e_inv, e_lrg, e_fld, e_mk, e_um, e_kcall, e_lgen, e_rpr, s_sfld, s_augF, e_lc, e_dc, wipeP, new, evEs, evT, evTs, evP, evI, evG, bnd_ok, sbnd_ok, seq_nx, seq_rt, to_nx, go_nx, go_ct, rt_rt, ok_ok, slot, item0, item1, item2, item3, sub_t, i_int, i_abs, i_lenT, c_eqI, c_neI, c_eqS, c_neS, c_lt, c_le, c_gt, c_ge, asB_bl, iteC_t, iteC_f, iteC_d, b_add, b_sub, b_mul, b_mod, List.getElem?_cons_succ, List.getElem?_cons_zero, List.set_cons_succ, List.set_cons_zero, g.draw]
  refine Out.Ok.rt (gen_take' G (by omega) g.dw (by decide) (by decide)) fun v h1 ⟨⟨r, ev, r0, r1⟩, f1⟩ => ?_
  subst ev
  have g1 := g.fr f1
  simp only [bnd_bnd, bnd_sbnd, sbnd_seq, seq_seq, seqC_ap, ss_cons, ss_nil, s_asg, s_ret, s_ite, s_ex, s_for, s_whl, e_non, e_bl, e_int, e_str, e_var, e_bin, e_neg, e_cmp, e_not, e_tup, e_lst, e_dic0, e_sub, e_call, e_bi, e_mt, kindG_same, e_isi, e_inv, e_lrg, e_fld, e_mk, e_um, e_kcall, e_lgen, e_rpr, s_sfld, s_augF, e_lc, e_dc, wipeP, new, evEs, evT, evTs, evP, evI, evG, bnd_ok, sbnd_ok, seq_nx, seq_rt, to_nx, go_nx, go_ct, rt_rt, ok_ok, slot, item0, item1, item2, item3, sub_t, i_int, i_abs, i_lenT, c_eqI, c_neI, c_eqS, c_neS, c_lt, c_le, c_gt, c_ge, asB_bl, iteC_t, iteC_f, iteC_d, b_add, b_sub, b_mul, b_mod, List.getElem?_cons_succ, List.getElem?_cons_zero, List.set_cons_succ, List.set_cons_zero]
  by_cases c1 : r < 5
  · rw [if_pos c1]
    simp only [bnd_bnd, bnd_sbnd, sbnd_seq, seq_seq, seqC_ap, ss_cons, ss_nil, s_asg, s_ret, s_ite, s_ex, s_for, s_whl, e_non, e_bl, e_int, e_str, e_var, e_bin, e_neg, e_cmp, e_not, e_tup, e_lst, e_dic0, e_sub, e_call, e_bi, e_mt, kindG_same, e_isi, e_inv, e_lrg, e_fld, e_mk, e_um, e_kcall, e_lgen, e_rpr, s_sfld, s_augF, e_lc, e_dc, wipeP, new, evEs, evT, evTs, evP, evI, evG, bnd_ok, sbnd_ok, seq_nx, seq_rt, to_nx, go_nx, go_ct, rt_rt, ok_ok, slot, item0, item1, item2, item3, sub_t, i_int, i_abs, i_lenT, c_eqI, c_neI, c_eqS, c_neS, c_lt, c_le, c_gt, c_ge, asB_bl, iteC_t, iteC_f, iteC_d, b_add, b_sub, b_mul, b_mod, List.getElem?_cons_succ, List.getElem?_cons_zero, g1.variables, i_lenL g1.v, List.length_map]
    refine Out.Ok.rt (gen_take' G (by omega) g1.dw (by have := g1.ne; omega) (by have := g1.le; omega)) fun v h2 ⟨⟨r2, ev, r20, r21⟩, f2⟩ => ?_
    subst ev
    have g2 := g1.fr f2
    obtain ⟨x, hx, ex⟩ := item_int r20 r21
    simp only [sub_l g2.v, ex, bnd_ok, sbnd_ok]
    refine Out.Ok.rt (gen_expr' G (d := 2) rfl (by omega) g2) fun v h3 ⟨⟨e, ev, eg, ed⟩, f3⟩ => ?_
    subst ev
    simp only [List.length_cons, List.length_nil, q3, if_true, bnd_ok, sbnd_ok, rt_rt, seq_rt]
    exact ⟨⟨.set x e, rfl, hx, eg, ed⟩, (f1.trans f2).trans f3⟩
  · rw [if_neg c1]
    simp only [bnd_bnd, bnd_sbnd, sbnd_seq, seq_seq, seqC_ap, ss_cons, ss_nil, s_asg, s_ret, s_ite, s_ex, s_for, s_whl, e_non, e_bl, e_int, e_str, e_var, e_bin, e_neg, e_cmp, e_not, e_tup, e_lst, e_dic0, e_sub, e_call, e_bi, e_mt, kindG_same, e_isi, e_inv, e_lrg, e_fld, e_mk, e_um, e_kcall, e_lgen, e_rpr, s_sfld, s_augF, e_lc, e_dc, wipeP, new, evEs, evT, evTs, evP, evI, evG, bnd_ok, sbnd_ok, seq_nx, seq_rt, to_nx, go_nx, go_ct, rt_rt, ok_ok, slot, item0, item1, item2, item3, sub_t, i_int, i_abs, i_lenT, c_eqI, c_neI, c_eqS, c_neS, c_lt, c_le, c_gt, c_ge, asB_bl, iteC_t, iteC_f, iteC_d, b_add, b_sub, b_mul, b_mod, List.getElem?_cons_succ, List.getElem?_cons_zero]
    by_cases c2 : r < 7
    · rw [if_pos c2]
      simp only [bnd_bnd, bnd_sbnd, sbnd_seq, seq_seq, seqC_ap, ss_cons, ss_nil, s_asg, s_ret, s_ite, s_ex, s_for, s_whl, e_non, e_bl, e_int, e_str, e_var, e_bin, e_neg, e_cmp, e_not, e_tup, e_lst, e_dic0, e_sub, e_call, e_bi, e_mt, kindG_same, e_isi, e_inv, e_lrg, e_fld, e_mk, e_um, e_kcall, e_lgen, e_rpr, s_sfld, s_augF, e_lc, e_dc, wipeP, new, evEs, evT, evTs, evP, evI, evG, bnd_ok, sbnd_ok, seq_nx, seq_rt, to_nx, go_nx, go_ct, rt_rt, ok_ok, slot, item0, item1, item2, item3, sub_t, i_int, i_abs, i_lenT, c_eqI, c_neI, c_eqS, c_neS, c_lt, c_le, c_gt, c_ge, asB_bl, iteC_t, iteC_f, iteC_d, b_add, b_sub, b_mul, b_mod, List.getElem?_cons_succ, List.getElem?_cons_zero]
      refine Out.Ok.rt (gen_expr' G (d := 2) rfl (by omega) g1) fun v h3 ⟨⟨e, ev, eg, ed⟩, f3⟩ => ?_
      subst ev
      simp only [List.length_cons, List.length_nil, q2, if_true, bnd_ok, sbnd_ok, rt_rt, seq_rt]
      exact ⟨⟨.write e, rfl, eg, ed⟩, f1.trans f3⟩
    · rw [if_neg c2]
      simp only [bnd_bnd, bnd_sbnd, sbnd_seq, seq_seq, seqC_ap, ss_cons, ss_nil, s_asg, s_ret, s_ite, s_ex, s_for, s_whl, e_non, e_bl, e_int, e_str, e_var, e_bin, e_neg, e_cmp, e_not, e_tup, e_lst, e_dic0, e_sub, e_call, e_bi, e_mt, kindG_same, e_isi, e_inv, e_lrg, e_fld, e_mk, e_um, e_kcall, e_lgen, e_rpr, s_sfld, s_augF, e_lc, e_dc, wipeP, new, evEs, evT, evTs, evP, evI, evG, bnd_ok, sbnd_ok, seq_nx, seq_rt, to_nx, go_nx, go_ct, rt_rt, ok_ok, slot, item0, item1, item2, item3, sub_t, i_int, i_abs, i_lenT, c_eqI, c_neI, c_eqS, c_neS, c_lt, c_le, c_gt, c_ge, asB_bl, iteC_t, iteC_f, iteC_d, b_add, b_sub, b_mul, b_mod, List.getElem?_cons_succ, List.getElem?_cons_zero]
      refine Out.Ok.rt (gen_expr' G (d := 1) rfl (by omega) g1) fun v h2 ⟨⟨a, ev, ag, ad⟩, f2⟩ => ?_
      subst ev
      have g2 := g1.fr f2
      refine Out.Ok.rt (gen_expr' G (d := 2) rfl (by omega) g2) fun v h3 ⟨⟨b, ev, bg, bd⟩, f3⟩ => ?_
      subst ev
      simp only [List.length_cons, List.length_nil, q3, if_true, bnd_ok, sbnd_ok, rt_rt, seq_rt]
      exact ⟨⟨.store a b, rfl, ⟨ag, by omega⟩, bg, bd⟩, (f1.trans f2).trans f3⟩
end
end MP

set_option Elab.async false
set_option linter.all false
set_option maxRecDepth 100000
set_option maxHeartbeats 4000000
namespace MP
open PySem
open Out (ok bad)
/-! ### functions -/
inductive En where
  | ret (e : X) | go (l : Int) | br (e : X) (a b : Int)
def En.pv : En → PV
  | .ret e => .tup [.str "return", e.pv]
  | .go l => .tup [.str "go", .int l]
  | .br e a b => .tup [.str "if", e.pv, .int a, .int b]
def En.good (w : Int) (vars : List Int) (Ls : List Int) : En → Prop
  | .ret e => e.good w vars ∧ e.deep ≤ 3
  | .go l => l ∈ Ls
  | .br e a b => (e.good w vars ∧ e.deep ≤ 3) ∧ a ∈ Ls ∧ b ∈ Ls
structure Bk where
  l : Int
  ss : List Sm
  en : En
def Bk.pv (b : Bk) : PV := .tup [.int b.l, .tup (b.ss.map Sm.pv), b.en.pv]
def Bk.good (w : Int) (vars : List Int) (Ls : List Int) (M : Int) (b : Bk) : Prop := (b.ss.length : Int) ≤ M ∧ (∀ s ∈ b.ss, s.good w vars) ∧ b.en.good w vars Ls
structure Fn where
  w : Int
  np : Int
  bs : List Bk
def Fn.pv (f : Fn) : PV := .tup [.int f.w, .int f.np, .tup (f.bs.map Bk.pv)]
def Fn.labels (f : Fn) : List Int := f.bs.map Bk.l
structure Fn.Good (f : Fn) (vars : List Int) (B M : Int) : Prop where
  w1 : 1 ≤ f.w
  w2 : f.w ≤ 16
  n0 : 0 ≤ f.np
  n1 : f.np ≤ 6
  nd : f.labels.Nodup
  lo : ∀ l ∈ f.labels, 3 ≤ l
  hi : ∀ l ∈ f.labels, l ≤ 300
  one : 1 ≤ f.bs.length
  most : (f.bs.length : Int) ≤ B
  bk : ∀ b ∈ f.bs, b.good f.w vars f.labels M
  v1 : 2 ≤ vars.length
  v2 : vars.length ≤ 7
  vr : ∀ v ∈ vars, 0 ≤ v ∧ v < 100
section
variable {C : Str → List PV → PH → Out PV} {s : PSt} {h : PH}
theorem e_dic {ks : Ks} : evE C (.dic ks) s h = (evD C ks s h).bnd fun ps h => if (ps.all fun p => isKey p.1) = true ∧ ps.length ≤ 15 then new (.dic (dAll ps)) h else bad := by conv => lhs; unfold evE
theorem d_cons {k v : E} {r : Ks} : evD C (.cons k v r) s h = (evE C k s h).bnd fun x h => (evE C v s h).bnd fun y h => (evD C r s h).bnd fun ps h => ok ((x, y) :: ps) h := by conv => lhs; unfold evD
theorem d_nil : evD C .nil s h = ok [] h := by conv => lhs; unfold evD
theorem e_slice {a : E} {lo hi : Pt} : evE C (.slc a lo hi) s h = (evE C a s h).bnd fun x h => (evP C lo s h).bnd fun y h => (evP C hi s h).bnd fun z h => slcF x y z h := by conv => lhs; unfold evE
end
theorem dAll_p (x y z : PV) : dAll [(.str "draw", x), (.str "width", y), (.str "variables", z)] = [(.str "draw", x), (.str "width", y), (.str "variables", z)] := rfl
theorem cut_to {α : Type} {xs : List PV} {n : Int} (h0 : 0 ≤ n) : cutP xs none (some n) = xs.take n.toNat := by
  unfold cutP cut
  rw [HT.sIx_none]
  have : HT.sIx xs.length xs.length (some n) = min n.toNat xs.length := by
    show (if n < 0 then _ else _) = _
    rw [if_neg (by omega)]
  rw [this]
  simp [List.take_eq_take_iff]
theorem cut_from {α : Type} {xs : List PV} {n : Int} (h0 : 0 ≤ n) : cutP xs (some n) none = xs.drop n.toNat := by
  unfold cutP cut
  rw [HT.sIx_none]
  have : HT.sIx xs.length 0 (some n) = min n.toNat xs.length := by
    show (if n < 0 then _ else _) = _
    rw [if_neg (by omega)]
  rw [this]
  by_cases e : n.toNat ≤ xs.length
  · rw [Nat.min_eq_left e, List.take_of_length_le (by simp)]
  · rw [Nat.min_eq_right (by omega), List.drop_eq_nil_of_le (Nat.le_refl _), List.drop_eq_nil_of_le (by omega)]
    simp
theorem slc_l {l : Nat} {xs : List PV} {h : PH} {a b : Option Int} (e : h[l]? = some (.lst xs)) : slcF (.ref l) a b h = ok (.ref h.length) (h ++ [.lst (cutP xs a b)]) := by
  simp only [slcF, e, new]
section
variable {T : Str → Option Df} {h h' : PH} {m w : Int} {k P V : Nat} {vars : List Int}
/-- the first part: the width, the parameters, the variables -/
def fnHead (r : Ss) : Ss :=
    (.cons (.asg (.nm 3) (.sub (.lst (.cons (.int 1) (.cons (.int 2) (.cons (.int 3) (.cons (.int 4) (.cons (.int 8) (.cons (.int 16) (.cons (.bin .Add (.int 1) (.call "_law_take" (.cons (.var 0) (.cons (.int 16) .nil)))) .nil)))))))) (.call "_law_take" (.cons (.var 0) (.cons (.int 7) .nil)))))
    (.cons (.asg (.nm 4) (.sub (.lst (.cons (.int 0) (.cons (.int 1) (.cons (.int 2) (.cons (.int 3) (.cons (.call "_law_take" (.cons (.var 0) (.cons (.int 7) .nil))) .nil)))))) (.call "_law_take" (.cons (.var 0) (.cons (.int 5) .nil)))))
    (.cons (.asg (.nm 5) (.slc (.sub (.lst (.cons (.lst (.cons (.int 0) (.cons (.int 1) (.cons (.int 2) (.cons (.int 3) (.cons (.int 7) (.cons (.int 40) .nil))))))) (.cons (.lst (.cons (.int 0) (.cons (.int 1) (.cons (.int 53) (.cons (.int 3) (.cons (.int 4) (.cons (.int 5) (.cons (.int 99) .nil)))))))) .nil))) (.call "_law_take" (.cons (.var 0) (.cons (.int 2) .nil)))) .none (.some (.bin .Add (.int 2) (.call "_law_take" (.cons (.var 0) (.cons (.int 6) .nil)))))))
    (.cons (.asg (.nm 6) (.dic (.cons (.str "draw") (.var 0) (.cons (.str "width") (.var 3) (.cons (.str "variables") (.var 5) .nil))))) r))))
def Vok (vars : List Int) : Prop := 2 ≤ vars.length ∧ vars.length ≤ 7 ∧ ∀ v ∈ vars, 0 ≤ v ∧ v < 100
theorem vok_take {l : List Int} {n : Nat} (h2 : 2 ≤ n) (hn : n ≤ 7) (hl : 2 ≤ l.length) (hv : ∀ v ∈ l, 0 ≤ v ∧ v < 100) : Vok (l.take n) := by
  refine ⟨by rw [List.length_take]; omega, by rw [List.length_take]; omega, fun v hv2 => hv v (List.mem_of_mem_take hv2)⟩
theorem fn_head (G : Gen T) (hk : 1 ≤ k) (d : DW h) {B M : PV} {r : Ss} {Q : PV → PH → Prop}
    (cont : ∀ w np vars P V h' z, 1 ≤ w → w ≤ 16 → 0 ≤ np → np ≤ 6 → Vok vars → GP h' P V w vars → Fr h h' → (evSs (evCall T k) r ([some (.ref 1), some B, some M, some (.int w), some (.int np), some z, some (.ref P)] ++ List.replicate 10 none) h').Rt Q) :
    (evSs (evCall T k) (fnHead r) (some (.ref 1) :: some B :: some M :: List.replicate 14 none) h).Rt Q := by
  have hS : (64 : Nat) ≤ sizeLine := by decide
  have q2 : 2 ≤ sizeLine := by omega
  have q5 : 5 ≤ sizeLine := by omega
  have q6 : 6 ≤ sizeLine := by omega
  have q7 : 7 ≤ sizeLine := by omega
  unfold fnHead
  simp only [List.replicate]
  simp only [bnd_bnd, bnd_sbnd, sbnd_seq, seq_seq, seqC_ap, ss_cons, ss_nil, s_asg, s_ret, s_ite, s_ex, s_for, s_whl, e_non, e_bl, e_int, e_str, e_var, e_bin, e_neg, e_cmp, e_not, e_tup, e_lst, e_dic0, e_sub, e_call, e_bi, e_mt, kindG_same, e_isi, e_inv, e_lrg, e_fld, e_mk, e_um, e_kcall, e_lgen, e_rpr, s_sfld, s_augF, e_lc, e_dc, wipeP, new, evEs, evT, evTs, evP, evI, evG, bnd_ok, sbnd_ok, seq_nx, seq_rt, to_nx, go_nx, go_ct, rt_rt, ok_ok, slot, item0, item1, item2, item3, sub_t, i_int, i_abs, i_lenT, c_eqI, c_neI, c_eqS, c_neS, c_lt, c_le, c_gt, c_ge, asB_bl, iteC_t, iteC_f, iteC_d, b_add, b_sub, b_mul, b_mod, List.getElem?_cons_succ, List.getElem?_cons_zero, List.set_cons_succ, List.set_cons_zero]
  refine Out.Ok.rt (gen_take' G hk d (by decide) (by decide)) fun v h1 ⟨⟨r1, ev, r10, r11⟩, f1⟩ => ?_
  subst ev
  have n1 := Fr.new f1.dw (.lst (([1, 2, 3, 4, 8, 16, 1 + r1] : List Int).map PV.int))
  simp only [bnd_bnd, bnd_sbnd, sbnd_seq, seq_seq, seqC_ap, ss_cons, ss_nil, s_asg, s_ret, s_ite, s_ex, s_for, s_whl, e_non, e_bl, e_int, e_str, e_var, e_bin, e_neg, e_cmp, e_not, e_tup, e_lst, e_dic0, e_sub, e_call, e_bi, e_mt, kindG_same, e_isi, e_inv, e_lrg, e_fld, e_mk, e_um, e_kcall, e_lgen, e_rpr, s_sfld, s_augF, e_lc, e_dc, wipeP, new, evEs, evT, evTs, evP, evI, evG, bnd_ok, sbnd_ok, seq_nx, seq_rt, to_nx, go_nx, go_ct, rt_rt, ok_ok, slot, item0, item1, item2, item3, sub_t, i_int, i_abs, i_lenT, c_eqI, c_neI, c_eqS, c_neS, c_lt, c_le, c_gt, c_ge, asB_bl, iteC_t, iteC_f, iteC_d, b_add, b_sub, b_mul, b_mod, List.length_cons, List.length_nil, q7, if_true, List.getElem?_cons_succ, List.getElem?_cons_zero, List.set_cons_succ, List.set_cons_zero]
  refine Out.Ok.rt (gen_take' G hk n1.dw (by decide) (by decide)) fun v h2 ⟨⟨r2, ev, r20, r21⟩, f2⟩ => ?_
  subst ev
  have e2 : h2[h1.length]? = some (.lst (([1, 2, 3, 4, 8, 16, 1 + r1] : List Int).map PV.int)) := f2.at at_new (by have := f1.dw.two; omega)
  obtain ⟨w, hw, ew⟩ := item_int (xs := [1, 2, 3, 4, 8, 16, 1 + r1]) r20 (by simpa using r21)
  have hw2 : 1 ≤ w ∧ w ≤ 16 := by
    simp only [List.mem_cons, List.not_mem_nil, or_false] at hw
    omega
  simp only [sub_l e2, ew, bnd_bnd, bnd_sbnd, sbnd_seq, seq_seq, seqC_ap, ss_cons, ss_nil, s_asg, s_ret, s_ite, s_ex, s_for, s_whl, e_non, e_bl, e_int, e_str, e_var, e_bin, e_neg, e_cmp, e_not, e_tup, e_lst, e_dic0, e_sub, e_call, e_bi, e_mt, kindG_same, e_isi, e_inv, e_lrg, e_fld, e_mk, e_um, e_kcall, e_lgen, e_rpr, s_sfld, s_augF, e_lc, e_dc, wipeP, new, evEs, evT, evTs, evP, evI, evG, bnd_ok, sbnd_ok, seq_nx, seq_rt, to_nx, go_nx, go_ct, rt_rt, ok_ok, slot, item0, item1, item2, item3, sub_t, i_int, i_abs, i_lenT, c_eqI, c_neI, c_eqS, c_neS, c_lt, c_le, c_gt, c_ge, asB_bl, iteC_t, iteC_f, iteC_d, b_add, b_sub, b_mul, b_mod, List.getElem?_cons_succ, List.getElem?_cons_zero, List.set_cons_succ, List.set_cons_zero]
  refine Out.Ok.rt (gen_take' G hk f2.dw (by decide) (by decide)) fun v h3 ⟨⟨r3, ev, r30, r31⟩, f3⟩ => ?_
  subst ev
  have n3 := Fr.new f3.dw (.lst (([0, 1, 2, 3, r3] : List Int).map PV.int))
  simp only [bnd_bnd, bnd_sbnd, sbnd_seq, seq_seq, seqC_ap, ss_cons, ss_nil, s_asg, s_ret, s_ite, s_ex, s_for, s_whl, e_non, e_bl, e_int, e_str, e_var, e_bin, e_neg, e_cmp, e_not, e_tup, e_lst, e_dic0, e_sub, e_call, e_bi, e_mt, kindG_same, e_isi, e_inv, e_lrg, e_fld, e_mk, e_um, e_kcall, e_lgen, e_rpr, s_sfld, s_augF, e_lc, e_dc, wipeP, new, evEs, evT, evTs, evP, evI, evG, bnd_ok, sbnd_ok, seq_nx, seq_rt, to_nx, go_nx, go_ct, rt_rt, ok_ok, slot, item0, item1, item2, item3, sub_t, i_int, i_abs, i_lenT, c_eqI, c_neI, c_eqS, c_neS, c_lt, c_le, c_gt, c_ge, asB_bl, iteC_t, iteC_f, iteC_d, b_add, b_sub, b_mul, b_mod, List.length_cons, List.length_nil, q5, if_true, List.getElem?_cons_succ, List.getElem?_cons_zero, List.set_cons_succ, List.set_cons_zero]
  refine Out.Ok.rt (gen_take' G hk n3.dw (by decide) (by decide)) fun v h4 ⟨⟨r4, ev, r40, r41⟩, f4⟩ => ?_
  subst ev
  have e4 : h4[h3.length]? = some (.lst (([0, 1, 2, 3, r3] : List Int).map PV.int)) := f4.at at_new (by have := f3.dw.two; omega)
  obtain ⟨np, hnp, enp⟩ := item_int (xs := [0, 1, 2, 3, r3]) r40 (by simpa using r41)
  have hnp2 : 0 ≤ np ∧ np ≤ 6 := by
    simp only [List.mem_cons, List.not_mem_nil, or_false] at hnp
    omega
  have n4 := Fr.new f4.dw (.lst (([0, 1, 2, 3, 7, 40] : List Int).map PV.int))
  have n5 := Fr.new n4.dw (.lst (([0, 1, 53, 3, 4, 5, 99] : List Int).map PV.int))
  have n6 := Fr.new n5.dw (.lst [.ref h4.length, .ref (h4 ++ [PO.lst (([0, 1, 2, 3, 7, 40] : List Int).map PV.int)]).length])
  simp only [sub_l e4, enp, bnd_bnd, bnd_sbnd, sbnd_seq, seq_seq, seqC_ap, ss_cons, ss_nil, s_asg, s_ret, s_ite, s_ex, s_for, s_whl, e_non, e_bl, e_int, e_str, e_var, e_bin, e_neg, e_cmp, e_not, e_tup, e_lst, e_dic0, e_sub, e_call, e_bi, e_mt, kindG_same, e_isi, e_inv, e_lrg, e_fld, e_mk, e_um, e_kcall, e_lgen, e_rpr, s_sfld, s_augF, e_lc, e_dc, wipeP, new, evEs, evT, evTs, evP, evI, evG, bnd_ok, sbnd_ok, seq_nx, seq_rt, to_nx, go_nx, go_ct, rt_rt, ok_ok, slot, item0, item1, item2, item3, sub_t, i_int, i_abs, i_lenT, c_eqI, c_neI, c_eqS, c_neS, c_lt, c_le, c_gt, c_ge, asB_bl, iteC_t, iteC_f, iteC_d, b_add, b_sub, b_mul, b_mod, List.length_cons, List.length_nil, q2, q6, q7, if_true, List.getElem?_cons_succ, List.getElem?_cons_zero, List.set_cons_succ, List.set_cons_zero, e_slice]
  refine Out.Ok.rt (gen_take' G hk n6.dw (by decide) (by decide)) fun v h5 ⟨⟨r5, ev, r50, r51⟩, f5⟩ => ?_
  subst ev
  have l4 := f4.dw.two
  have e5a : h5[h4.length]? = some (.lst (([0, 1, 2, 3, 7, 40] : List Int).map PV.int)) := f5.at (n6.at (n5.at at_new (by omega)) (by omega)) (by omega)
  have e5b : h5[(h4 ++ [PO.lst (([0, 1, 2, 3, 7, 40] : List Int).map PV.int)]).length]? = some (.lst (([0, 1, 53, 3, 4, 5, 99] : List Int).map PV.int)) := f5.at (n6.at at_new (by rw [List.length_append]; simp only [List.length_cons, List.length_nil]; omega)) (by rw [List.length_append]; simp only [List.length_cons, List.length_nil]; omega)
  have e5c := f5.at at_new (by rw [List.length_append, List.length_append]; simp only [List.length_cons, List.length_nil]; omega)
  obtain ⟨pl, Lv, epl, el, hpl, b1, b2, b3⟩ : ∃ (pl : Nat) (Lv : List Int), (∀ h, itemF [.ref h4.length, .ref (h4 ++ [PO.lst (([0, 1, 2, 3, 7, 40] : List Int).map PV.int)]).length] (.int r5) h = ok (.ref pl) h) ∧ h5[pl]? = some (.lst (Lv.map PV.int)) ∧ pl ≠ 1 ∧ 2 ≤ Lv.length ∧ Lv.length ≤ 7 ∧ ∀ v ∈ Lv, 0 ≤ v ∧ v < 100 := by
    by_cases c : r5 = 0
    · subst c
      exact ⟨h4.length, _, fun h => item0, e5a, by omega, by decide, by decide, by decide⟩
    · have : r5 = 1 := by omega
      subst this
      exact ⟨_, _, fun h => item1, e5b, by rw [List.length_append]; simp only [List.length_cons, List.length_nil]; omega, by decide, by decide, by decide⟩
  simp only [List.map_cons, List.map_nil] at epl
  rw [sub_l e5c, epl, sbnd_ok]
  refine Out.Ok.rt (gen_take' G hk f5.dw (by decide) (by decide)) fun v h6 ⟨⟨r6, ev, r60, r61⟩, f6⟩ => ?_
  subst ev
  have e6 := f6.at el hpl
  have n7 := Fr.new f6.dw (.lst ((Lv.take (2 + r6).toNat).map PV.int))
  have l6 := f6.dw.two
  simp only [b_add, sbnd_ok, slc_l e6, cut_to (α := PV) (show (0 : Int) ≤ 2 + r6 by omega), ← List.map_take]
  have n8 := Fr.new n7.dw (.dic [(.str "draw", .ref 1), (.str "width", .int w), (.str "variables", .ref h6.length)])
  simp only [e_dic, d_cons, d_nil, e_str, e_var, slot, List.getElem?_cons_succ, List.getElem?_cons_zero, bnd_ok, bnd_sbnd]
  rw [if_pos ⟨rfl, by simp only [List.length_cons, List.length_nil]; omega⟩, dAll_p]
  simp only [new, sbnd_ok]
  have vok : Vok (Lv.take (2 + r6).toNat) := vok_take (by omega) (by omega) b1 b3
  refine cont w np (Lv.take (2 + r6).toNat) (h6 ++ [PO.lst ((Lv.take (2 + r6).toNat).map PV.int)]).length h6.length _ (.ref h6.length) hw2.1 hw2.2 hnp2.1 hnp2.2 vok ⟨n8.dw, at_new, n8.at at_new (by omega), by rw [List.length_append]; simp only [List.length_cons, List.length_nil]; omega, by omega, by omega, by omega, by have := vok.1; omega, by have := vok.2.1; omega⟩ ?_
  exact ((((((((((f1.trans n1).trans f2).trans f3).trans n3).trans f4).trans n4).trans n5).trans n6).trans f5).trans f6).trans (n7.trans n8)
end
end MP

set_option Elab.async false
set_option linter.all false
set_option maxRecDepth 100000
set_option maxHeartbeats 4000000
namespace MP
open PySem
open Out (ok bad)
theorem rng_at {lo : Int} {n i : Nat} {x : PV} (e : (rngI lo n)[i]? = some x) : i < n ∧ x = .int (lo + (i : Int)) := by
  have hi := lt_of_some e
  have hn : (rngI lo n).length = n := by simp [rngI]
  rw [hn] at hi
  unfold rngI at e
  rw [List.getElem?_map, List.getElem?_range hi] at e
  exact ⟨hi, (Option.some.inj e).symm⟩
theorem rng_len {lo : Int} {n : Nat} : (rngI lo n).length = n := by simp [rngI]
section
variable {T : Str → Option Df} {h h' : PH} {m w : Int} {k P V : Nat} {vars : List Int}
def fnBody : Ss :=
    (.cons (.asg (.nm 11) (.lc (.call "_law_statement" (.cons (.var 6) .nil)) (.nm 16) (.rng (.cons (.call "_law_take" (.cons (.var 0) (.cons (.bin .Add (.var 2) (.int 1)) .nil))) .nil)) .nil [16]))
    (.cons (.asg (.nm 12) (.call "_law_take" (.cons (.var 0) (.cons (.int 4) .nil))))
    (.cons (.asg (.nm 13) (.slc (.var 8) (.some (.bin .Add (.var 10) (.int 1))) .none))
    (.cons (.ite (.or (.cmp .Eq (.var 13) (.lst .nil)) (.cmp .Eq (.var 12) (.int 0))) (.cons (.asg (.nm 14) (.tup (.cons (.str "return") (.cons (.call "_law_expression" (.cons (.var 6) (.cons (.int 1) .nil))) .nil))))
    .nil) (.cons (.ite (.cmp .Eq (.var 12) (.int 1)) (.cons (.asg (.nm 14) (.tup (.cons (.str "go") (.cons (.sub (.var 13) (.call "_law_take" (.cons (.var 0) (.cons (.bi .len (.cons (.var 13) .nil)) .nil)))) .nil))))
    .nil) (.cons (.asg (.nm 15) (.ite (.cmp .Eq (.call "_law_take" (.cons (.var 0) (.cons (.int 3) .nil))) (.int 0)) (.sub (.slc (.var 8) (.some (.int 1)) .none) (.call "_law_take" (.cons (.var 0) (.cons (.bin .Sub (.var 7) (.int 1)) .nil)))) (.sub (.var 13) (.call "_law_take" (.cons (.var 0) (.cons (.bi .len (.cons (.var 13) .nil)) .nil))))))
    (.cons (.asg (.nm 14) (.tup (.cons (.str "if") (.cons (.call "_law_expression" (.cons (.var 6) (.cons (.int 2) .nil))) (.cons (.var 15) (.cons (.sub (.var 13) (.call "_law_take" (.cons (.var 0) (.cons (.bi .len (.cons (.var 13) .nil)) .nil)))) .nil))))))
    .nil)))
    .nil))
    (.cons (.ex (.mt .append (.var 9) (.cons (.tup (.cons (.sub (.var 8) (.var 10)) (.cons (.bi .tuple (.cons (.var 11) .nil)) (.cons (.var 14) .nil)))) .nil)))
    .nil)))))
def fnLabels (r : Ss) : Ss :=
    (.cons (.asg (.nm 7) (.bin .Add (.int 1) (.call "_law_take" (.cons (.var 0) (.cons (.var 1) .nil)))))
    (.cons (.asg (.nm 8) (.lc (.bin .Add (.int 3) (.bin .Mult (.int 5) (.var 10))) (.nm 10) (.rng (.cons (.var 7) .nil)) .nil [10]))
    (.cons (.ite (.cmp .Eq (.call "_law_take" (.cons (.var 0) (.cons (.int 3) .nil))) (.int 0)) (.cons (.asg (.nm 8) (.lc (.sub (.var 8) (.bin .Sub (.bin .Sub (.var 7) (.int 1)) (.var 10))) (.nm 10) (.rng (.cons (.var 7) .nil)) .nil [10]))
    .nil) .nil) r)))
structure Lbl (h : PH) (L : Nat) (Ls : List Int) (c : Int) : Prop where
  at_ : h[L]? = some (.lst (Ls.map PV.int))
  l1 : L ≠ 1
  len : (Ls.length : Int) = c
  nd : Ls.Nodup
  lo : ∀ l ∈ Ls, 3 ≤ l
  hi : ∀ l ∈ Ls, l ≤ 300
theorem Lbl.fr {L : Nat} {Ls : List Int} {c : Int} (x : Lbl h L Ls c) (f : Fr h h') : Lbl h' L Ls c := ⟨f.at x.at_ x.l1, x.l1, x.len, x.nd, x.lo, x.hi⟩
def ups (n : Nat) : List Int := (List.range n).map fun k : Nat => 3 + 5 * (k : Int)
theorem ups_len {n : Nat} : (ups n).length = n := by simp [ups]
theorem ups_nd {n : Nat} : (ups n).Nodup := by
  unfold ups List.Nodup
  rw [List.pairwise_map]
  refine List.Pairwise.imp ?_ (List.pairwise_lt_range (n := n))
  intro a b lt e
  omega
theorem ups_lo {n : Nat} : ∀ l ∈ ups n, 3 ≤ l := by
  intro l hl
  obtain ⟨k, _, rfl⟩ := List.mem_map.mp hl
  omega
theorem ups_hi {n : Nat} (hn : n ≤ 60) : ∀ l ∈ ups n, l ≤ 300 := by
  intro l hl
  obtain ⟨k, hk, rfl⟩ := List.mem_map.mp hl
  have := List.mem_range.mp hk
  omega
theorem ups_succ {n : Nat} : ups (n + 1) = ups n ++ [3 + 5 * (n : Int)] := by
  unfold ups
  rw [List.range_succ, List.map_append]
  rfl
theorem fn_labels (G : Gen T) (hk : 1 ≤ k) {B M w np : Int} {z : PV} {r : Ss} {Q : PV → PH → Prop} (g : GP h P V w vars) (hB : 1 ≤ B) (hB2 : B ≤ 60)
    (cont : ∀ c L Ls h' (a10 : Option PV), 1 ≤ c → c ≤ B → Lbl h' L Ls c → GP h' P V w vars → Fr h h' → (evSs (evCall T k) r ([some (.ref 1), some (.int B), some (.int M), some (.int w), some (.int np), some z, some (.ref P), some (.int c), some (.ref L), none, a10] ++ List.replicate 6 none) h').Rt Q) :
    (evSs (evCall T k) (fnLabels r) ([some (.ref 1), some (.int B), some (.int M), some (.int w), some (.int np), some z, some (.ref P)] ++ List.replicate 10 none) h).Rt Q := by
  have hS : (64 : Nat) ≤ sizeLine := by decide
  unfold fnLabels
  simp only [List.replicate, List.cons_append, List.nil_append]
  simp only [bnd_bnd, bnd_sbnd, sbnd_seq, seq_seq, seqC_ap, ss_cons, ss_nil, s_asg, s_ret, s_ite, s_ex, s_for, s_whl, e_non, e_bl, e_int, e_str, e_var, e_bin, e_neg, e_cmp, e_not, e_tup, e_lst, e_dic0, e_sub, e_call, e_bi, e_mt, kindG_same, e_isi, e_inv, e_lrg, e_fld, e_mk, e_um, e_kcall, e_lgen, e_rpr, s_sfld, s_augF, e_lc, e_dc, wipeP, new, evEs, evT, evTs, evP, evI, evG, bnd_ok, sbnd_ok, seq_nx, seq_rt, to_nx, go_nx, go_ct, rt_rt, ok_ok, slot, item0, item1, item2, item3, sub_t, i_int, i_abs, i_lenT, c_eqI, c_neI, c_eqS, c_neS, c_lt, c_le, c_gt, c_ge, asB_bl, iteC_t, iteC_f, iteC_d, b_add, b_sub, b_mul, b_mod, List.getElem?_cons_succ, List.getElem?_cons_zero, List.set_cons_succ, List.set_cons_zero]
  refine Out.Ok.rt (gen_take' G hk g.dw (by omega) (by omega)) fun v h1 ⟨⟨c, ev, c0, c1⟩, f1⟩ => ?_
  subst ev
  have g1 := g.fr f1
  have sc : small (1 + c) = true := decide_eq_true ⟨by omega, by omega⟩
  simp only [bnd_bnd, bnd_sbnd, sbnd_seq, seq_seq, seqC_ap, ss_cons, ss_nil, s_asg, s_ret, s_ite, s_ex, s_for, s_whl, e_non, e_bl, e_int, e_str, e_var, e_bin, e_neg, e_cmp, e_not, e_tup, e_lst, e_dic0, e_sub, e_call, e_bi, e_mt, kindG_same, e_isi, e_inv, e_lrg, e_fld, e_mk, e_um, e_kcall, e_lgen, e_rpr, s_sfld, s_augF, e_lc, e_dc, wipeP, new, evEs, evT, evTs, evP, evI, evG, bnd_ok, sbnd_ok, seq_nx, seq_rt, to_nx, go_nx, go_ct, rt_rt, ok_ok, slot, item0, item1, item2, item3, sub_t, i_int, i_abs, i_lenT, c_eqI, c_neI, c_eqS, c_neS, c_lt, c_le, c_gt, c_ge, asB_bl, iteC_t, iteC_f, iteC_d, b_add, b_sub, b_mul, b_mod, List.getElem?_cons_succ, List.getElem?_cons_zero, List.set_cons_succ, List.set_cons_zero, sc, if_true]
  refine Out.Ok.rt (each_vals (fun i acc h' => h' = h1 ∧ acc = (ups i).map PV.int) ⟨rfl, rfl⟩ fun i x acc h' hx ⟨eh, ea⟩ => ?_) fun acc h2 ⟨eh, ea⟩ => ?_
  · subst eh ea
    obtain ⟨hi, rfl⟩ := rng_at hx
    unfold lcC
    simp only [bnd_bnd, bnd_sbnd, sbnd_seq, seq_seq, seqC_ap, ss_cons, ss_nil, s_asg, s_ret, s_ite, s_ex, s_for, s_whl, e_non, e_bl, e_int, e_str, e_var, e_bin, e_neg, e_cmp, e_not, e_tup, e_lst, e_dic0, e_sub, e_call, e_bi, e_mt, kindG_same, e_isi, e_inv, e_lrg, e_fld, e_mk, e_um, e_kcall, e_lgen, e_rpr, s_sfld, s_augF, e_lc, e_dc, wipeP, new, evEs, evT, evTs, evP, evI, evG, bnd_ok, sbnd_ok, seq_nx, seq_rt, to_nx, go_nx, go_ct, rt_rt, ok_ok, slot, item0, item1, item2, item3, sub_t, i_int, i_abs, i_lenT, c_eqI, c_neI, c_eqS, c_neS, c_lt, c_le, c_gt, c_ge, asB_bl, iteC_t, iteC_f, iteC_d, b_add, b_sub, b_mul, b_mod, List.getElem?_cons_succ, List.getElem?_cons_zero, List.set_cons_succ, List.set_cons_zero, b_mul' (show (5 : Int).natAbs < 2 ^ 64 by decide), if_true, List.length_map, ups_len]
    rw [if_pos (by omega), ok_ok]
    refine ⟨rfl, ?_⟩
    rw [ups_succ, List.map_append]
    simp
  · subst eh ea
    rw [rng_len]
    have n1 := Fr.new g1.dw (.lst ((ups (1 + c).toNat).map PV.int))
    have two := g1.dw.two
    have L1 : Lbl (h2 ++ [.lst ((ups (1 + c).toNat).map PV.int)]) h2.length (ups (1 + c).toNat) (1 + c) := ⟨at_new, by omega, by rw [ups_len]; omega, ups_nd, ups_lo, ups_hi (by omega)⟩
    have g2 := g1.fr n1
    refine Out.Ok.rt (gen_take' G hk g2.dw (by decide) (by decide)) fun v h3 ⟨⟨r3, ev, r30, r31⟩, f3⟩ => ?_
    subst ev
    have g3 := g2.fr f3
    have L3 := L1.fr f3
    simp only [bnd_bnd, bnd_sbnd, sbnd_seq, seq_seq, seqC_ap, ss_cons, ss_nil, s_asg, s_ret, s_ite, s_ex, s_for, s_whl, e_non, e_bl, e_int, e_str, e_var, e_bin, e_neg, e_cmp, e_not, e_tup, e_lst, e_dic0, e_sub, e_call, e_bi, e_mt, kindG_same, e_isi, e_inv, e_lrg, e_fld, e_mk, e_um, e_kcall, e_lgen, e_rpr, s_sfld, s_augF, e_lc, e_dc, wipeP, new, evEs, evT, evTs, evP, evI, evG, bnd_ok, sbnd_ok, seq_nx, seq_rt, to_nx, go_nx, go_ct, rt_rt, ok_ok, slot, item0, item1, item2, item3, sub_t, i_int, i_abs, i_lenT, c_eqI, c_neI, c_eqS, c_neS, c_lt, c_le, c_gt, c_ge, asB_bl, iteC_t, iteC_f, iteC_d, b_add, b_sub, b_mul, b_mod]
    by_cases c3 : r3 = 0
    · rw [if_pos c3]
      simp only [bnd_bnd, bnd_sbnd, sbnd_seq, seq_seq, seqC_ap, ss_cons, ss_nil, s_asg, s_ret, s_ite, s_ex, s_for, s_whl, e_non, e_bl, e_int, e_str, e_var, e_bin, e_neg, e_cmp, e_not, e_tup, e_lst, e_dic0, e_sub, e_call, e_bi, e_mt, kindG_same, e_isi, e_inv, e_lrg, e_fld, e_mk, e_um, e_kcall, e_lgen, e_rpr, s_sfld, s_augF, e_lc, e_dc, wipeP, new, evEs, evT, evTs, evP, evI, evG, bnd_ok, sbnd_ok, seq_nx, seq_rt, to_nx, go_nx, go_ct, rt_rt, ok_ok, slot, item0, item1, item2, item3, sub_t, i_int, i_abs, i_lenT, c_eqI, c_neI, c_eqS, c_neS, c_lt, c_le, c_gt, c_ge, asB_bl, iteC_t, iteC_f, iteC_d, b_add, b_sub, b_mul, b_mod, List.getElem?_cons_succ, List.getElem?_cons_zero, List.set_cons_succ, List.set_cons_zero, sc, if_true]
      refine Out.Ok.rt (each_vals (fun i acc h' => h' = h3 ∧ acc = (((ups (1 + c).toNat).reverse).take i).map PV.int) ⟨rfl, rfl⟩ fun i x acc h' hx ⟨eh, ea⟩ => ?_) fun acc h4 ⟨eh, ea⟩ => ?_
      · subst eh ea
        obtain ⟨hi, rfl⟩ := rng_at hx
        have hl : (ups (1 + c).toNat).length = (1 + c).toNat := ups_len
        have hr : (ups (1 + c).toNat).reverse[i]? = (ups (1 + c).toNat)[(1 + c).toNat - 1 - i]? := by
          rw [List.getElem?_reverse (by omega), hl]
        obtain ⟨y, hy⟩ : ∃ y, (ups (1 + c).toNat)[(1 + c).toNat - 1 - i]? = some y := ⟨(ups (1 + c).toNat)[(1 + c).toNat - 1 - i]'(by omega), List.getElem?_eq_getElem (by omega)⟩
        have ei : itemF ((ups (1 + c).toNat).map PV.int) (.int (1 + c - 1 - (0 + (i : Int)))) = ok (.int y) := by
          funext hh
          refine itemF_at (by omega) ?_
          rw [List.getElem?_map, show (1 + c - 1 - (0 + (i : Int))).toNat = (1 + c).toNat - 1 - i by omega, hy]
          rfl
        have hlen : ((((ups (1 + c).toNat).reverse).take i).map PV.int).length < sizeLine := by
          rw [List.length_map]
          have := List.length_take_le i (ups (1 + c).toNat).reverse
          omega
        unfold lcC
        simp only [bnd_bnd, bnd_sbnd, sbnd_seq, seq_seq, seqC_ap, ss_cons, ss_nil, s_asg, s_ret, s_ite, s_ex, s_for, s_whl, e_non, e_bl, e_int, e_str, e_var, e_bin, e_neg, e_cmp, e_not, e_tup, e_lst, e_dic0, e_sub, e_call, e_bi, e_mt, kindG_same, e_isi, e_inv, e_lrg, e_fld, e_mk, e_um, e_kcall, e_lgen, e_rpr, s_sfld, s_augF, e_lc, e_dc, wipeP, new, evEs, evT, evTs, evP, evI, evG, bnd_ok, sbnd_ok, seq_nx, seq_rt, to_nx, go_nx, go_ct, rt_rt, ok_ok, slot, item0, item1, item2, item3, sub_t, i_int, i_abs, i_lenT, c_eqI, c_neI, c_eqS, c_neS, c_lt, c_le, c_gt, c_ge, asB_bl, iteC_t, iteC_f, iteC_d, b_add, b_sub, b_mul, b_mod, List.getElem?_cons_succ, List.getElem?_cons_zero, List.set_cons_succ, List.set_cons_zero, sub_l L3.at_, ei, if_true, hlen]
        refine ⟨trivial, ?_⟩
        rw [List.take_add_one, hr, hy, List.map_append]
        rfl
      · subst eh ea
        rw [rng_len]
        have e1 : (ups (1 + c).toNat).reverse.take (1 + c).toNat = (ups (1 + c).toNat).reverse := List.take_of_length_le (by rw [List.length_reverse, ups_len]; exact Nat.le_refl _)
        rw [e1]
        have n4 := Fr.new g3.dw (.lst ((ups (1 + c).toNat).reverse.map PV.int))
        have two3 := g3.dw.two
        try simp only [bnd_bnd, bnd_sbnd, sbnd_seq, seq_seq, seqC_ap, ss_cons, ss_nil, s_asg, s_ret, s_ite, s_ex, s_for, s_whl, e_non, e_bl, e_int, e_str, e_var, e_bin, e_neg, e_cmp, e_not, e_tup, e_lst, e_dic0, e_sub, e_call, e_bi, e_mt, kindG_same, e_isi, e_inv, e_lrg, e_fld, e_mk, e_um, e_kcall, e_lgen, e_rpr, s_sfld, s_augF, e_lc, e_dc, wipeP, new, evEs, evT, evTs, evP, evI, evG, bnd_ok, sbnd_ok, seq_nx, seq_rt, to_nx, go_nx, go_ct, rt_rt, ok_ok, slot, item0, item1, item2, item3, sub_t, i_int, i_abs, i_lenT, c_eqI, c_neI, c_eqS, c_neS, c_lt, c_le, c_gt, c_ge, asB_bl, iteC_t, iteC_f, iteC_d, b_add, b_sub, b_mul, b_mod, List.getElem?_cons_succ, List.getElem?_cons_zero, List.set_cons_succ, List.set_cons_zero]
        have := cont (1 + c) h4.length (ups (1 + c).toNat).reverse _ none (by omega) (by omega) ⟨at_new, by omega, by rw [List.length_reverse, ups_len]; omega, (List.reverse_perm _).nodup_iff.mpr ups_nd, fun l hl => ups_lo l (List.mem_reverse.mp hl), fun l hl => ups_hi (by omega) l (List.mem_reverse.mp hl)⟩ (g3.fr n4) (((f1.trans n1).trans f3).trans n4)
        exact this
    · rw [if_neg c3]
      try simp only [bnd_bnd, bnd_sbnd, sbnd_seq, seq_seq, seqC_ap, ss_cons, ss_nil, s_asg, s_ret, s_ite, s_ex, s_for, s_whl, e_non, e_bl, e_int, e_str, e_var, e_bin, e_neg, e_cmp, e_not, e_tup, e_lst, e_dic0, e_sub, e_call, e_bi, e_mt, kindG_same, e_isi, e_inv, e_lrg, e_fld, e_mk, e_um, e_kcall, e_lgen, e_rpr, s_sfld, s_augF, e_lc, e_dc, wipeP, new, evEs, evT, evTs, evP, evI, evG, bnd_ok, sbnd_ok, seq_nx, seq_rt, to_nx, go_nx, go_ct, rt_rt, ok_ok, slot, item0, item1, item2, item3, sub_t, i_int, i_abs, i_lenT, c_eqI, c_neI, c_eqS, c_neS, c_lt, c_le, c_gt, c_ge, asB_bl, iteC_t, iteC_f, iteC_d, b_add, b_sub, b_mul, b_mod]
      exact cont (1 + c) h2.length (ups (1 + c).toNat) h3 none (by omega) (by omega) L3 g3 ((f1.trans n1).trans f3)
end
end MP

set_option Elab.async false
set_option linter.all false
set_option maxRecDepth 100000
set_option maxHeartbeats 4000000
namespace MP
open PySem
open Out (ok bad)
section
variable {T : Str → Option Df} {h h' : PH} {m w : Int} {k P V : Nat} {vars : List Int}
def endS : S := (.ite (.or (.cmp .Eq (.var 13) (.lst .nil)) (.cmp .Eq (.var 12) (.int 0))) (.cons (.asg (.nm 14) (.tup (.cons (.str "return") (.cons (.call "_law_expression" (.cons (.var 6) (.cons (.int 1) .nil))) .nil))))
    .nil) (.cons (.ite (.cmp .Eq (.var 12) (.int 1)) (.cons (.asg (.nm 14) (.tup (.cons (.str "go") (.cons (.sub (.var 13) (.call "_law_take" (.cons (.var 0) (.cons (.bi .len (.cons (.var 13) .nil)) .nil)))) .nil))))
    .nil) (.cons (.asg (.nm 15) (.ite (.cmp .Eq (.call "_law_take" (.cons (.var 0) (.cons (.int 3) .nil))) (.int 0)) (.sub (.slc (.var 8) (.some (.int 1)) .none) (.call "_law_take" (.cons (.var 0) (.cons (.bin .Sub (.var 7) (.int 1)) .nil)))) (.sub (.var 13) (.call "_law_take" (.cons (.var 0) (.cons (.bi .len (.cons (.var 13) .nil)) .nil))))))
    (.cons (.asg (.nm 14) (.tup (.cons (.str "if") (.cons (.call "_law_expression" (.cons (.var 6) (.cons (.int 2) .nil))) (.cons (.var 15) (.cons (.sub (.var 13) (.call "_law_take" (.cons (.var 0) (.cons (.bi .len (.cons (.var 13) .nil)) .nil)))) .nil))))))
    .nil)))
    .nil))
def QE (w : Int) (vars Ls : List Int) (h : PH) (s : Option PV → Option PV → PSt) (s' : PSt) (h' : PH) : Prop := ∃ (en : En) (a15 : Option PV), s' = s (some en.pv) a15 ∧ en.good w vars Ls ∧ Fr h h'
theorem end_ok (G : Gen T) (hk : 6 ≤ k) {B M np c what : Int} {z : PV} {L E i : Nat} {Ls : List Int} {a9 a10 a11 a14 a15 a16 : Option PV} (g : GP h P V w vars) (Lb : Lbl h L Ls c) (hE : h[E]? = some (.lst ((Ls.drop (i + 1)).map PV.int))) (hE1 : E ≠ 1) (hi : i < Ls.length) (hc : c ≤ 60) :
    (evS (evCall T k) endS [some (.ref 1), some (.int B), some (.int M), some (.int w), some (.int np), some z, some (.ref P), some (.int c), some (.ref L), a9, a10, a11, some (.int what), some (.ref E), a14, a15, a16] h).To
      (QE w vars Ls h fun x y => [some (.ref 1), some (.int B), some (.int M), some (.int w), some (.int np), some z, some (.ref P), some (.int c), some (.ref L), a9, a10, a11, some (.int what), some (.ref E), x, y, a16]) := by
  have hS : (64 : Nat) ≤ sizeLine := by decide
  have q2 : 2 ≤ sizeLine := by omega
  have q4 : 4 ≤ sizeLine := by omega
  have q0 : 0 ≤ sizeLine := Nat.zero_le _
  have n0 := Fr.new g.dw (.lst [])
  have e0 : (h ++ [PO.lst []])[E]? = some (.lst ((Ls.drop (i + 1)).map PV.int)) := n0.at hE hE1
  have e00 : (h ++ [PO.lst []])[h.length]? = some (.lst (([] : List Int).map PV.int)) := at_new
  have ce := c_eq (eq_ints e0 e00)
  have g0 := g.fr n0
  have L0 := Lb.fr n0
  unfold endS
  simp only [bnd_bnd, bnd_sbnd, sbnd_seq, seq_seq, seqC_ap, ss_cons, ss_nil, s_asg, s_ret, s_ite, s_ex, s_for, s_whl, e_non, e_bl, e_int, e_str, e_var, e_bin, e_neg, e_cmp, e_not, e_tup, e_lst, e_dic0, e_sub, e_call, e_bi, e_mt, kindG_same, e_isi, e_inv, e_lrg, e_fld, e_mk, e_um, e_kcall, e_lgen, e_rpr, s_sfld, s_augF, e_lc, e_dc, wipeP, new, evEs, evT, evTs, evP, evI, evG, bnd_ok, sbnd_ok, seq_nx, seq_rt, to_nx, go_nx, go_ct, rt_rt, ok_ok, slot, item0, item1, item2, item3, sub_t, i_int, i_abs, i_lenT, c_eqI, c_neI, c_eqS, c_neS, c_lt, c_le, c_gt, c_ge, asB_bl, iteC_t, iteC_f, iteC_d, b_add, b_sub, b_mul, b_mod, List.length_nil, q0, if_true, List.getElem?_cons_succ, List.getElem?_cons_zero, List.set_cons_succ, List.set_cons_zero, ce, or_b]
  by_cases c1 : Ls.drop (i + 1) = [] ∨ what = 0
  · rw [show (decide (Ls.drop (i + 1) = []) || decide (what = 0)) = true from by rw [Bool.or_eq_true, decide_eq_true_eq, decide_eq_true_eq]; exact c1]
    simp only [bnd_bnd, bnd_sbnd, sbnd_seq, seq_seq, seqC_ap, ss_cons, ss_nil, s_asg, s_ret, s_ite, s_ex, s_for, s_whl, e_non, e_bl, e_int, e_str, e_var, e_bin, e_neg, e_cmp, e_not, e_tup, e_lst, e_dic0, e_sub, e_call, e_bi, e_mt, kindG_same, e_isi, e_inv, e_lrg, e_fld, e_mk, e_um, e_kcall, e_lgen, e_rpr, s_sfld, s_augF, e_lc, e_dc, wipeP, new, evEs, evT, evTs, evP, evI, evG, bnd_ok, sbnd_ok, seq_nx, seq_rt, to_nx, go_nx, go_ct, rt_rt, ok_ok, slot, item0, item1, item2, item3, sub_t, i_int, i_abs, i_lenT, c_eqI, c_neI, c_eqS, c_neS, c_lt, c_le, c_gt, c_ge, asB_bl, iteC_t, iteC_f, iteC_d, b_add, b_sub, b_mul, b_mod, List.getElem?_cons_succ, List.getElem?_cons_zero, List.set_cons_succ, List.set_cons_zero]
    refine Out.Ok.to (gen_expr' G (d := 1) rfl (by omega) g0) fun v h1 ⟨⟨e, ev, eg, ed⟩, f1⟩ => ?_
    subst ev
    simp only [List.length_cons, List.length_nil, q2, if_true, bnd_bnd, bnd_sbnd, sbnd_seq, seq_seq, seqC_ap, ss_cons, ss_nil, s_asg, s_ret, s_ite, s_ex, s_for, s_whl, e_non, e_bl, e_int, e_str, e_var, e_bin, e_neg, e_cmp, e_not, e_tup, e_lst, e_dic0, e_sub, e_call, e_bi, e_mt, kindG_same, e_isi, e_inv, e_lrg, e_fld, e_mk, e_um, e_kcall, e_lgen, e_rpr, s_sfld, s_augF, e_lc, e_dc, wipeP, new, evEs, evT, evTs, evP, evI, evG, bnd_ok, sbnd_ok, seq_nx, seq_rt, to_nx, go_nx, go_ct, rt_rt, ok_ok, slot, item0, item1, item2, item3, sub_t, i_int, i_abs, i_lenT, c_eqI, c_neI, c_eqS, c_neS, c_lt, c_le, c_gt, c_ge, asB_bl, iteC_t, iteC_f, iteC_d, b_add, b_sub, b_mul, b_mod, List.set_cons_succ, List.set_cons_zero]
    exact ⟨.ret e, a15, rfl, ⟨eg, by omega⟩, n0.trans f1⟩
  · rw [show (decide (Ls.drop (i + 1) = []) || decide (what = 0)) = false from by rw [Bool.or_eq_false_iff, decide_eq_false_iff_not, decide_eq_false_iff_not]; exact not_or.mp c1]
    have hne : Ls.drop (i + 1) ≠ [] := fun z => c1 (.inl z)
    have hlen : 1 ≤ (Ls.drop (i + 1)).length := List.length_pos_iff.mpr hne
    have hlen2 : (Ls.drop (i + 1)).length ≤ Ls.length := by rw [List.length_drop]; omega
    have hll := Lb.len
    have hl3 := List.length_drop (i := i + 1) (l := Ls)
    simp only [bnd_bnd, bnd_sbnd, sbnd_seq, seq_seq, seqC_ap, ss_cons, ss_nil, s_asg, s_ret, s_ite, s_ex, s_for, s_whl, e_non, e_bl, e_int, e_str, e_var, e_bin, e_neg, e_cmp, e_not, e_tup, e_lst, e_dic0, e_sub, e_call, e_bi, e_mt, kindG_same, e_isi, e_inv, e_lrg, e_fld, e_mk, e_um, e_kcall, e_lgen, e_rpr, s_sfld, s_augF, e_lc, e_dc, wipeP, new, evEs, evT, evTs, evP, evI, evG, bnd_ok, sbnd_ok, seq_nx, seq_rt, to_nx, go_nx, go_ct, rt_rt, ok_ok, slot, item0, item1, item2, item3, sub_t, i_int, i_abs, i_lenT, c_eqI, c_neI, c_eqS, c_neS, c_lt, c_le, c_gt, c_ge, asB_bl, iteC_t, iteC_f, iteC_d, b_add, b_sub, b_mul, b_mod, List.getElem?_cons_succ, List.getElem?_cons_zero, List.set_cons_succ, List.set_cons_zero]
    by_cases c2 : what = 1
    · rw [if_pos c2]
      simp only [bnd_bnd, bnd_sbnd, sbnd_seq, seq_seq, seqC_ap, ss_cons, ss_nil, s_asg, s_ret, s_ite, s_ex, s_for, s_whl, e_non, e_bl, e_int, e_str, e_var, e_bin, e_neg, e_cmp, e_not, e_tup, e_lst, e_dic0, e_sub, e_call, e_bi, e_mt, kindG_same, e_isi, e_inv, e_lrg, e_fld, e_mk, e_um, e_kcall, e_lgen, e_rpr, s_sfld, s_augF, e_lc, e_dc, wipeP, new, evEs, evT, evTs, evP, evI, evG, bnd_ok, sbnd_ok, seq_nx, seq_rt, to_nx, go_nx, go_ct, rt_rt, ok_ok, slot, item0, item1, item2, item3, sub_t, i_int, i_abs, i_lenT, c_eqI, c_neI, c_eqS, c_neS, c_lt, c_le, c_gt, c_ge, asB_bl, iteC_t, iteC_f, iteC_d, b_add, b_sub, b_mul, b_mod, List.getElem?_cons_succ, List.getElem?_cons_zero, List.set_cons_succ, List.set_cons_zero, i_lenL e0, List.length_map]
      refine Out.Ok.to (gen_take' G (by omega) g0.dw (by omega) (by omega)) fun v h1 ⟨⟨r, ev, r0, r1⟩, f1⟩ => ?_
      subst ev
      obtain ⟨x, hx, ex⟩ := item_int r0 r1
      simp only [sub_l (f1.at e0 hE1), ex, List.length_cons, List.length_nil, q2, if_true, bnd_bnd, bnd_sbnd, sbnd_seq, seq_seq, seqC_ap, ss_cons, ss_nil, s_asg, s_ret, s_ite, s_ex, s_for, s_whl, e_non, e_bl, e_int, e_str, e_var, e_bin, e_neg, e_cmp, e_not, e_tup, e_lst, e_dic0, e_sub, e_call, e_bi, e_mt, kindG_same, e_isi, e_inv, e_lrg, e_fld, e_mk, e_um, e_kcall, e_lgen, e_rpr, s_sfld, s_augF, e_lc, e_dc, wipeP, new, evEs, evT, evTs, evP, evI, evG, bnd_ok, sbnd_ok, seq_nx, seq_rt, to_nx, go_nx, go_ct, rt_rt, ok_ok, slot, item0, item1, item2, item3, sub_t, i_int, i_abs, i_lenT, c_eqI, c_neI, c_eqS, c_neS, c_lt, c_le, c_gt, c_ge, asB_bl, iteC_t, iteC_f, iteC_d, b_add, b_sub, b_mul, b_mod, List.set_cons_succ, List.set_cons_zero]
      exact ⟨.go x, a15, rfl, List.mem_of_mem_drop hx, n0.trans f1⟩
    · rw [if_neg c2]
      simp only [bnd_bnd, bnd_sbnd, sbnd_seq, seq_seq, seqC_ap, ss_cons, ss_nil, s_asg, s_ret, s_ite, s_ex, s_for, s_whl, e_non, e_bl, e_int, e_str, e_var, e_bin, e_neg, e_cmp, e_not, e_tup, e_lst, e_dic0, e_sub, e_call, e_bi, e_mt, kindG_same, e_isi, e_inv, e_lrg, e_fld, e_mk, e_um, e_kcall, e_lgen, e_rpr, s_sfld, s_augF, e_lc, e_dc, wipeP, new, evEs, evT, evTs, evP, evI, evG, bnd_ok, sbnd_ok, seq_nx, seq_rt, to_nx, go_nx, go_ct, rt_rt, ok_ok, slot, item0, item1, item2, item3, sub_t, i_int, i_abs, i_lenT, c_eqI, c_neI, c_eqS, c_neS, c_lt, c_le, c_gt, c_ge, asB_bl, iteC_t, iteC_f, iteC_d, b_add, b_sub, b_mul, b_mod, e_ite, List.getElem?_cons_succ, List.getElem?_cons_zero, List.set_cons_succ, List.set_cons_zero]
      refine Out.Ok.to (gen_take' G (by omega) g0.dw (by omega) (by omega)) fun v h1 ⟨⟨r, ev, r0, r1⟩, f1⟩ => ?_
      subst ev
      have g1 := g0.fr f1
      have L1 := L0.fr f1
      have e1 := f1.at e0 hE1
      -- the rest, from the other's label on
      have fin : ∀ (y : Int) (h2 : PH), y ∈ Ls → GP h2 P V w vars → h2[E]? = some (.lst ((Ls.drop (i + 1)).map PV.int)) → Fr h h2 → (evSs (evCall T k) (.cons (.asg (.nm 14) (.tup (.cons (.str "if") (.cons (.call "_law_expression" (.cons (.var 6) (.cons (.int 2) .nil))) (.cons (.var 15) (.cons (.sub (.var 13) (.call "_law_take" (.cons (.var 0) (.cons (.bi .len (.cons (.var 13) .nil)) .nil)))) .nil)))))) .nil)
          [some (.ref 1), some (.int B), some (.int M), some (.int w), some (.int np), some z, some (.ref P), some (.int c), some (.ref L), a9, a10, a11, some (.int what), some (.ref E), a14, some (.int y), a16] h2).To (QE w vars Ls h fun x y => [some (.ref 1), some (.int B), some (.int M), some (.int w), some (.int np), some z, some (.ref P), some (.int c), some (.ref L), a9, a10, a11, some (.int what), some (.ref E), x, y, a16]) := by
        intro y h2 hy g2 e2 f2
        simp only [bnd_bnd, bnd_sbnd, sbnd_seq, seq_seq, seqC_ap, ss_cons, ss_nil, s_asg, s_ret, s_ite, s_ex, s_for, s_whl, e_non, e_bl, e_int, e_str, e_var, e_bin, e_neg, e_cmp, e_not, e_tup, e_lst, e_dic0, e_sub, e_call, e_bi, e_mt, kindG_same, e_isi, e_inv, e_lrg, e_fld, e_mk, e_um, e_kcall, e_lgen, e_rpr, s_sfld, s_augF, e_lc, e_dc, wipeP, new, evEs, evT, evTs, evP, evI, evG, bnd_ok, sbnd_ok, seq_nx, seq_rt, to_nx, go_nx, go_ct, rt_rt, ok_ok, slot, item0, item1, item2, item3, sub_t, i_int, i_abs, i_lenT, c_eqI, c_neI, c_eqS, c_neS, c_lt, c_le, c_gt, c_ge, asB_bl, iteC_t, iteC_f, iteC_d, b_add, b_sub, b_mul, b_mod, List.getElem?_cons_succ, List.getElem?_cons_zero, List.set_cons_succ, List.set_cons_zero]
        refine Out.Ok.to (gen_expr' G (d := 2) rfl (by omega) g2) fun v h3 ⟨⟨e, ev, eg, ed⟩, f3⟩ => ?_
        subst ev
        have e3 := f3.at e2 hE1
        simp only [bnd_bnd, bnd_sbnd, sbnd_seq, seq_seq, seqC_ap, ss_cons, ss_nil, s_asg, s_ret, s_ite, s_ex, s_for, s_whl, e_non, e_bl, e_int, e_str, e_var, e_bin, e_neg, e_cmp, e_not, e_tup, e_lst, e_dic0, e_sub, e_call, e_bi, e_mt, kindG_same, e_isi, e_inv, e_lrg, e_fld, e_mk, e_um, e_kcall, e_lgen, e_rpr, s_sfld, s_augF, e_lc, e_dc, wipeP, new, evEs, evT, evTs, evP, evI, evG, bnd_ok, sbnd_ok, seq_nx, seq_rt, to_nx, go_nx, go_ct, rt_rt, ok_ok, slot, item0, item1, item2, item3, sub_t, i_int, i_abs, i_lenT, c_eqI, c_neI, c_eqS, c_neS, c_lt, c_le, c_gt, c_ge, asB_bl, iteC_t, iteC_f, iteC_d, b_add, b_sub, b_mul, b_mod, List.getElem?_cons_succ, List.getElem?_cons_zero, i_lenL e3, List.length_map]
        refine Out.Ok.to (gen_take' G (by omega) f3.dw (by omega) (by omega)) fun v h4 ⟨⟨r, ev, r0, r1⟩, f4⟩ => ?_
        subst ev
        obtain ⟨x, hx, ex⟩ := item_int r0 r1
        simp only [sub_l (f4.at e3 hE1), ex, List.length_cons, List.length_nil, q4, if_true, bnd_bnd, bnd_sbnd, sbnd_seq, seq_seq, seqC_ap, ss_cons, ss_nil, s_asg, s_ret, s_ite, s_ex, s_for, s_whl, e_non, e_bl, e_int, e_str, e_var, e_bin, e_neg, e_cmp, e_not, e_tup, e_lst, e_dic0, e_sub, e_call, e_bi, e_mt, kindG_same, e_isi, e_inv, e_lrg, e_fld, e_mk, e_um, e_kcall, e_lgen, e_rpr, s_sfld, s_augF, e_lc, e_dc, wipeP, new, evEs, evT, evTs, evP, evI, evG, bnd_ok, sbnd_ok, seq_nx, seq_rt, to_nx, go_nx, go_ct, rt_rt, ok_ok, slot, item0, item1, item2, item3, sub_t, i_int, i_abs, i_lenT, c_eqI, c_neI, c_eqS, c_neS, c_lt, c_le, c_gt, c_ge, asB_bl, iteC_t, iteC_f, iteC_d, b_add, b_sub, b_mul, b_mod, List.set_cons_succ, List.set_cons_zero]
        exact ⟨.br e y x, _, rfl, ⟨⟨eg, ed⟩, hy, List.mem_of_mem_drop hx⟩, (f2.trans f3).trans f4⟩
      by_cases c3 : r = 0
      · simp only [c_eqI, asB_bl, sbnd_ok, c3, decide_true, if_true, e_slice, bnd_bnd, bnd_sbnd, sbnd_seq, seq_seq, seqC_ap, ss_cons, ss_nil, s_asg, s_ret, s_ite, s_ex, s_for, s_whl, e_non, e_bl, e_int, e_str, e_var, e_bin, e_neg, e_cmp, e_not, e_tup, e_lst, e_dic0, e_sub, e_call, e_bi, e_mt, kindG_same, e_isi, e_inv, e_lrg, e_fld, e_mk, e_um, e_kcall, e_lgen, e_rpr, s_sfld, s_augF, e_lc, e_dc, wipeP, new, evEs, evT, evTs, evP, evI, evG, bnd_ok, sbnd_ok, seq_nx, seq_rt, to_nx, go_nx, go_ct, rt_rt, ok_ok, slot, item0, item1, item2, item3, sub_t, i_int, i_abs, i_lenT, c_eqI, c_neI, c_eqS, c_neS, c_lt, c_le, c_gt, c_ge, asB_bl, iteC_t, iteC_f, iteC_d, b_add, b_sub, b_mul, b_mod, List.getElem?_cons_succ, List.getElem?_cons_zero, slc_l L1.at_, cut_from (α := PV) (show (0 : Int) ≤ 1 by decide)]
        have n1 := Fr.new g1.dw (.lst ((Ls.drop 1).map PV.int))
        rw [show ((Ls.map PV.int).drop (1 : Int).toNat) = (Ls.drop 1).map PV.int from by rw [List.map_drop]; rfl]
        refine Out.Ok.to (gen_take' G (by omega) n1.dw (by omega) (by omega)) fun v h2 ⟨⟨r2, ev, r20, r21⟩, f2⟩ => ?_
        subst ev
        have two := g1.dw.two
        have e2 : h2[h1.length]? = some (.lst ((Ls.drop 1).map PV.int)) := f2.at at_new (by omega)
        obtain ⟨y, hy, ey⟩ := item_int (xs := Ls.drop 1) r20 (by rw [List.length_drop]; omega)
        simp only [sub_l e2, ey, sbnd_ok]
        have := fin y h2 (List.mem_of_mem_drop hy) ((g1.fr n1).fr f2) (f2.at (n1.at e1 hE1) hE1) (((n0.trans f1).trans n1).trans f2)
        simp only [bnd_bnd, bnd_sbnd, sbnd_seq, seq_seq, seqC_ap, ss_cons, ss_nil, s_asg, s_ret, s_ite, s_ex, s_for, s_whl, e_non, e_bl, e_int, e_str, e_var, e_bin, e_neg, e_cmp, e_not, e_tup, e_lst, e_dic0, e_sub, e_call, e_bi, e_mt, kindG_same, e_isi, e_inv, e_lrg, e_fld, e_mk, e_um, e_kcall, e_lgen, e_rpr, s_sfld, s_augF, e_lc, e_dc, wipeP, new, evEs, evT, evTs, evP, evI, evG, bnd_ok, sbnd_ok, seq_nx, seq_rt, to_nx, go_nx, go_ct, rt_rt, ok_ok, slot, item0, item1, item2, item3, sub_t, i_int, i_abs, i_lenT, c_eqI, c_neI, c_eqS, c_neS, c_lt, c_le, c_gt, c_ge, asB_bl, iteC_t, iteC_f, iteC_d, b_add, b_sub, b_mul, b_mod, List.getElem?_cons_succ, List.getElem?_cons_zero, List.set_cons_succ, List.set_cons_zero] at this
        exact this
      · simp only [c_eqI, asB_bl, sbnd_ok, c3, decide_false, Bool.false_eq_true, if_false, i_lenL e1, bnd_ok, List.length_map, bnd_sbnd]
        refine Out.Ok.to (gen_take' G (by omega) g1.dw (by omega) (by omega)) fun v h2 ⟨⟨r2, ev, r20, r21⟩, f2⟩ => ?_
        subst ev
        obtain ⟨y, hy, ey⟩ := item_int r20 r21
        simp only [sub_l (f2.at e1 hE1), ey, sbnd_ok]
        have := fin y h2 (List.mem_of_mem_drop hy) (g1.fr f2) (f2.at e1 hE1) ((n0.trans f1).trans f2)
        simp only [bnd_bnd, bnd_sbnd, sbnd_seq, seq_seq, seqC_ap, ss_cons, ss_nil, s_asg, s_ret, s_ite, s_ex, s_for, s_whl, e_non, e_bl, e_int, e_str, e_var, e_bin, e_neg, e_cmp, e_not, e_tup, e_lst, e_dic0, e_sub, e_call, e_bi, e_mt, kindG_same, e_isi, e_inv, e_lrg, e_fld, e_mk, e_um, e_kcall, e_lgen, e_rpr, s_sfld, s_augF, e_lc, e_dc, wipeP, new, evEs, evT, evTs, evP, evI, evG, bnd_ok, sbnd_ok, seq_nx, seq_rt, to_nx, go_nx, go_ct, rt_rt, ok_ok, slot, item0, item1, item2, item3, sub_t, i_int, i_abs, i_lenT, c_eqI, c_neI, c_eqS, c_neS, c_lt, c_le, c_gt, c_ge, asB_bl, iteC_t, iteC_f, iteC_d, b_add, b_sub, b_mul, b_mod, List.getElem?_cons_succ, List.getElem?_cons_zero, List.set_cons_succ, List.set_cons_zero] at this
        exact this
end
end MP

set_option Elab.async false
set_option linter.all false
set_option maxRecDepth 100000
set_option maxHeartbeats 4000000
namespace MP
open PySem
open Out (ok bad)
/-- all but the draw's place and one more are kept -/
structure Fr2 (R : Nat) (h h' : PH) : Prop where
  dw : DW h'
  len : h.length ≤ h'.length
  keep : ∀ i, i < h.length → i ≠ 1 → i ≠ R → h'[i]? = h[i]?
theorem Fr.two {R : Nat} {h h' : PH} (f : Fr h h') : Fr2 R h h' := ⟨f.dw, f.len, fun i a b _ => f.keep i a b⟩
theorem Fr2.trans {R : Nat} {a b c : PH} (x : Fr2 R a b) (y : Fr2 R b c) : Fr2 R a c := ⟨y.dw, Nat.le_trans x.len y.len, fun i hi h1 h2 => (y.keep i (Nat.lt_of_lt_of_le hi x.len) h1 h2).trans (x.keep i hi h1 h2)⟩
theorem Fr2.at {R : Nat} {h h' : PH} {l : Nat} {o : PO} (x : Fr2 R h h') (e : h[l]? = some o) (n : l ≠ 1) (n2 : l ≠ R) : h'[l]? = some o := (x.keep l (lt_of_some e) n n2).trans e
theorem Fr2.set {R : Nat} {h : PH} {o : PO} (d : DW h) (hR : 2 ≤ R) : Fr2 R h (h.set R o) := by
  refine ⟨?_, by rw [List.length_set]; exact Nat.le_refl _, fun i _ _ n => by rw [List.getElem?_set_ne (Ne.symm n)]⟩
  obtain ⟨cs, p, e1, e2, e3⟩ := d
  exact ⟨cs, p, by rw [List.getElem?_set_ne (by omega)]; exact e1, by rw [List.getElem?_set_ne (by omega)]; exact e2, e3⟩
theorem append_at {l : Nat} {xs : List PV} {x : PV} {h : PH} (e : h[l]? = some (.lst xs)) (hz : xs.length < sizeLine) : mtF .append (.ref l) [x] h = ok .non (h.set l (.lst (xs ++ [x]))) := by simp only [mtF, e, lstM, hz, if_true]
theorem kind_at {l : Nat} {xs : List PV} {h : PH} (e : h[l]? = some (.lst xs)) : kind (.ref l) h = 1 := by simp only [kind, e]
theorem tuple_at {l : Nat} {xs : List PV} {h : PH} (e : h[l]? = some (.lst xs)) : biF .tuple [.ref l] h = ok (.tup xs) h := by simp only [biF, e]
section
variable {T : Str → Option Df} {h h' : PH} {m w : Int} {k P V : Nat} {vars : List Int}
def QB (w M : Int) (vars Ls : List Int) (l : Int) (R : Nat) (bs : List Bk) (h : PH) (s : Option PV → Option PV → Option PV → Option PV → Option PV → Option PV → PSt) (s' : PSt) (h' : PH) : Prop :=
  ∃ (b : Bk) (x1 x2 x3 x4 x5 x6 : Option PV), s' = s x1 x2 x3 x4 x5 x6 ∧ b.l = l ∧ b.good w vars Ls M ∧ h'[R]? = some (.lst ((bs ++ [b]).map Bk.pv)) ∧ Fr2 R h h'
theorem body_fn (G : Gen T) (hk : 7 ≤ k) {B M np c : Int} {z : PV} {L R i : Nat} {Ls : List Int} {l : Int} {bs : List Bk} {x1 x2 x3 x4 x5 x6 : Option PV} (g : GP h P V w vars) (Lb : Lbl h L Ls c) (hR : h[R]? = some (.lst (bs.map Bk.pv))) (hR2 : 2 ≤ R) (hb : bs.length < 64)
    (hl : Ls[i]? = some l) (hc : c ≤ 60) (hM : 0 ≤ M) (hM2 : M ≤ 60) :
    (evSs (evCall T k) fnBody [some (.ref 1), some (.int B), some (.int M), some (.int w), some (.int np), some z, some (.ref P), some (.int c), some (.ref L), some (.ref R), some (.int i), x1, x2, x3, x4, x5, x6] h).Go
      (QB w M vars Ls l R bs h fun x1 x2 x3 x4 x5 x6 => [some (.ref 1), some (.int B), some (.int M), some (.int w), some (.int np), some z, some (.ref P), some (.int c), some (.ref L), some (.ref R), some (.int i), x1, x2, x3, x4, x5, x6]) := by
  have hS : (64 : Nat) ≤ sizeLine := by decide
  have q3 : 3 ≤ sizeLine := by omega
  have hi := lt_of_some hl
  show (evSs (evCall T k) (.cons _ (.cons _ (.cons _ (.cons endS _)))) _ _).Go _
  simp only [ss_cons, s_asg, e_lc, evI, evEs, e_call, e_bin, e_var, e_int, slot, wipeP, bnd_bnd, bnd_ok, bnd_sbnd, sbnd_seq, b_add, List.getElem?_cons_succ, List.getElem?_cons_zero, List.set_cons_succ, List.set_cons_zero]
  refine Out.Ok.go (gen_take' G (by omega) g.dw (by omega) (by omega)) fun v h1 ⟨⟨r, ev, r0, r1⟩, f1⟩ => ?_
  subst ev
  have g1 := g.fr f1
  have sr : small r = true := decide_eq_true ⟨by omega, by omega⟩
  simp only [sr, if_true, bnd_ok, sbnd_ok]
  refine Out.Ok.go (each_vals (fun j acc h' => Fr h1 h' ∧ ∃ ss : List Sm, acc = ss.map Sm.pv ∧ ss.length = j ∧ ∀ s ∈ ss, s.good w vars) ⟨Fr.refl g1.dw, [], rfl, rfl, by simp⟩ fun j x acc h2 hx ⟨f2, ss, ea, ej, hg⟩ => ?_) fun acc h2 ⟨f2, ss, ea, ej, hg⟩ => ?_
  · obtain ⟨hj, rfl⟩ := rng_at hx
    subst ea
    have g2 := g1.fr f2
    unfold lcC
    simp only [bnd_bnd, bnd_sbnd, sbnd_seq, seq_seq, seqC_ap, ss_cons, ss_nil, s_asg, s_ret, s_ite, s_ex, s_for, s_whl, e_non, e_bl, e_int, e_str, e_var, e_bin, e_neg, e_cmp, e_not, e_tup, e_lst, e_dic0, e_sub, e_call, e_bi, e_mt, kindG_same, e_isi, e_inv, e_lrg, e_fld, e_mk, e_um, e_kcall, e_lgen, e_rpr, s_sfld, s_augF, e_lc, e_dc, wipeP, new, evEs, evT, evTs, evP, evI, evG, bnd_ok, sbnd_ok, seq_nx, seq_rt, to_nx, go_nx, go_ct, rt_rt, ok_ok, slot, item0, item1, item2, item3, sub_t, i_int, i_abs, i_lenT, c_eqI, c_neI, c_eqS, c_neS, c_lt, c_le, c_gt, c_ge, asB_bl, iteC_t, iteC_f, iteC_d, b_add, b_sub, b_mul, b_mod, List.getElem?_cons_succ, List.getElem?_cons_zero, List.set_cons_succ, List.set_cons_zero, if_true]
    refine Out.Ok.bnd (gen_stmt G (by omega) g2) fun v h3 ⟨⟨s, ev, sg⟩, f3⟩ => ?_
    subst ev
    rw [if_pos (by rw [List.length_map]; omega), ok_ok]
    refine ⟨f2.trans f3, ss ++ [s], by simp, by rw [List.length_append, ej]; rfl, fun y hy => ?_⟩
    rcases List.mem_append.mp hy with q | q
    · exact hg y q
    · have : y = s := by simpa using q
      exact this ▸ sg
  · subst ea
    rw [rng_len] at ej
    have g2 := g1.fr f2
    have two2 := g2.dw.two
    have n2 := Fr.new g2.dw (.lst (ss.map Sm.pv))
    have g3 := g2.fr n2
    simp only [new, bnd_ok, sbnd_ok, evG, seq_nx, ss_cons, s_asg, evEs, e_call, e_int, e_var, slot, bnd_bnd, bnd_sbnd, sbnd_seq, List.getElem?_cons_succ, List.getElem?_cons_zero, List.set_cons_succ, List.set_cons_zero]
    refine Out.Ok.go (gen_take' G (by omega) g3.dw (by decide) (by decide)) fun v h4 ⟨⟨what, ev, t0, t1⟩, f4⟩ => ?_
    subst ev
    have g4 := g3.fr f4
    have F4 := ((f1.trans f2).trans n2).trans f4
    have L4 := Lb.fr F4
    have n4 := Fr.new g4.dw (.lst ((Ls.drop (i + 1)).map PV.int))
    simp only [sbnd_ok, seq_nx, ss_cons, s_asg, e_slice, evP, e_bin, e_var, e_int, slot, bnd_bnd, bnd_ok, bnd_sbnd, sbnd_seq, evG, b_add, List.getElem?_cons_succ, List.getElem?_cons_zero, List.set_cons_succ, List.set_cons_zero, slc_l L4.at_, cut_from (α := PV) (show (0 : Int) ≤ (i : Int) + 1 by omega)]
    rw [show ((Ls.map PV.int).drop ((i : Int) + 1).toNat) = (Ls.drop (i + 1)).map PV.int from by rw [List.map_drop]; rfl]
    have g5 := g4.fr n4
    have two4 := g4.dw.two
    refine SO.To.go (end_ok G (by omega) (i := i) g5 (L4.fr n4) at_new (by omega) hi hc) fun s5 h5 ⟨en, a15, es, eg, f5⟩ => ?_
    subst es
    have F5 := (F4.trans n4).trans f5
    have L5 := Lb.fr F5
    have eR := F5.at hR (by omega)
    have eD : h5[h2.length]? = some (.lst (ss.map Sm.pv)) := f5.at (n4.at (f4.at at_new (by omega)) (by omega)) (by omega)
    have el : itemF (Ls.map PV.int) (.int i) = ok (.int l) := by
      funext hh
      exact itemF_at (by omega) (by rw [List.getElem?_map, show ((i : Int)).toNat = i by omega, hl]; rfl)
    simp only [bnd_bnd, bnd_sbnd, sbnd_seq, seq_seq, seqC_ap, ss_cons, ss_nil, s_asg, s_ret, s_ite, s_ex, s_for, s_whl, e_non, e_bl, e_int, e_str, e_var, e_bin, e_neg, e_cmp, e_not, e_tup, e_lst, e_dic0, e_sub, e_call, e_bi, e_mt, kindG_same, e_isi, e_inv, e_lrg, e_fld, e_mk, e_um, e_kcall, e_lgen, e_rpr, s_sfld, s_augF, e_lc, e_dc, wipeP, new, evEs, evT, evTs, evP, evI, evG, bnd_ok, sbnd_ok, seq_nx, seq_rt, to_nx, go_nx, go_ct, rt_rt, ok_ok, slot, item0, item1, item2, item3, sub_t, i_int, i_abs, i_lenT, c_eqI, c_neI, c_eqS, c_neS, c_lt, c_le, c_gt, c_ge, asB_bl, iteC_t, iteC_f, iteC_d, b_add, b_sub, b_mul, b_mod, List.getElem?_cons_succ, List.getElem?_cons_zero, sub_l L5.at_, el, tuple_at eD, List.length_cons, List.length_nil, q3, if_true, kind_at eR, append_at eR (by rw [List.length_map]; omega)]
    exact ⟨⟨l, ss, en⟩, _, _, _, _, _, _, rfl, rfl, ⟨by show (ss.length : Int) ≤ M; omega, hg, eg⟩, by rw [List.getElem?_set_self (lt_of_some eR), List.map_append]; rfl, F5.two.trans (Fr2.set F5.dw hR2)⟩
end
end MP

set_option Elab.async false
set_option linter.all false
set_option maxRecDepth 100000
set_option maxHeartbeats 4000000
namespace MP
open PySem
open Out (ok bad)
section
variable {T : Str → Option Df} {h h' : PH} {m w : Int} {k P V : Nat} {vars : List Int}
theorem GP.fr2 {R : Nat} (g : GP h P V w vars) (f : Fr2 R h h') (hP : P ≠ R) (hV : V ≠ R) : GP h' P V w vars := ⟨f.dw, f.at g.p g.p2 hP, f.at g.v g.v2 hV, g.p2, g.v2, g.w0, g.w1, g.ne, g.le⟩
theorem Lbl.fr2 {R L : Nat} {Ls : List Int} {c : Int} (x : Lbl h L Ls c) (f : Fr2 R h h') (hL : L ≠ R) : Lbl h' L Ls c := ⟨f.at x.at_ x.l1 hL, x.l1, x.len, x.nd, x.lo, x.hi⟩
def fnTail : Ss := (.cons (.asg (.nm 9) (.lst .nil)) (.cons (.frr (.nm 10) (.rng (.cons (.var 7) .nil)) fnBody)
    (.cons (.ret (.tup (.cons (.var 3) (.cons (.var 4) (.cons (.bi .tuple (.cons (.var 9) .nil)) .nil))))) .nil)))
theorem gen_function (G : Gen T) (hk : 8 ≤ k) (d : DW h) {B M : Int} (hB : 1 ≤ B) (hB2 : B ≤ 60) (hM : 0 ≤ M) (hM2 : M ≤ 60) :
    (evCall T k "_law_function" [.ref 1, .int B, .int M] h).Ok fun v h' => (∃ (f : Fn) (vars : List Int), v = f.pv ∧ f.Good vars B M) ∧ Fr h h' := by
  obtain ⟨k, rfl⟩ : ∃ j, k = j + 1 := ⟨k - 1, by omega⟩
  have hS : (64 : Nat) ≤ sizeLine := by decide
  have q3 : 3 ≤ sizeLine := by omega
  refine call_ok G.function_ rfl (by decide) ?_
  show (evSs (evCall T k) (fnHead (fnLabels fnTail)) (some (.ref 1) :: some (.int B) :: some (.int M) :: List.replicate 14 none) h).Rt _
  refine fn_head G (by omega) d fun w np vars P V h1 z w1 w2 n0 n1 vok g1 f1 => ?_
  refine fn_labels G (by omega) g1 hB hB2 fun c L Ls h2 a10 c1 c2 Lb g2 f2 => ?_
  have two := g2.dw.two
  have nR := Fr.new g2.dw (.lst [])
  have lP := lt_of_some g2.p
  have lV := lt_of_some g2.v
  have lL := lt_of_some Lb.at_
  have sc : small c = true := decide_eq_true ⟨by omega, by omega⟩
  have hll := Lb.len
  unfold fnTail
  simp only [List.replicate, List.cons_append, List.nil_append]
  simp only [bnd_bnd, bnd_sbnd, sbnd_seq, seq_seq, seqC_ap, ss_cons, ss_nil, s_asg, s_ret, s_ite, s_ex, s_for, s_whl, e_non, e_bl, e_int, e_str, e_var, e_bin, e_neg, e_cmp, e_not, e_tup, e_lst, e_dic0, e_sub, e_call, e_bi, e_mt, kindG_same, e_isi, e_inv, e_lrg, e_fld, e_mk, e_um, e_kcall, e_lgen, e_rpr, s_sfld, s_augF, e_lc, e_dc, wipeP, new, evEs, evT, evTs, evP, evI, evG, bnd_ok, sbnd_ok, seq_nx, seq_rt, to_nx, go_nx, go_ct, rt_rt, ok_ok, slot, item0, item1, item2, item3, sub_t, i_int, i_abs, i_lenT, c_eqI, c_neI, c_eqS, c_neS, c_lt, c_le, c_gt, c_ge, asB_bl, iteC_t, iteC_f, iteC_d, b_add, b_sub, b_mul, b_mod, List.length_nil, Nat.zero_le, List.getElem?_cons_succ, List.getElem?_cons_zero, List.set_cons_succ, List.set_cons_zero, sc, if_true]
  refine SO.To.rt (for_vals (fun i s' h' => ∃ (bs : List Bk) (x0 x1 x2 x3 x4 x5 x6 : Option PV), s' = [some (.ref 1), some (.int B), some (.int M), some (.int w), some (.int np), some z, some (.ref P), some (.int c), some (.ref L), some (.ref h2.length), x0, x1, x2, x3, x4, x5, x6] ∧
      bs.length = i ∧ bs.map Bk.l = Ls.take i ∧ (∀ b ∈ bs, b.good w vars Ls M) ∧ h'[h2.length]? = some (.lst (bs.map Bk.pv)) ∧ Fr2 h2.length (h2 ++ [.lst []]) h') ⟨[], _, _, _, _, _, _, _, rfl, rfl, rfl, by simp, at_new, (Fr.refl nR.dw).two⟩
    fun i x s' h3 hx ⟨bs, x0, x1, x2, x3, x4, x5, x6, es, e1, e2, e3, e4, F⟩ => ?_) fun s' h3 ⟨bs, x0, x1, x2, x3, x4, x5, x6, es, e1, e2, e3, e4, F⟩ => ?_
  · subst es
    obtain ⟨hi, rfl⟩ := rng_at hx
    have g3 := (g2.fr nR).fr2 F (by omega) (by omega)
    have L3 := (Lb.fr nR).fr2 F (by omega)
    obtain ⟨l, hl⟩ : ∃ l, Ls[i]? = some l := ⟨Ls[i]'(by omega), List.getElem?_eq_getElem (by omega)⟩
    simp only [evG, sbnd_ok, List.set_cons_succ, List.set_cons_zero, Int.zero_add]
    have := body_fn (B := B) (np := np) (z := z) (x1 := x1) (x2 := x2) (x3 := x3) (x4 := x4) (x5 := x5) (x6 := x6) G (show 7 ≤ k by omega) g3 L3 e4 (by omega) (by omega) hl (by omega) hM hM2
    cases eb : evSs (evCall T k) fnBody [some (.ref 1), some (.int B), some (.int M), some (.int w), some (.int np), some z, some (.ref P), some (.int c), some (.ref L), some (.ref h2.length), some (.int i), x1, x2, x3, x4, x5, x6] h3 with
    | nx s4 h4 =>
      rw [eb] at this
      obtain ⟨b, y1, y2, y3, y4, y5, y6, es, bl, bg, b3, F4⟩ := this
      refine ⟨bs ++ [b], _, y1, y2, y3, y4, y5, y6, es, by rw [List.length_append, e1]; rfl, ?_, fun y hy => ?_, b3, F.trans F4⟩
      · rw [List.take_add_one, hl, List.map_append, e2]
        simp [bl]
      · rcases List.mem_append.mp hy with q | q
        · exact e3 y q
        · have : y = b := by simpa using q
          exact this ▸ bg
    | ct s4 h4 =>
      rw [eb] at this
      obtain ⟨b, y1, y2, y3, y4, y5, y6, es, bl, bg, b3, F4⟩ := this
      refine ⟨bs ++ [b], _, y1, y2, y3, y4, y5, y6, es, by rw [List.length_append, e1]; rfl, ?_, fun y hy => ?_, b3, F.trans F4⟩
      · rw [List.take_add_one, hl, List.map_append, e2]
        simp [bl]
      · rcases List.mem_append.mp hy with q | q
        · exact e3 y q
        · have : y = b := by simpa using q
          exact this ▸ bg
    | bk _ _ => rw [eb] at this; exact this.elim
    | rt _ _ => rw [eb] at this; exact this.elim
    | exc _ _ => rw [eb] at this; exact this.elim
    | bad => rw [eb] at this; exact this.elim
  · subst es
    rw [rng_len] at e1 e2
    rw [List.take_of_length_le (by omega)] at e2
    simp only [bnd_bnd, bnd_sbnd, sbnd_seq, seq_seq, seqC_ap, ss_cons, ss_nil, s_asg, s_ret, s_ite, s_ex, s_for, s_whl, e_non, e_bl, e_int, e_str, e_var, e_bin, e_neg, e_cmp, e_not, e_tup, e_lst, e_dic0, e_sub, e_call, e_bi, e_mt, kindG_same, e_isi, e_inv, e_lrg, e_fld, e_mk, e_um, e_kcall, e_lgen, e_rpr, s_sfld, s_augF, e_lc, e_dc, wipeP, new, evEs, evT, evTs, evP, evI, evG, bnd_ok, sbnd_ok, seq_nx, seq_rt, to_nx, go_nx, go_ct, rt_rt, ok_ok, slot, item0, item1, item2, item3, sub_t, i_int, i_abs, i_lenT, c_eqI, c_neI, c_eqS, c_neS, c_lt, c_le, c_gt, c_ge, asB_bl, iteC_t, iteC_f, iteC_d, b_add, b_sub, b_mul, b_mod, List.getElem?_cons_succ, List.getElem?_cons_zero, tuple_at e4, List.length_cons, List.length_nil, q3, if_true]
    refine ⟨⟨⟨w, np, bs⟩, vars, rfl, w1, w2, n0, n1, ?_, ?_, ?_, ?_, ?_, ?_, vok.1, vok.2.1, vok.2.2⟩, ?_⟩
    · show (bs.map Bk.l).Nodup
      rw [e2]; exact Lb.nd
    · show ∀ l ∈ bs.map Bk.l, 3 ≤ l
      rw [e2]; exact Lb.lo
    · show ∀ l ∈ bs.map Bk.l, l ≤ 300
      rw [e2]; exact Lb.hi
    · show 1 ≤ bs.length
      omega
    · show (bs.length : Int) ≤ B
      omega
    · show ∀ b ∈ bs, b.good w vars (bs.map Bk.l) M
      rw [e2]; exact e3
    · have F1 := (f1.trans f2).trans nR
      have l1 := (f1.trans f2).len
      refine ⟨F.dw, Nat.le_trans F1.len F.len, fun i hi hn => ?_⟩
      rw [F.keep i (by rw [List.length_append]; omega) hn (by omega)]
      exact F1.keep i hi hn
end
end MP

set_option Elab.async false
set_option linter.all false
set_option maxRecDepth 100000
set_option maxHeartbeats 4000000
namespace MP
open PySem
open Out (ok bad)
/-! ### repr of small data -/
structure RP (h : PH) (n W : Nat) (x : PV) (d : PyData) : Prop where
  dt : datum h n x = some d
  sh : d.showable = true
  nd : d.hasDict = false
  dp : d.depth ≤ n
  lf : d.leavesShort 20 = true
  wt : d.weight ≤ W
structure RPs (h : PH) (n W : Nat) (xs : List PV) (ds : List PyData) : Prop where
  dt : dataL (datum h n) xs = some ds
  sh : PyData.showableAll ds = true
  nd : PyData.hasDictAll ds = false
  dp : PyData.depthAll ds ≤ n
  lf : PyData.leavesShortAll 20 ds = true
  wt : PyData.weightAll ds ≤ W
section
variable {h : PH} {n m W W' : Nat} {x : PV} {d : PyData} {xs : List PV} {ds : List PyData}
theorem RP.mono (r : RP h n W x d) (e : W ≤ W') : RP h n W' x d := ⟨r.dt, r.sh, r.nd, r.dp, r.lf, Nat.le_trans r.wt e⟩
theorem RPs.mono (r : RPs h n W xs ds) (e : W ≤ W') : RPs h n W' xs ds := ⟨r.dt, r.sh, r.nd, r.dp, r.lf, Nat.le_trans r.wt e⟩
theorem rp_int {i : Int} (hi : i.natAbs < 10 ^ 12) : RP h (n + 1) 64 (.int i) (.int i) := by
  have l40 : i.natAbs.log2 < 40 := by
    rcases Nat.eq_zero_or_pos i.natAbs with e | e
    · rw [e]; decide
    · exact (Nat.log2_lt (by omega)).mpr (by omega)
  refine ⟨rfl, ?_, ?_, Nat.zero_le _, ?_, ?_⟩
  · simp only [PyData.showable, decide_eq_true_eq]; omega
  · simp only [PyData.hasDict]
  · simp only [PyData.leavesShort, decide_eq_true_eq]
    have := PyData.shown_int_le hi
    omega
  · simp only [PyData.weight]
    split <;> omega
theorem rp_non : RP h (n + 1) 0 .non .none := ⟨rfl, by simp only [PyData.showable], by simp only [PyData.hasDict], Nat.zero_le _, by simp only [PyData.leavesShort], by simp only [PyData.weight]; exact Nat.le_refl _⟩
theorem rp_str {s : Str} (hs : (s.cps.toList.all fun c => decide (c < 16 ^ 8)) = true) : RP h (n + 1) s.cps.size (.str s) (.str s) := by
  refine ⟨rfl, by simp only [PyData.showable], by simp only [PyData.hasDict], Nat.zero_le _, ?_, by simp only [PyData.weight]; exact Nat.le_refl _⟩
  simpa only [PyData.leavesShort] using hs
theorem rps_nil : RPs h n 0 [] [] := ⟨rfl, by simp only [PyData.showableAll], by simp only [PyData.hasDictAll], by simp only [PyData.depthAll]; exact Nat.zero_le _, by simp only [PyData.leavesShortAll], by simp only [PyData.weightAll]; exact Nat.le_refl _⟩
theorem rps_cons (a : RP h n W x d) (r : RPs h n W' xs ds) : RPs h n (W + 1 + W') (x :: xs) (d :: ds) := by
  refine ⟨?_, ?_, ?_, ?_, ?_, ?_⟩
  · simp only [dataL, a.dt, r.dt]
  · simp only [PyData.showableAll, a.sh, r.sh, Bool.and_self]
  · simp only [PyData.hasDictAll, a.nd, r.nd, Bool.or_self]
  · simp only [PyData.depthAll]; have := a.dp; have := r.dp; omega
  · simp only [PyData.leavesShortAll, a.lf, r.lf, Bool.and_self]
  · simp only [PyData.weightAll]; have := a.wt; have := r.wt; omega
theorem rp_tup (r : RPs h n W xs ds) : RP h (n + 1) W (.tup xs) (.tuple ds) := by
  refine ⟨?_, ?_, ?_, ?_, ?_, ?_⟩
  · simp only [datum, r.dt, Option.map_some]
  · simp only [PyData.showable, r.sh]
  · simp only [PyData.hasDict, r.nd]
  · simp only [PyData.depth]; have := r.dp; omega
  · simp only [PyData.leavesShort, r.lf]
  · simp only [PyData.weight]; exact r.wt
theorem rp_lst {l : Nat} (e : h[l]? = some (.lst xs)) (r : RPs h n W xs ds) : RP h (n + 1) W (.ref l) (.list ds) := by
  refine ⟨?_, ?_, ?_, ?_, ?_, ?_⟩
  · simp only [datum, e, r.dt, Option.map_some]
  · simp only [PyData.showable, r.sh]
  · simp only [PyData.hasDict, r.nd]
  · simp only [PyData.depth]; have := r.dp; omega
  · simp only [PyData.leavesShort, r.lf]
  · simp only [PyData.weight]; exact r.wt
theorem rps_map {α : Type} {f : α → PV} {g : α → PyData} : ∀ (as : List α), (∀ a ∈ as, RP h n W (f a) (g a)) → RPs h n (as.length * (W + 1)) (as.map f) (as.map g)
  | [], _ => by rw [List.length_nil, Nat.zero_mul]; exact rps_nil
  | a :: r, q => by
    have := rps_cons (q a List.mem_cons_self) (rps_map r fun b hb => q b (List.mem_cons_of_mem _ hb))
    rw [List.length_cons, Nat.add_mul, Nat.one_mul, Nat.add_comm (r.length * (W + 1))]
    exact this
theorem RP.repr (r : RP h 60 W x (.tuple ds)) (hW : W ≤ 600000) : reprF x h = ok (.str (PyData.tuple ds).shown) h := by
  unfold reprF
  have dp := r.dp
  have wt := r.wt
  have le := PyData.shown_le 20 (by decide) (.tuple ds) r.lf
  have hS : 13200100 ≤ sizeLine := by decide
  rw [r.dt]
  simp only
  rw [if_pos ⟨r.sh, r.nd, by omega, by omega⟩]
end
/-! ### functions -/
def X.dat : X → PyData
  | .int n => .tuple [.str "int", .int n]
  | .var v => .tuple [.str "var", .int v]
  | .load e => .tuple [.str "load", e.dat]
  | .un o e => .tuple [.str o, e.dat]
  | .bin o a b => .tuple [.str o, a.dat, b.dat]
def Sm.dat : Sm → PyData
  | .set v e => .tuple [.str "set", .int v, e.dat]
  | .write e => .tuple [.str "write", e.dat]
  | .store a b => .tuple [.str "store", a.dat, b.dat]
def En.dat : En → PyData
  | .ret e => .tuple [.str "return", e.dat]
  | .go l => .tuple [.str "go", .int l]
  | .br e a b => .tuple [.str "if", e.dat, .int a, .int b]
def Bk.dat (b : Bk) : PyData := .tuple [.int b.l, .tuple (b.ss.map Sm.dat), b.en.dat]
def Fn.dl (f : Fn) : List PyData := [.int f.w, .int f.np, .tuple (f.bs.map Bk.dat)]
def Fn.dat (f : Fn) : PyData := .tuple f.dl
section
variable {h : PH} {n m W W' : Nat} {w : Int} {vars : List Int}
def Low (s : Str) : Prop := (s.cps.toList.all fun c => decide (c < 16 ^ 8)) = true ∧ s.cps.size ≤ 6
theorem low_pairs : ∀ o ∈ pairs, Low o := by
  have : (pairs.all fun s => (s.cps.toList.all fun c => decide (c < 16 ^ 8)) && decide (s.cps.size ≤ 6)) = true := by decide +kernel
  intro o ho
  have := List.all_eq_true.mp this o ho
  rw [Bool.and_eq_true, decide_eq_true_eq] at this
  exact this
theorem low_uns : ∀ o ∈ (["not", "neg", "int", "var", "load", "set", "write", "store", "return", "go", "if"] : List Str), Low o := by
  have : ((["not", "neg", "int", "var", "load", "set", "write", "store", "return", "go", "if"] : List Str).all fun s => (s.cps.toList.all fun c => decide (c < 16 ^ 8)) && decide (s.cps.size ≤ 6)) = true := by decide +kernel
  intro o ho
  have := List.all_eq_true.mp this o ho
  rw [Bool.and_eq_true, decide_eq_true_eq] at this
  exact this
theorem rp_low {s : Str} (q : Low s) : RP h (n + 1) 6 (.str s) (.str s) := (rp_str q.1).mono q.2
theorem x_rp (w2 : w ≤ 16) (vr : ∀ v ∈ vars, 0 ≤ v ∧ v < 100) : ∀ (e : X), e.good w vars → ∀ n, e.deep < n → RP h n (60 * 2 ^ e.deep - 20) e.pv e.dat := by
  intro e
  induction e with
  | int i =>
    intro q n hn
    obtain ⟨n, rfl⟩ : ∃ m, n = m + 2 := ⟨n - 2, by have : (X.int i).deep = 1 := rfl; omega⟩
    have q1 : 0 ≤ i := q.1
    have q2 : i < 2 ^ w.toNat := q.2
    have : (2 : Int) ^ w.toNat ≤ 2 ^ 16 := by
      have h16 : (2 : Nat) ^ w.toNat ≤ 2 ^ 16 := Nat.pow_le_pow_right (by decide) (by omega)
      exact_mod_cast h16
    have h16 : (2 : Int) ^ 16 = 65536 := by decide
    exact (rp_tup (rps_cons (rp_low (low_uns "int" (by decide))) (rps_cons (rp_int (by omega)) rps_nil))).mono (by show _ ≤ 60 * 2 ^ 1 - 20; decide)
  | var v =>
    intro q n hn
    obtain ⟨n, rfl⟩ : ∃ m, n = m + 2 := ⟨n - 2, by have : (X.var v).deep = 1 := rfl; omega⟩
    have := vr v q
    exact (rp_tup (rps_cons (rp_low (low_uns "var" (by decide))) (rps_cons (rp_int (by omega)) rps_nil))).mono (by show _ ≤ 60 * 2 ^ 1 - 20; decide)
  | load e ih =>
    intro q n hn
    have dd : (X.load e).deep = e.deep + 1 := rfl
    obtain ⟨n, rfl⟩ : ∃ m, n = m + 2 := ⟨n - 2, by omega⟩
    have p : 1 ≤ 2 ^ e.deep := Nat.one_le_two_pow
    rw [dd, Nat.pow_succ]
    exact (rp_tup (rps_cons (rp_low (low_uns "load" (by decide))) (rps_cons (ih q (n + 1) (by omega)) rps_nil))).mono (by omega)
  | un o e ih =>
    intro q n hn
    have dd : (X.un o e).deep = e.deep + 1 := rfl
    obtain ⟨n, rfl⟩ : ∃ m, n = m + 2 := ⟨n - 2, by omega⟩
    have p : 1 ≤ 2 ^ e.deep := Nat.one_le_two_pow
    have q1 : o ∈ (["not", "neg"] : List Str) := q.1
    rw [dd, Nat.pow_succ]
    exact (rp_tup (rps_cons (rp_low (low_uns o (by simp only [List.mem_cons, List.not_mem_nil, or_false] at q1 ⊢; rcases q1 with e | e <;> simp [e]))) (rps_cons (ih q.2 (n + 1) (by omega)) rps_nil))).mono (by omega)
  | bin o a b ia ib =>
    intro q n hn
    have dd : (X.bin o a b).deep = max a.deep b.deep + 1 := rfl
    obtain ⟨n, rfl⟩ : ∃ m, n = m + 2 := ⟨n - 2, by omega⟩
    have p : 1 ≤ 2 ^ (max a.deep b.deep) := Nat.one_le_two_pow
    have pa : 2 ^ a.deep ≤ 2 ^ (max a.deep b.deep) := Nat.pow_le_pow_right (by decide) (Nat.le_max_left _ _)
    have pb : 2 ^ b.deep ≤ 2 ^ (max a.deep b.deep) := Nat.pow_le_pow_right (by decide) (Nat.le_max_right _ _)
    rw [dd, Nat.pow_succ]
    exact (rp_tup (rps_cons (rp_low (low_pairs o q.1)) (rps_cons (ia q.2.1 (n + 1) (by omega)) (rps_cons (ib q.2.2 (n + 1) (by omega)) rps_nil)))).mono (by omega)
theorem x_rp3 (w2 : w ≤ 16) (vr : ∀ v ∈ vars, 0 ≤ v ∧ v < 100) {e : X} (q : e.good w vars ∧ e.deep ≤ 3) (hn : 4 ≤ n) : RP h n 460 e.pv e.dat := by
  have : 2 ^ e.deep ≤ 2 ^ 3 := Nat.pow_le_pow_right (by decide) q.2
  exact (x_rp w2 vr e q.1 n (by omega)).mono (by omega)
theorem sm_rp (w2 : w ≤ 16) (vr : ∀ v ∈ vars, 0 ≤ v ∧ v < 100) {s : Sm} (q : s.good w vars) : RP h (n + 5) 1000 s.pv s.dat := by
  cases s with
  | set v e =>
    have := vr v q.1
    exact (rp_tup (rps_cons (rp_low (low_uns "set" (by decide))) (rps_cons (rp_int (by omega)) (rps_cons (x_rp3 w2 vr q.2 (by omega)) rps_nil)))).mono (by decide)
  | write e => exact (rp_tup (rps_cons (rp_low (low_uns "write" (by decide))) (rps_cons (x_rp3 w2 vr q (by omega)) rps_nil))).mono (by decide)
  | store a b => exact (rp_tup (rps_cons (rp_low (low_uns "store" (by decide))) (rps_cons (x_rp3 w2 vr q.1 (by omega)) (rps_cons (x_rp3 w2 vr q.2 (by omega)) rps_nil)))).mono (by decide)
theorem en_rp (w2 : w ≤ 16) (vr : ∀ v ∈ vars, 0 ≤ v ∧ v < 100) {Ls : List Int} (lo : ∀ l ∈ Ls, 3 ≤ l) (hi : ∀ l ∈ Ls, l ≤ 300) {s : En} (q : s.good w vars Ls) : RP h (n + 5) 1000 s.pv s.dat := by
  cases s with
  | ret e => exact (rp_tup (rps_cons (rp_low (low_uns "return" (by decide))) (rps_cons (x_rp3 w2 vr q (by omega)) rps_nil))).mono (by decide)
  | go l =>
    have := lo l q
    have := hi l q
    exact (rp_tup (rps_cons (rp_low (low_uns "go" (by decide))) (rps_cons (rp_int (by omega)) rps_nil))).mono (by decide)
  | br e a b =>
    have := lo a q.2.1
    have := hi a q.2.1
    have := lo b q.2.2
    have := hi b q.2.2
    exact (rp_tup (rps_cons (rp_low (low_uns "if" (by decide))) (rps_cons (x_rp3 w2 vr q.1 (by omega)) (rps_cons (rp_int (by omega)) (rps_cons (rp_int (by omega)) rps_nil))))).mono (by decide)
theorem fn_rp {f : Fn} {B M : Int} (G : f.Good vars B M) (hB : B ≤ 10) (hM : M ≤ 10) : RP h (n + 10) 200000 f.pv f.dat := by
  have w1 := G.w1
  have w2 := G.w2
  have n0 := G.n0
  have n1 := G.n1
  refine (rp_tup (rps_cons (rp_int (by omega)) (rps_cons (rp_int (by omega)) (rps_cons (rp_tup (rps_map (W := 15000) f.bs fun b hb => ?_)) rps_nil)))).mono (W := 64 + 1 + (64 + 1 + (f.bs.length * (15000 + 1) + 1 + 0))) ?_
  · have g := G.bk b hb
    have lo := G.lo b.l (List.mem_map_of_mem hb)
    have hi := G.hi b.l (List.mem_map_of_mem hb)
    have hl : b.ss.length ≤ 10 := by have := g.1; omega
    refine (rp_tup (rps_cons (rp_int (by omega)) (rps_cons (rp_tup (rps_map (W := 1000) b.ss fun s hs => sm_rp G.w2 G.vr (g.2.1 s hs))) (rps_cons (en_rp G.w2 G.vr G.lo G.hi g.2.2) rps_nil)))).mono (W := 64 + 1 + (b.ss.length * (1000 + 1) + 1 + (1000 + 1 + 0))) ?_
    have : b.ss.length * (1000 + 1) ≤ 10 * 1001 := Nat.mul_le_mul_right _ hl
    omega
  · have hl : f.bs.length ≤ 10 := by have := G.most; omega
    have : f.bs.length * (15000 + 1) ≤ 10 * 15001 := Nat.mul_le_mul_right _ hl
    omega
theorem fn_repr {f : Fn} {B M : Int} (G : f.Good vars B M) (hB : B ≤ 10) (hM : M ≤ 10) (h : PH) : reprF f.pv h = ok (.str f.dat.shown) h :=
  (fn_rp (h := h) (n := 50) G hB hM).repr (by decide)
end
end MP

set_option Elab.async false
set_option linter.all false
set_option maxRecDepth 100000
set_option maxHeartbeats 4000000
namespace Ar
open PySem MP
/-! ### words of w bits -/
theorem bit_and {n : Nat} {x : Int} : Builtin.bitAnd x (2 ^ n - 1) = x % 2 ^ n := by
  have p2 : (0 : Int) < 2 ^ n := by
    have := Nat.two_pow_pos n
    have e : ((2 ^ n : Nat) : Int) = (2 : Int) ^ n := by rw [Int.natCast_pow]; rfl
    omega
  have ey : ((2 : Int) ^ n - 1).toNat = 2 ^ n - 1 := by
    have e : ((2 ^ n : Nat) : Int) = (2 : Int) ^ n := by rw [Int.natCast_pow]; rfl
    rw [← e]; have := Nat.two_pow_pos n; omega
  have eN : ((2 ^ n : Nat) : Int) = (2 : Int) ^ n := by rw [Int.natCast_pow]; rfl
  unfold Builtin.bitAnd
  rw [show decide ((0 : Int) ≤ 2 ^ n - 1) = true from decide_eq_true (by omega)]
  by_cases hx : 0 ≤ x
  · rw [decide_eq_true hx]
    show ((x.toNat &&& ((2 : Int) ^ n - 1).toNat : Nat) : Int) = _
    rw [ey, Nat.and_two_pow_sub_one_eq_mod, Int.natCast_emod, eN, Int.toNat_of_nonneg hx]
  · rw [decide_eq_false hx]
    show (2 : Int) ^ n - 1 - ((((2 : Int) ^ n - 1).toNat &&& (Builtin.bitNot x).toNat : Nat) : Int) = _
    have hm : 0 ≤ Builtin.bitNot x := by unfold Builtin.bitNot; omega
    rw [ey, Nat.and_comm, Nat.and_two_pow_sub_one_eq_mod, Int.natCast_emod, eN, Int.toNat_of_nonneg hm]
    have em := Int.emod_def (Builtin.bitNot x) (2 ^ n)
    have h0 := Int.emod_nonneg (Builtin.bitNot x) (Int.ne_of_gt p2)
    have h1 := Int.emod_lt_of_pos (Builtin.bitNot x) p2
    generalize hr : Builtin.bitNot x % 2 ^ n = r at em h0 h1 ⊢
    have ex : x = (2 ^ n - 1 - r) + 2 ^ n * (-(Builtin.bitNot x / 2 ^ n) - 1) := by
      have e2 : Builtin.bitNot x = 2 ^ n * (Builtin.bitNot x / 2 ^ n) + r := by omega
      have e3 : x = -(Builtin.bitNot x) - 1 := by unfold Builtin.bitNot; omega
      rw [Int.mul_sub, Int.mul_neg]
      omega
    conv => rhs; rw [ex]
    rw [Int.add_mul_emod_self_left, Int.emod_eq_of_lt (by omega) (by omega)]
theorem bit_not_not {x : Int} : Builtin.bitNot (Builtin.bitNot x) = x := by unfold Builtin.bitNot; omega
theorem and_nat {x y : Int} (hx : 0 ≤ x) (hy : 0 ≤ y) : Builtin.bitAnd x y = ((x.toNat &&& y.toNat : Nat) : Int) := by
  unfold Builtin.bitAnd
  rw [decide_eq_true hx, decide_eq_true hy]
theorem or_nat {x y : Int} (hx : 0 ≤ x) (hy : 0 ≤ y) : Builtin.bitOr x y = ((x.toNat ||| y.toNat : Nat) : Int) := by
  unfold Builtin.bitOr Builtin.bitAnd
  rw [decide_eq_false (show ¬(0 ≤ Builtin.bitNot x) by unfold Builtin.bitNot; omega), decide_eq_false (show ¬(0 ≤ Builtin.bitNot y) by unfold Builtin.bitNot; omega)]
  show Builtin.bitNot (Builtin.bitNot _) = _
  rw [bit_not_not, bit_not_not, bit_not_not]
/-- the bit at a place -/
theorem bitv {n i : Nat} : n / 2 ^ i % 2 = if n.testBit i = true then 1 else 0 := by
  rw [Nat.testBit_eq_decide_div_mod_eq]
  have : n / 2 ^ i % 2 < 2 := Nat.mod_lt _ (by decide)
  by_cases h : n / 2 ^ i % 2 = 1
  · simp [h]
  · simp [h]; omega
theorem or_sum (x y : Nat) : ∀ k, (x ||| y) % 2 ^ k = (x ^^^ y) % 2 ^ k + (x &&& y) % 2 ^ k
  | 0 => by simp [Nat.mod_one]
  | k + 1 => by
    rw [Nat.mod_pow_succ, Nat.mod_pow_succ, Nat.mod_pow_succ, or_sum x y k, bitv, bitv, bitv, Nat.testBit_or, Nat.testBit_xor, Nat.testBit_and]
    cases x.testBit k <;> cases y.testBit k <;> simp <;> omega
theorem xor_nat {x y : Int} {n : Nat} (hx : 0 ≤ x) (hy : 0 ≤ y) (lx : x < 2 ^ n) (ly : y < 2 ^ n) : Builtin.bitXor x y = ((x.toNat ^^^ y.toNat : Nat) : Int) := by
  unfold Builtin.bitXor
  rw [or_nat hx hy, and_nat hx hy]
  have eN : ((2 ^ n : Nat) : Int) = (2 : Int) ^ n := by rw [Int.natCast_pow]; rfl
  have h1 : x.toNat < 2 ^ n := by omega
  have h2 : y.toNat < 2 ^ n := by omega
  have e := or_sum x.toNat y.toNat n
  rw [Nat.mod_eq_of_lt (Nat.or_lt_two_pow h1 h2), Nat.mod_eq_of_lt (Nat.xor_lt_two_pow h1 h2), Nat.mod_eq_of_lt (Nat.and_lt_two_pow _ h2)] at e
  omega
/-- what an operator gives -/
def comp (o : Str) (w x y : Int) : Int :=
  if o = "add" then (x + y) % 2 ^ w.toNat else if o = "sub" then (x - y) % 2 ^ w.toNat else if o = "mul" then (x * y) % 2 ^ w.toNat
  else if o = "and" then ((x.toNat &&& y.toNat : Nat) : Int) else if o = "or" then ((x.toNat ||| y.toNat : Nat) : Int) else if o = "xor" then ((x.toNat ^^^ y.toNat : Nat) : Int)
  else if o = "shl" then (if y ≥ w then 0 else (x * 2 ^ y.toNat) % 2 ^ w.toNat) else if o = "shr" then (if y ≥ w then 0 else x / 2 ^ y.toNat)
  else if o = "less" then (if x < y then 1 else 0) else if o = "equal" then (if x = y then 1 else 0)
  else if o = "not" then 2 ^ w.toNat - 1 - x else (-x) % 2 ^ w.toNat
/-- a word -/
def Wd (w x : Int) : Prop := 0 ≤ x ∧ x < 2 ^ w.toNat
theorem pow_pos {n : Nat} : (0 : Int) < 2 ^ n := by
  have := Nat.two_pow_pos n
  have e : ((2 ^ n : Nat) : Int) = (2 : Int) ^ n := by rw [Int.natCast_pow]; rfl
  omega
theorem one_wd {w : Int} (h : 1 ≤ w) : (2 : Int) ≤ 2 ^ w.toNat := by
  obtain ⟨n, e⟩ : ∃ n, w.toNat = n + 1 := ⟨w.toNat - 1, by omega⟩
  rw [e, Int.pow_succ]
  have := pow_pos (n := n)
  omega
theorem mod_wd {w x : Int} : Wd w (x % 2 ^ w.toNat) := ⟨Int.emod_nonneg _ (Int.ne_of_gt pow_pos), Int.emod_lt_of_pos _ pow_pos⟩
theorem comp_wd {o : Str} {w x y : Int} (h1 : 1 ≤ w) (hx : Wd w x) (hy : Wd w y) : Wd w (comp o w x y) := by
  have h2 := one_wd h1
  have eN : ((2 ^ w.toNat : Nat) : Int) = (2 : Int) ^ w.toNat := by rw [Int.natCast_pow]; rfl
  obtain ⟨a1, a2⟩ := hx
  obtain ⟨b1, b2⟩ := hy
  have n1 : x.toNat < 2 ^ w.toNat := by omega
  have n2 : y.toNat < 2 ^ w.toNat := by omega
  unfold comp
  split
  · exact mod_wd
  split
  · exact mod_wd
  split
  · exact mod_wd
  split
  · have := Nat.and_lt_two_pow x.toNat n2; exact ⟨by omega, by omega⟩
  split
  · have := Nat.or_lt_two_pow n1 n2; exact ⟨by omega, by omega⟩
  split
  · have := Nat.xor_lt_two_pow n1 n2; exact ⟨by omega, by omega⟩
  split
  · split
    · exact ⟨by omega, by omega⟩
    · exact mod_wd
  split
  · split
    · exact ⟨by omega, by omega⟩
    · exact ⟨Int.ediv_nonneg a1 (Int.le_of_lt pow_pos), Int.lt_of_le_of_lt (Int.ediv_le_self _ a1) a2⟩
  split
  · split <;> exact ⟨by omega, by omega⟩
  split
  · split <;> exact ⟨by omega, by omega⟩
  split
  · exact ⟨by omega, by omega⟩
  · exact mod_wd
/-! the law's own ways -/
theorem add_way {w x y : Int} (hx : Wd w x) (hy : Wd w y) : (if x + y < 2 ^ w.toNat then x + y else x + y - 2 ^ w.toNat) = (x + y) % 2 ^ w.toNat := by
  obtain ⟨a1, a2⟩ := hx
  obtain ⟨b1, b2⟩ := hy
  split
  · rw [Int.emod_eq_of_lt (by omega) (by omega)]
  · have := Int.add_mul_emod_self_left (x + y - 2 ^ w.toNat) (2 ^ w.toNat) 1
    rw [Int.mul_one] at this
    rw [show x + y - 2 ^ w.toNat + 2 ^ w.toNat = x + y by omega] at this
    rw [this, Int.emod_eq_of_lt (by omega) (by omega)]
theorem sub_way {w x y : Int} (hx : Wd w x) (hy : Wd w y) : (if y ≤ x then x - y else x - y + 2 ^ w.toNat) = (x - y) % 2 ^ w.toNat := by
  obtain ⟨a1, a2⟩ := hx
  obtain ⟨b1, b2⟩ := hy
  split
  · rw [Int.emod_eq_of_lt (by omega) (by omega)]
  · have := Int.add_mul_emod_self_left (x - y) (2 ^ w.toNat) 1
    rw [Int.mul_one] at this
    rw [← this, Int.emod_eq_of_lt (by omega) (by omega)]
theorem mul_way {z : Int} {n : Nat} : z - z / 2 ^ n * 2 ^ n = z % 2 ^ n := by rw [Int.emod_def, Int.mul_comm]
theorem neg_way {w x : Int} (hx : Wd w x) : (if x = 0 then 0 else 2 ^ w.toNat - x) = (-x) % 2 ^ w.toNat := by
  obtain ⟨a1, a2⟩ := hx
  split
  · rename_i h; subst h; simp
  · have := Int.add_mul_emod_self_left (-x) (2 ^ w.toNat) 1
    rw [Int.mul_one] at this
    rw [← this, Int.emod_eq_of_lt (by omega) (by omega)]
    omega
/-- the sum of the bits below -/
theorem bits_step {n i : Nat} : ((n % 2 ^ (i + 1) : Nat) : Int) = ((n % 2 ^ i : Nat) : Int) + (if n.testBit i = true then 2 ^ i else 0) := by
  rw [Nat.mod_pow_succ, bitv]
  split
  · rw [Nat.mul_one]
    have : ((2 ^ i : Nat) : Int) = (2 : Int) ^ i := by rw [Int.natCast_pow]; rfl
    omega
  · rw [Nat.mul_zero]; omega
theorem bit_int {x : Int} {i : Nat} (hx : 0 ≤ x) : x / 2 ^ i % 2 = if x.toNat.testBit i = true then 1 else 0 := by
  have e : x = ((x.toNat : Nat) : Int) := (Int.toNat_of_nonneg hx).symm
  have e2 : ((2 ^ i : Nat) : Int) = (2 : Int) ^ i := by rw [Int.natCast_pow]; rfl
  have := bitv (n := x.toNat) (i := i)
  have k : x / 2 ^ i % 2 = ((x.toNat / 2 ^ i % 2 : Nat) : Int) := by
    conv => lhs; rw [e]
    rw [← e2]
    omega
  rw [k, this]
  split <;> rfl
end Ar

set_option Elab.async false
set_option linter.all false
set_option maxRecDepth 100000
set_option maxHeartbeats 4000000
namespace Ar
open PySem MP
open Out (ok bad)
theorem comp_add {w x y : Int} : comp "add" w x y = ((x + y) % 2 ^ w.toNat) := by
  unfold comp
  simp only [ne_add_sub, ne_add_mul, ne_add_and, ne_add_or, ne_add_xor, ne_add_shl, ne_add_shr, ne_add_less, ne_add_equal, ne_add_not, ne_add_neg, ne_add_int, ne_add_var, ne_add_load, ne_add_set, ne_add_write, ne_add_store, ne_add_go, ne_add_if, ne_add_return, ne_add_none, if_true, if_false]
theorem comp_sub {w x y : Int} : comp "sub" w x y = ((x - y) % 2 ^ w.toNat) := by
  unfold comp
  simp only [ne_sub_add, ne_sub_mul, ne_sub_and, ne_sub_or, ne_sub_xor, ne_sub_shl, ne_sub_shr, ne_sub_less, ne_sub_equal, ne_sub_not, ne_sub_neg, ne_sub_int, ne_sub_var, ne_sub_load, ne_sub_set, ne_sub_write, ne_sub_store, ne_sub_go, ne_sub_if, ne_sub_return, ne_sub_none, if_true, if_false]
theorem comp_mul {w x y : Int} : comp "mul" w x y = ((x * y) % 2 ^ w.toNat) := by
  unfold comp
  simp only [ne_mul_add, ne_mul_sub, ne_mul_and, ne_mul_or, ne_mul_xor, ne_mul_shl, ne_mul_shr, ne_mul_less, ne_mul_equal, ne_mul_not, ne_mul_neg, ne_mul_int, ne_mul_var, ne_mul_load, ne_mul_set, ne_mul_write, ne_mul_store, ne_mul_go, ne_mul_if, ne_mul_return, ne_mul_none, if_true, if_false]
theorem comp_and {w x y : Int} : comp "and" w x y = (((x.toNat &&& y.toNat : Nat) : Int)) := by
  unfold comp
  simp only [ne_and_add, ne_and_sub, ne_and_mul, ne_and_or, ne_and_xor, ne_and_shl, ne_and_shr, ne_and_less, ne_and_equal, ne_and_not, ne_and_neg, ne_and_int, ne_and_var, ne_and_load, ne_and_set, ne_and_write, ne_and_store, ne_and_go, ne_and_if, ne_and_return, ne_and_none, if_true, if_false]
theorem comp_or {w x y : Int} : comp "or" w x y = (((x.toNat ||| y.toNat : Nat) : Int)) := by
  unfold comp
  simp only [ne_or_add, ne_or_sub, ne_or_mul, ne_or_and, ne_or_xor, ne_or_shl, ne_or_shr, ne_or_less, ne_or_equal, ne_or_not, ne_or_neg, ne_or_int, ne_or_var, ne_or_load, ne_or_set, ne_or_write, ne_or_store, ne_or_go, ne_or_if, ne_or_return, ne_or_none, if_true, if_false]
theorem comp_xor {w x y : Int} : comp "xor" w x y = (((x.toNat ^^^ y.toNat : Nat) : Int)) := by
  unfold comp
  simp only [ne_xor_add, ne_xor_sub, ne_xor_mul, ne_xor_and, ne_xor_or, ne_xor_shl, ne_xor_shr, ne_xor_less, ne_xor_equal, ne_xor_not, ne_xor_neg, ne_xor_int, ne_xor_var, ne_xor_load, ne_xor_set, ne_xor_write, ne_xor_store, ne_xor_go, ne_xor_if, ne_xor_return, ne_xor_none, if_true, if_false]
theorem comp_shl {w x y : Int} : comp "shl" w x y = (if y ≥ w then 0 else (x * 2 ^ y.toNat) % 2 ^ w.toNat) := by
  unfold comp
  simp only [ne_shl_add, ne_shl_sub, ne_shl_mul, ne_shl_and, ne_shl_or, ne_shl_xor, ne_shl_shr, ne_shl_less, ne_shl_equal, ne_shl_not, ne_shl_neg, ne_shl_int, ne_shl_var, ne_shl_load, ne_shl_set, ne_shl_write, ne_shl_store, ne_shl_go, ne_shl_if, ne_shl_return, ne_shl_none, if_true, if_false]
theorem comp_shr {w x y : Int} : comp "shr" w x y = (if y ≥ w then 0 else x / 2 ^ y.toNat) := by
  unfold comp
  simp only [ne_shr_add, ne_shr_sub, ne_shr_mul, ne_shr_and, ne_shr_or, ne_shr_xor, ne_shr_shl, ne_shr_less, ne_shr_equal, ne_shr_not, ne_shr_neg, ne_shr_int, ne_shr_var, ne_shr_load, ne_shr_set, ne_shr_write, ne_shr_store, ne_shr_go, ne_shr_if, ne_shr_return, ne_shr_none, if_true, if_false]
theorem comp_less {w x y : Int} : comp "less" w x y = (if x < y then 1 else 0) := by
  unfold comp
  simp only [ne_less_add, ne_less_sub, ne_less_mul, ne_less_and, ne_less_or, ne_less_xor, ne_less_shl, ne_less_shr, ne_less_equal, ne_less_not, ne_less_neg, ne_less_int, ne_less_var, ne_less_load, ne_less_set, ne_less_write, ne_less_store, ne_less_go, ne_less_if, ne_less_return, ne_less_none, if_true, if_false]
theorem comp_equal {w x y : Int} : comp "equal" w x y = (if x = y then 1 else 0) := by
  unfold comp
  simp only [ne_equal_add, ne_equal_sub, ne_equal_mul, ne_equal_and, ne_equal_or, ne_equal_xor, ne_equal_shl, ne_equal_shr, ne_equal_less, ne_equal_not, ne_equal_neg, ne_equal_int, ne_equal_var, ne_equal_load, ne_equal_set, ne_equal_write, ne_equal_store, ne_equal_go, ne_equal_if, ne_equal_return, ne_equal_none, if_true, if_false]
theorem comp_not {w x y : Int} : comp "not" w x y = (2 ^ w.toNat - 1 - x) := by
  unfold comp
  simp only [ne_not_add, ne_not_sub, ne_not_mul, ne_not_and, ne_not_or, ne_not_xor, ne_not_shl, ne_not_shr, ne_not_less, ne_not_equal, ne_not_neg, ne_not_int, ne_not_var, ne_not_load, ne_not_set, ne_not_write, ne_not_store, ne_not_go, ne_not_if, ne_not_return, ne_not_none, if_true, if_false]
theorem comp_neg {w x y : Int} : comp "neg" w x y = ((-x) % 2 ^ w.toNat) := by
  unfold comp
  simp only [ne_neg_add, ne_neg_sub, ne_neg_mul, ne_neg_and, ne_neg_or, ne_neg_xor, ne_neg_shl, ne_neg_shr, ne_neg_less, ne_neg_equal, ne_neg_not, ne_neg_int, ne_neg_var, ne_neg_load, ne_neg_set, ne_neg_write, ne_neg_store, ne_neg_go, ne_neg_if, ne_neg_return, ne_neg_none, if_true, if_false]
theorem cIn {x y : PV} {b : Bool} {h : PH} (e : inB x y h = ok b h) : cmpF .In x y h = ok (.bl b) h := by simp only [cmpF, e, bnd_ok]
theorem cNotIn {x y : PV} {b : Bool} {h : PH} (e : inB x y h = ok b h) : cmpF .NotIn x y h = ok (.bl (!b)) h := by simp only [cmpF, e, bnd_ok]
theorem b_and {i j : Int} {h : PH} : binF .BitAnd (.int i) (.int j) h = ok (.int (Builtin.bitAnd i j)) h := rfl
theorem b_or {i j : Int} {h : PH} : binF .BitOr (.int i) (.int j) h = ok (.int (Builtin.bitOr i j)) h := rfl
theorem b_xor {i j : Int} {h : PH} : binF .BitXor (.int i) (.int j) h = ok (.int (Builtin.bitXor i j)) h := rfl
theorem b_shr {i j : Int} {h : PH} (q : 0 ≤ j) : binF .RShift (.int i) (.int j) h = ok (.int (i / 2 ^ j.toNat)) h := if_pos q
def opsL : List Str := ["add", "sub", "mul", "and", "or", "xor", "shl", "shr", "less", "equal", "not", "neg"]
section
variable {k : Nat} {h : PH} {w x y : Int} {o : Str}
theorem abs_lt {w x : Int} (h2 : w ≤ 16) (hx : Wd w x) : x.natAbs < 2 ^ 64 := by
  obtain ⟨a1, a2⟩ := hx
  have : (2 : Int) ^ w.toNat ≤ 2 ^ 16 := by
    have := Nat.pow_le_pow_right (show 0 < 2 by decide) (show w.toNat ≤ 16 by omega)
    have e1 : ((2 ^ w.toNat : Nat) : Int) = (2 : Int) ^ w.toNat := by rw [Int.natCast_pow]; rfl
    have e2 : ((2 ^ 16 : Nat) : Int) = (2 : Int) ^ 16 := by rw [Int.natCast_pow]; rfl
    omega
  omega
theorem pow16 {w : Int} (h2 : w ≤ 16) : (2 : Int) ^ w.toNat ≤ 65536 := by
  have := Nat.pow_le_pow_right (show 0 < 2 by decide) (show w.toNat ≤ 16 by omega)
  have e1 : ((2 ^ w.toNat : Nat) : Int) = (2 : Int) ^ w.toNat := by rw [Int.natCast_pow]; rfl
  omega
theorem top_ok (h1 : 1 ≤ w) (h2 : w ≤ 16) (hk : 1 ≤ k) : (evCall Lw.T k "top" [.int w] h).Ok fun v h' => v = .int (2 ^ w.toNat - 1) ∧ h' = h := by
  obtain ⟨k, rfl⟩ : ∃ j, k = j + 1 := ⟨k - 1, by omega⟩
  refine call_ok Lw.T_top rfl (by decide) ?_
  show (evSs (evCall Lw.T k) Lw.b_top [some (.int w)] h).Rt _
  unfold Lw.b_top
  simp only [bnd_bnd, bnd_sbnd, sbnd_seq, seq_seq, seqC_ap, ss_cons, ss_nil, s_asg, s_ret, s_ite, s_ex, s_for, s_whl, e_non, e_bl, e_int, e_str, e_var, e_bin, e_neg, e_cmp, e_not, e_tup, e_lst, e_dic0, e_sub, e_call, e_bi, e_mt, kindG_same, e_isi, e_inv, e_lrg, e_fld, e_mk, e_um, e_kcall, e_lgen, e_rpr, s_sfld, s_augF, e_lc, e_dc, wipeP, new, evEs, evT, evTs, evP, evI, evG, bnd_ok, sbnd_ok, seq_nx, seq_rt, to_nx, go_nx, go_ct, rt_rt, ok_ok, slot, item0, item1, item2, item3, sub_t, i_int, i_abs, i_lenT, c_eqI, c_neI, c_eqS, c_neS, c_lt, c_le, c_gt, c_ge, asB_bl, iteC_t, iteC_f, iteC_d, b_add, b_sub, b_mul, b_mod, List.getElem?_cons_succ, List.getElem?_cons_zero, b_shl (show 0 ≤ w by omega) (by omega) (show (1 : Int).natAbs < 2 ^ 64 by decide), Int.one_mul]
  exact ⟨trivial, trivial⟩
theorem shifted_shl (h1 : 1 ≤ w) (h2 : w ≤ 16) (hx : Wd w x) (hy : Wd w y) (hk : 2 ≤ k) : (evCall Lw.T k "shifted" [.str "shl", .int w, .int x, .int y] h).Ok fun v h' => v = .int (comp "shl" w x y) ∧ h' = h := by
  obtain ⟨k, rfl⟩ : ∃ j, k = j + 1 := ⟨k - 1, by omega⟩
  have hy0 := hy.1
  refine call_ok Lw.T_shifted rfl (by decide) ?_
  show (evSs (evCall Lw.T k) Lw.b_shifted [some (.str "shl"), some (.int w), some (.int x), some (.int y)] h).Rt _
  unfold Lw.b_shifted
  rw [comp_shl]
  simp only [bnd_bnd, bnd_sbnd, sbnd_seq, seq_seq, seqC_ap, ss_cons, ss_nil, s_asg, s_ret, s_ite, s_ex, s_for, s_whl, e_non, e_bl, e_int, e_str, e_var, e_bin, e_neg, e_cmp, e_not, e_tup, e_lst, e_dic0, e_sub, e_call, e_bi, e_mt, kindG_same, e_isi, e_inv, e_lrg, e_fld, e_mk, e_um, e_kcall, e_lgen, e_rpr, s_sfld, s_augF, e_lc, e_dc, wipeP, new, evEs, evT, evTs, evP, evI, evG, bnd_ok, sbnd_ok, seq_nx, seq_rt, to_nx, go_nx, go_ct, rt_rt, ok_ok, slot, item0, item1, item2, item3, sub_t, i_int, i_abs, i_lenT, c_eqI, c_neI, c_eqS, c_neS, c_lt, c_le, c_gt, c_ge, asB_bl, iteC_t, iteC_f, iteC_d, b_add, b_sub, b_mul, b_mod, List.getElem?_cons_succ, List.getElem?_cons_zero, List.set_cons_succ, List.set_cons_zero, decide_true, decide_false, if_true, if_false, Bool.false_eq_true, e_ite]
  by_cases c : w ≤ y
  · rw [if_pos c, if_pos c]
    simp only [bnd_bnd, bnd_sbnd, sbnd_seq, seq_seq, seqC_ap, ss_cons, ss_nil, s_asg, s_ret, s_ite, s_ex, s_for, s_whl, e_non, e_bl, e_int, e_str, e_var, e_bin, e_neg, e_cmp, e_not, e_tup, e_lst, e_dic0, e_sub, e_call, e_bi, e_mt, kindG_same, e_isi, e_inv, e_lrg, e_fld, e_mk, e_um, e_kcall, e_lgen, e_rpr, s_sfld, s_augF, e_lc, e_dc, wipeP, new, evEs, evT, evTs, evP, evI, evG, bnd_ok, sbnd_ok, seq_nx, seq_rt, to_nx, go_nx, go_ct, rt_rt, ok_ok, slot, item0, item1, item2, item3, sub_t, i_int, i_abs, i_lenT, c_eqI, c_neI, c_eqS, c_neS, c_lt, c_le, c_gt, c_ge, asB_bl, iteC_t, iteC_f, iteC_d, b_add, b_sub, b_mul, b_mod]
    exact ⟨trivial, trivial⟩
  · rw [if_neg c, if_neg c]
    simp only [bnd_bnd, bnd_sbnd, sbnd_seq, seq_seq, seqC_ap, ss_cons, ss_nil, s_asg, s_ret, s_ite, s_ex, s_for, s_whl, e_non, e_bl, e_int, e_str, e_var, e_bin, e_neg, e_cmp, e_not, e_tup, e_lst, e_dic0, e_sub, e_call, e_bi, e_mt, kindG_same, e_isi, e_inv, e_lrg, e_fld, e_mk, e_um, e_kcall, e_lgen, e_rpr, s_sfld, s_augF, e_lc, e_dc, wipeP, new, evEs, evT, evTs, evP, evI, evG, bnd_ok, sbnd_ok, seq_nx, seq_rt, to_nx, go_nx, go_ct, rt_rt, ok_ok, slot, item0, item1, item2, item3, sub_t, i_int, i_abs, i_lenT, c_eqI, c_neI, c_eqS, c_neS, c_lt, c_le, c_gt, c_ge, asB_bl, iteC_t, iteC_f, iteC_d, b_add, b_sub, b_mul, b_mod, List.getElem?_cons_succ, List.getElem?_cons_zero, List.set_cons_succ, List.set_cons_zero, decide_true, decide_false, if_true, if_false, Bool.false_eq_true, ne_shl_add, ne_shl_sub, ne_shl_mul, ne_shl_and, ne_shl_or, ne_shl_xor, ne_shl_shr, ne_shl_less, ne_shl_equal, ne_shl_not, ne_shl_neg, ne_shl_int, ne_shl_var, ne_shl_load, ne_shl_set, ne_shl_write, ne_shl_store, ne_shl_go, ne_shl_if, ne_shl_return, ne_shl_none, e_ite, b_shl hy0 (show y ≤ 1000000 by omega) (abs_lt h2 hx), b_shr hy0]
    refine Out.Ok.rt (top_ok h1 h2 (by omega)) fun v h3 ⟨ev, eh⟩ => ?_
    subst ev eh
    simp only [bnd_bnd, bnd_sbnd, sbnd_seq, seq_seq, seqC_ap, ss_cons, ss_nil, s_asg, s_ret, s_ite, s_ex, s_for, s_whl, e_non, e_bl, e_int, e_str, e_var, e_bin, e_neg, e_cmp, e_not, e_tup, e_lst, e_dic0, e_sub, e_call, e_bi, e_mt, kindG_same, e_isi, e_inv, e_lrg, e_fld, e_mk, e_um, e_kcall, e_lgen, e_rpr, s_sfld, s_augF, e_lc, e_dc, wipeP, new, evEs, evT, evTs, evP, evI, evG, bnd_ok, sbnd_ok, seq_nx, seq_rt, to_nx, go_nx, go_ct, rt_rt, ok_ok, slot, item0, item1, item2, item3, sub_t, i_int, i_abs, i_lenT, c_eqI, c_neI, c_eqS, c_neS, c_lt, c_le, c_gt, c_ge, asB_bl, iteC_t, iteC_f, iteC_d, b_add, b_sub, b_mul, b_mod, b_and, bit_and]
    exact ⟨trivial, trivial⟩
theorem shifted_shr (h1 : 1 ≤ w) (h2 : w ≤ 16) (hx : Wd w x) (hy : Wd w y) (hk : 2 ≤ k) : (evCall Lw.T k "shifted" [.str "shr", .int w, .int x, .int y] h).Ok fun v h' => v = .int (comp "shr" w x y) ∧ h' = h := by
  obtain ⟨k, rfl⟩ : ∃ j, k = j + 1 := ⟨k - 1, by omega⟩
  have hy0 := hy.1
  refine call_ok Lw.T_shifted rfl (by decide) ?_
  show (evSs (evCall Lw.T k) Lw.b_shifted [some (.str "shr"), some (.int w), some (.int x), some (.int y)] h).Rt _
  unfold Lw.b_shifted
  rw [comp_shr]
  simp only [bnd_bnd, bnd_sbnd, sbnd_seq, seq_seq, seqC_ap, ss_cons, ss_nil, s_asg, s_ret, s_ite, s_ex, s_for, s_whl, e_non, e_bl, e_int, e_str, e_var, e_bin, e_neg, e_cmp, e_not, e_tup, e_lst, e_dic0, e_sub, e_call, e_bi, e_mt, kindG_same, e_isi, e_inv, e_lrg, e_fld, e_mk, e_um, e_kcall, e_lgen, e_rpr, s_sfld, s_augF, e_lc, e_dc, wipeP, new, evEs, evT, evTs, evP, evI, evG, bnd_ok, sbnd_ok, seq_nx, seq_rt, to_nx, go_nx, go_ct, rt_rt, ok_ok, slot, item0, item1, item2, item3, sub_t, i_int, i_abs, i_lenT, c_eqI, c_neI, c_eqS, c_neS, c_lt, c_le, c_gt, c_ge, asB_bl, iteC_t, iteC_f, iteC_d, b_add, b_sub, b_mul, b_mod, List.getElem?_cons_succ, List.getElem?_cons_zero, List.set_cons_succ, List.set_cons_zero, decide_true, decide_false, if_true, if_false, Bool.false_eq_true, e_ite]
  by_cases c : w ≤ y
  · rw [if_pos c, if_pos c]
    simp only [bnd_bnd, bnd_sbnd, sbnd_seq, seq_seq, seqC_ap, ss_cons, ss_nil, s_asg, s_ret, s_ite, s_ex, s_for, s_whl, e_non, e_bl, e_int, e_str, e_var, e_bin, e_neg, e_cmp, e_not, e_tup, e_lst, e_dic0, e_sub, e_call, e_bi, e_mt, kindG_same, e_isi, e_inv, e_lrg, e_fld, e_mk, e_um, e_kcall, e_lgen, e_rpr, s_sfld, s_augF, e_lc, e_dc, wipeP, new, evEs, evT, evTs, evP, evI, evG, bnd_ok, sbnd_ok, seq_nx, seq_rt, to_nx, go_nx, go_ct, rt_rt, ok_ok, slot, item0, item1, item2, item3, sub_t, i_int, i_abs, i_lenT, c_eqI, c_neI, c_eqS, c_neS, c_lt, c_le, c_gt, c_ge, asB_bl, iteC_t, iteC_f, iteC_d, b_add, b_sub, b_mul, b_mod]
    exact ⟨trivial, trivial⟩
  · rw [if_neg c, if_neg c]
    simp only [bnd_bnd, bnd_sbnd, sbnd_seq, seq_seq, seqC_ap, ss_cons, ss_nil, s_asg, s_ret, s_ite, s_ex, s_for, s_whl, e_non, e_bl, e_int, e_str, e_var, e_bin, e_neg, e_cmp, e_not, e_tup, e_lst, e_dic0, e_sub, e_call, e_bi, e_mt, kindG_same, e_isi, e_inv, e_lrg, e_fld, e_mk, e_um, e_kcall, e_lgen, e_rpr, s_sfld, s_augF, e_lc, e_dc, wipeP, new, evEs, evT, evTs, evP, evI, evG, bnd_ok, sbnd_ok, seq_nx, seq_rt, to_nx, go_nx, go_ct, rt_rt, ok_ok, slot, item0, item1, item2, item3, sub_t, i_int, i_abs, i_lenT, c_eqI, c_neI, c_eqS, c_neS, c_lt, c_le, c_gt, c_ge, asB_bl, iteC_t, iteC_f, iteC_d, b_add, b_sub, b_mul, b_mod, List.getElem?_cons_succ, List.getElem?_cons_zero, List.set_cons_succ, List.set_cons_zero, decide_true, decide_false, if_true, if_false, Bool.false_eq_true, ne_shr_add, ne_shr_sub, ne_shr_mul, ne_shr_and, ne_shr_or, ne_shr_xor, ne_shr_shl, ne_shr_less, ne_shr_equal, ne_shr_not, ne_shr_neg, ne_shr_int, ne_shr_var, ne_shr_load, ne_shr_set, ne_shr_write, ne_shr_store, ne_shr_go, ne_shr_if, ne_shr_return, ne_shr_none, e_ite, b_shl hy0 (show y ≤ 1000000 by omega) (abs_lt h2 hx), b_shr hy0]
    exact ⟨trivial, trivial⟩
theorem comp_ok (h1 : 1 ≤ w) (h2 : w ≤ 16) (hx : Wd w x) (hy : Wd w y) (hk : 3 ≤ k) (ho : o ∈ opsL) : (evCall Lw.T k "compute" [.str o, .int w, .int x, .int y] h).Ok fun v h' => v = .int (comp o w x y) ∧ h' = h := by
  obtain ⟨k, rfl⟩ : ∃ j, k = j + 1 := ⟨k - 1, by omega⟩
  refine call_ok Lw.T_compute rfl (by decide) ?_
  show (evSs (evCall Lw.T k) Lw.b_compute [some (.str o), some (.int w), some (.int x), some (.int y)] h).Rt _
  have q2 : 2 ≤ sizeLine := by decide
  have tp := fun h => top_ok (k := k) (h := h) h1 h2 (by omega)
  have ab := abs_lt h2 hy
  simp only [opsL, List.mem_cons, List.not_mem_nil, or_false] at ho
  unfold Lw.b_compute
  rcases ho with rfl | rfl | rfl | rfl | rfl | rfl | rfl | rfl | rfl | rfl | rfl | rfl
  · have ci : ∀ h, inB (.str "add") (.tup [.str "shl", .str "shr"]) h = ok false h := fun h => rfl
    rw [comp_add]
    simp only [bnd_bnd, bnd_sbnd, sbnd_seq, seq_seq, seqC_ap, ss_cons, ss_nil, s_asg, s_ret, s_ite, s_ex, s_for, s_whl, e_non, e_bl, e_int, e_str, e_var, e_bin, e_neg, e_cmp, e_not, e_tup, e_lst, e_dic0, e_sub, e_call, e_bi, e_mt, kindG_same, e_isi, e_inv, e_lrg, e_fld, e_mk, e_um, e_kcall, e_lgen, e_rpr, s_sfld, s_augF, e_lc, e_dc, wipeP, new, evEs, evT, evTs, evP, evI, evG, bnd_ok, sbnd_ok, seq_nx, seq_rt, to_nx, go_nx, go_ct, rt_rt, ok_ok, slot, item0, item1, item2, item3, sub_t, i_int, i_abs, i_lenT, c_eqI, c_neI, c_eqS, c_neS, c_lt, c_le, c_gt, c_ge, asB_bl, iteC_t, iteC_f, iteC_d, b_add, b_sub, b_mul, b_mod, List.getElem?_cons_succ, List.getElem?_cons_zero, List.set_cons_succ, List.set_cons_zero, decide_true, decide_false, if_true, if_false, Bool.false_eq_true, ne_add_sub, ne_add_mul, ne_add_and, ne_add_or, ne_add_xor, ne_add_shl, ne_add_shr, ne_add_less, ne_add_equal, ne_add_not, ne_add_neg, ne_add_int, ne_add_var, ne_add_load, ne_add_set, ne_add_write, ne_add_store, ne_add_go, ne_add_if, ne_add_return, ne_add_none, List.length_cons, List.length_nil, q2, cIn (ci _), e_ite, b_mul ab]
    refine Out.Ok.rt (tp _) fun v h3 ⟨ev, eh⟩ => ?_
    subst ev eh
    simp only [bnd_bnd, bnd_sbnd, sbnd_seq, seq_seq, seqC_ap, ss_cons, ss_nil, s_asg, s_ret, s_ite, s_ex, s_for, s_whl, e_non, e_bl, e_int, e_str, e_var, e_bin, e_neg, e_cmp, e_not, e_tup, e_lst, e_dic0, e_sub, e_call, e_bi, e_mt, kindG_same, e_isi, e_inv, e_lrg, e_fld, e_mk, e_um, e_kcall, e_lgen, e_rpr, s_sfld, s_augF, e_lc, e_dc, wipeP, new, evEs, evT, evTs, evP, evI, evG, bnd_ok, sbnd_ok, seq_nx, seq_rt, to_nx, go_nx, go_ct, rt_rt, ok_ok, slot, item0, item1, item2, item3, sub_t, i_int, i_abs, i_lenT, c_eqI, c_neI, c_eqS, c_neS, c_lt, c_le, c_gt, c_ge, asB_bl, iteC_t, iteC_f, iteC_d, b_add, b_sub, b_mul, b_mod, b_and, bit_and]
    exact ⟨trivial, trivial⟩
  · have ci : ∀ h, inB (.str "sub") (.tup [.str "shl", .str "shr"]) h = ok false h := fun h => rfl
    rw [comp_sub]
    simp only [bnd_bnd, bnd_sbnd, sbnd_seq, seq_seq, seqC_ap, ss_cons, ss_nil, s_asg, s_ret, s_ite, s_ex, s_for, s_whl, e_non, e_bl, e_int, e_str, e_var, e_bin, e_neg, e_cmp, e_not, e_tup, e_lst, e_dic0, e_sub, e_call, e_bi, e_mt, kindG_same, e_isi, e_inv, e_lrg, e_fld, e_mk, e_um, e_kcall, e_lgen, e_rpr, s_sfld, s_augF, e_lc, e_dc, wipeP, new, evEs, evT, evTs, evP, evI, evG, bnd_ok, sbnd_ok, seq_nx, seq_rt, to_nx, go_nx, go_ct, rt_rt, ok_ok, slot, item0, item1, item2, item3, sub_t, i_int, i_abs, i_lenT, c_eqI, c_neI, c_eqS, c_neS, c_lt, c_le, c_gt, c_ge, asB_bl, iteC_t, iteC_f, iteC_d, b_add, b_sub, b_mul, b_mod, List.getElem?_cons_succ, List.getElem?_cons_zero, List.set_cons_succ, List.set_cons_zero, decide_true, decide_false, if_true, if_false, Bool.false_eq_true, ne_sub_add, ne_sub_mul, ne_sub_and, ne_sub_or, ne_sub_xor, ne_sub_shl, ne_sub_shr, ne_sub_less, ne_sub_equal, ne_sub_not, ne_sub_neg, ne_sub_int, ne_sub_var, ne_sub_load, ne_sub_set, ne_sub_write, ne_sub_store, ne_sub_go, ne_sub_if, ne_sub_return, ne_sub_none, List.length_cons, List.length_nil, q2, cIn (ci _), e_ite, b_mul ab]
    refine Out.Ok.rt (tp _) fun v h3 ⟨ev, eh⟩ => ?_
    subst ev eh
    simp only [bnd_bnd, bnd_sbnd, sbnd_seq, seq_seq, seqC_ap, ss_cons, ss_nil, s_asg, s_ret, s_ite, s_ex, s_for, s_whl, e_non, e_bl, e_int, e_str, e_var, e_bin, e_neg, e_cmp, e_not, e_tup, e_lst, e_dic0, e_sub, e_call, e_bi, e_mt, kindG_same, e_isi, e_inv, e_lrg, e_fld, e_mk, e_um, e_kcall, e_lgen, e_rpr, s_sfld, s_augF, e_lc, e_dc, wipeP, new, evEs, evT, evTs, evP, evI, evG, bnd_ok, sbnd_ok, seq_nx, seq_rt, to_nx, go_nx, go_ct, rt_rt, ok_ok, slot, item0, item1, item2, item3, sub_t, i_int, i_abs, i_lenT, c_eqI, c_neI, c_eqS, c_neS, c_lt, c_le, c_gt, c_ge, asB_bl, iteC_t, iteC_f, iteC_d, b_add, b_sub, b_mul, b_mod, b_and, bit_and]
    exact ⟨trivial, trivial⟩
  · have ci : ∀ h, inB (.str "mul") (.tup [.str "shl", .str "shr"]) h = ok false h := fun h => rfl
    rw [comp_mul]
    simp only [bnd_bnd, bnd_sbnd, sbnd_seq, seq_seq, seqC_ap, ss_cons, ss_nil, s_asg, s_ret, s_ite, s_ex, s_for, s_whl, e_non, e_bl, e_int, e_str, e_var, e_bin, e_neg, e_cmp, e_not, e_tup, e_lst, e_dic0, e_sub, e_call, e_bi, e_mt, kindG_same, e_isi, e_inv, e_lrg, e_fld, e_mk, e_um, e_kcall, e_lgen, e_rpr, s_sfld, s_augF, e_lc, e_dc, wipeP, new, evEs, evT, evTs, evP, evI, evG, bnd_ok, sbnd_ok, seq_nx, seq_rt, to_nx, go_nx, go_ct, rt_rt, ok_ok, slot, item0, item1, item2, item3, sub_t, i_int, i_abs, i_lenT, c_eqI, c_neI, c_eqS, c_neS, c_lt, c_le, c_gt, c_ge, asB_bl, iteC_t, iteC_f, iteC_d, b_add, b_sub, b_mul, b_mod, List.getElem?_cons_succ, List.getElem?_cons_zero, List.set_cons_succ, List.set_cons_zero, decide_true, decide_false, if_true, if_false, Bool.false_eq_true, ne_mul_add, ne_mul_sub, ne_mul_and, ne_mul_or, ne_mul_xor, ne_mul_shl, ne_mul_shr, ne_mul_less, ne_mul_equal, ne_mul_not, ne_mul_neg, ne_mul_int, ne_mul_var, ne_mul_load, ne_mul_set, ne_mul_write, ne_mul_store, ne_mul_go, ne_mul_if, ne_mul_return, ne_mul_none, List.length_cons, List.length_nil, q2, cIn (ci _), e_ite, b_mul ab]
    refine Out.Ok.rt (tp _) fun v h3 ⟨ev, eh⟩ => ?_
    subst ev eh
    simp only [bnd_bnd, bnd_sbnd, sbnd_seq, seq_seq, seqC_ap, ss_cons, ss_nil, s_asg, s_ret, s_ite, s_ex, s_for, s_whl, e_non, e_bl, e_int, e_str, e_var, e_bin, e_neg, e_cmp, e_not, e_tup, e_lst, e_dic0, e_sub, e_call, e_bi, e_mt, kindG_same, e_isi, e_inv, e_lrg, e_fld, e_mk, e_um, e_kcall, e_lgen, e_rpr, s_sfld, s_augF, e_lc, e_dc, wipeP, new, evEs, evT, evTs, evP, evI, evG, bnd_ok, sbnd_ok, seq_nx, seq_rt, to_nx, go_nx, go_ct, rt_rt, ok_ok, slot, item0, item1, item2, item3, sub_t, i_int, i_abs, i_lenT, c_eqI, c_neI, c_eqS, c_neS, c_lt, c_le, c_gt, c_ge, asB_bl, iteC_t, iteC_f, iteC_d, b_add, b_sub, b_mul, b_mod, b_and, bit_and]
    exact ⟨trivial, trivial⟩
  · have ci : ∀ h, inB (.str "and") (.tup [.str "shl", .str "shr"]) h = ok false h := fun h => rfl
    rw [comp_and]
    simp only [bnd_bnd, bnd_sbnd, sbnd_seq, seq_seq, seqC_ap, ss_cons, ss_nil, s_asg, s_ret, s_ite, s_ex, s_for, s_whl, e_non, e_bl, e_int, e_str, e_var, e_bin, e_neg, e_cmp, e_not, e_tup, e_lst, e_dic0, e_sub, e_call, e_bi, e_mt, kindG_same, e_isi, e_inv, e_lrg, e_fld, e_mk, e_um, e_kcall, e_lgen, e_rpr, s_sfld, s_augF, e_lc, e_dc, wipeP, new, evEs, evT, evTs, evP, evI, evG, bnd_ok, sbnd_ok, seq_nx, seq_rt, to_nx, go_nx, go_ct, rt_rt, ok_ok, slot, item0, item1, item2, item3, sub_t, i_int, i_abs, i_lenT, c_eqI, c_neI, c_eqS, c_neS, c_lt, c_le, c_gt, c_ge, asB_bl, iteC_t, iteC_f, iteC_d, b_add, b_sub, b_mul, b_mod, List.getElem?_cons_succ, List.getElem?_cons_zero, List.set_cons_succ, List.set_cons_zero, decide_true, decide_false, if_true, if_false, Bool.false_eq_true, ne_and_add, ne_and_sub, ne_and_mul, ne_and_or, ne_and_xor, ne_and_shl, ne_and_shr, ne_and_less, ne_and_equal, ne_and_not, ne_and_neg, ne_and_int, ne_and_var, ne_and_load, ne_and_set, ne_and_write, ne_and_store, ne_and_go, ne_and_if, ne_and_return, ne_and_none, List.length_cons, List.length_nil, q2, cIn (ci _), e_ite, b_mul ab]
    simp only [b_and, b_or, b_xor, and_nat hx.1 hy.1, bnd_bnd, bnd_sbnd, sbnd_seq, seq_seq, seqC_ap, ss_cons, ss_nil, s_asg, s_ret, s_ite, s_ex, s_for, s_whl, e_non, e_bl, e_int, e_str, e_var, e_bin, e_neg, e_cmp, e_not, e_tup, e_lst, e_dic0, e_sub, e_call, e_bi, e_mt, kindG_same, e_isi, e_inv, e_lrg, e_fld, e_mk, e_um, e_kcall, e_lgen, e_rpr, s_sfld, s_augF, e_lc, e_dc, wipeP, new, evEs, evT, evTs, evP, evI, evG, bnd_ok, sbnd_ok, seq_nx, seq_rt, to_nx, go_nx, go_ct, rt_rt, ok_ok, slot, item0, item1, item2, item3, sub_t, i_int, i_abs, i_lenT, c_eqI, c_neI, c_eqS, c_neS, c_lt, c_le, c_gt, c_ge, asB_bl, iteC_t, iteC_f, iteC_d, b_add, b_sub, b_mul, b_mod]
    exact ⟨trivial, trivial⟩
  · have ci : ∀ h, inB (.str "or") (.tup [.str "shl", .str "shr"]) h = ok false h := fun h => rfl
    rw [comp_or]
    simp only [bnd_bnd, bnd_sbnd, sbnd_seq, seq_seq, seqC_ap, ss_cons, ss_nil, s_asg, s_ret, s_ite, s_ex, s_for, s_whl, e_non, e_bl, e_int, e_str, e_var, e_bin, e_neg, e_cmp, e_not, e_tup, e_lst, e_dic0, e_sub, e_call, e_bi, e_mt, kindG_same, e_isi, e_inv, e_lrg, e_fld, e_mk, e_um, e_kcall, e_lgen, e_rpr, s_sfld, s_augF, e_lc, e_dc, wipeP, new, evEs, evT, evTs, evP, evI, evG, bnd_ok, sbnd_ok, seq_nx, seq_rt, to_nx, go_nx, go_ct, rt_rt, ok_ok, slot, item0, item1, item2, item3, sub_t, i_int, i_abs, i_lenT, c_eqI, c_neI, c_eqS, c_neS, c_lt, c_le, c_gt, c_ge, asB_bl, iteC_t, iteC_f, iteC_d, b_add, b_sub, b_mul, b_mod, List.getElem?_cons_succ, List.getElem?_cons_zero, List.set_cons_succ, List.set_cons_zero, decide_true, decide_false, if_true, if_false, Bool.false_eq_true, ne_or_add, ne_or_sub, ne_or_mul, ne_or_and, ne_or_xor, ne_or_shl, ne_or_shr, ne_or_less, ne_or_equal, ne_or_not, ne_or_neg, ne_or_int, ne_or_var, ne_or_load, ne_or_set, ne_or_write, ne_or_store, ne_or_go, ne_or_if, ne_or_return, ne_or_none, List.length_cons, List.length_nil, q2, cIn (ci _), e_ite, b_mul ab]
    simp only [b_and, b_or, b_xor, or_nat hx.1 hy.1, bnd_bnd, bnd_sbnd, sbnd_seq, seq_seq, seqC_ap, ss_cons, ss_nil, s_asg, s_ret, s_ite, s_ex, s_for, s_whl, e_non, e_bl, e_int, e_str, e_var, e_bin, e_neg, e_cmp, e_not, e_tup, e_lst, e_dic0, e_sub, e_call, e_bi, e_mt, kindG_same, e_isi, e_inv, e_lrg, e_fld, e_mk, e_um, e_kcall, e_lgen, e_rpr, s_sfld, s_augF, e_lc, e_dc, wipeP, new, evEs, evT, evTs, evP, evI, evG, bnd_ok, sbnd_ok, seq_nx, seq_rt, to_nx, go_nx, go_ct, rt_rt, ok_ok, slot, item0, item1, item2, item3, sub_t, i_int, i_abs, i_lenT, c_eqI, c_neI, c_eqS, c_neS, c_lt, c_le, c_gt, c_ge, asB_bl, iteC_t, iteC_f, iteC_d, b_add, b_sub, b_mul, b_mod]
    exact ⟨trivial, trivial⟩
  · have ci : ∀ h, inB (.str "xor") (.tup [.str "shl", .str "shr"]) h = ok false h := fun h => rfl
    rw [comp_xor]
    simp only [bnd_bnd, bnd_sbnd, sbnd_seq, seq_seq, seqC_ap, ss_cons, ss_nil, s_asg, s_ret, s_ite, s_ex, s_for, s_whl, e_non, e_bl, e_int, e_str, e_var, e_bin, e_neg, e_cmp, e_not, e_tup, e_lst, e_dic0, e_sub, e_call, e_bi, e_mt, kindG_same, e_isi, e_inv, e_lrg, e_fld, e_mk, e_um, e_kcall, e_lgen, e_rpr, s_sfld, s_augF, e_lc, e_dc, wipeP, new, evEs, evT, evTs, evP, evI, evG, bnd_ok, sbnd_ok, seq_nx, seq_rt, to_nx, go_nx, go_ct, rt_rt, ok_ok, slot, item0, item1, item2, item3, sub_t, i_int, i_abs, i_lenT, c_eqI, c_neI, c_eqS, c_neS, c_lt, c_le, c_gt, c_ge, asB_bl, iteC_t, iteC_f, iteC_d, b_add, b_sub, b_mul, b_mod, List.getElem?_cons_succ, List.getElem?_cons_zero, List.set_cons_succ, List.set_cons_zero, decide_true, decide_false, if_true, if_false, Bool.false_eq_true, ne_xor_add, ne_xor_sub, ne_xor_mul, ne_xor_and, ne_xor_or, ne_xor_shl, ne_xor_shr, ne_xor_less, ne_xor_equal, ne_xor_not, ne_xor_neg, ne_xor_int, ne_xor_var, ne_xor_load, ne_xor_set, ne_xor_write, ne_xor_store, ne_xor_go, ne_xor_if, ne_xor_return, ne_xor_none, List.length_cons, List.length_nil, q2, cIn (ci _), e_ite, b_mul ab]
    simp only [b_and, b_or, b_xor, xor_nat hx.1 hy.1 hx.2 hy.2, bnd_bnd, bnd_sbnd, sbnd_seq, seq_seq, seqC_ap, ss_cons, ss_nil, s_asg, s_ret, s_ite, s_ex, s_for, s_whl, e_non, e_bl, e_int, e_str, e_var, e_bin, e_neg, e_cmp, e_not, e_tup, e_lst, e_dic0, e_sub, e_call, e_bi, e_mt, kindG_same, e_isi, e_inv, e_lrg, e_fld, e_mk, e_um, e_kcall, e_lgen, e_rpr, s_sfld, s_augF, e_lc, e_dc, wipeP, new, evEs, evT, evTs, evP, evI, evG, bnd_ok, sbnd_ok, seq_nx, seq_rt, to_nx, go_nx, go_ct, rt_rt, ok_ok, slot, item0, item1, item2, item3, sub_t, i_int, i_abs, i_lenT, c_eqI, c_neI, c_eqS, c_neS, c_lt, c_le, c_gt, c_ge, asB_bl, iteC_t, iteC_f, iteC_d, b_add, b_sub, b_mul, b_mod]
    exact ⟨trivial, trivial⟩
  · have ci : ∀ h, inB (.str "shl") (.tup [.str "shl", .str "shr"]) h = ok true h := fun h => rfl
    rw [comp_shl]
    simp only [bnd_bnd, bnd_sbnd, sbnd_seq, seq_seq, seqC_ap, ss_cons, ss_nil, s_asg, s_ret, s_ite, s_ex, s_for, s_whl, e_non, e_bl, e_int, e_str, e_var, e_bin, e_neg, e_cmp, e_not, e_tup, e_lst, e_dic0, e_sub, e_call, e_bi, e_mt, kindG_same, e_isi, e_inv, e_lrg, e_fld, e_mk, e_um, e_kcall, e_lgen, e_rpr, s_sfld, s_augF, e_lc, e_dc, wipeP, new, evEs, evT, evTs, evP, evI, evG, bnd_ok, sbnd_ok, seq_nx, seq_rt, to_nx, go_nx, go_ct, rt_rt, ok_ok, slot, item0, item1, item2, item3, sub_t, i_int, i_abs, i_lenT, c_eqI, c_neI, c_eqS, c_neS, c_lt, c_le, c_gt, c_ge, asB_bl, iteC_t, iteC_f, iteC_d, b_add, b_sub, b_mul, b_mod, List.getElem?_cons_succ, List.getElem?_cons_zero, List.set_cons_succ, List.set_cons_zero, decide_true, decide_false, if_true, if_false, Bool.false_eq_true, ne_shl_add, ne_shl_sub, ne_shl_mul, ne_shl_and, ne_shl_or, ne_shl_xor, ne_shl_shr, ne_shl_less, ne_shl_equal, ne_shl_not, ne_shl_neg, ne_shl_int, ne_shl_var, ne_shl_load, ne_shl_set, ne_shl_write, ne_shl_store, ne_shl_go, ne_shl_if, ne_shl_return, ne_shl_none, List.length_cons, List.length_nil, q2, cIn (ci _), e_ite, b_mul ab]
    refine Out.Ok.rt (shifted_shl h1 h2 hx hy (by omega)) fun v h3 ⟨ev, eh⟩ => ?_
    subst ev eh
    rw [comp_shl]
    simp only [bnd_bnd, bnd_sbnd, sbnd_seq, seq_seq, seqC_ap, ss_cons, ss_nil, s_asg, s_ret, s_ite, s_ex, s_for, s_whl, e_non, e_bl, e_int, e_str, e_var, e_bin, e_neg, e_cmp, e_not, e_tup, e_lst, e_dic0, e_sub, e_call, e_bi, e_mt, kindG_same, e_isi, e_inv, e_lrg, e_fld, e_mk, e_um, e_kcall, e_lgen, e_rpr, s_sfld, s_augF, e_lc, e_dc, wipeP, new, evEs, evT, evTs, evP, evI, evG, bnd_ok, sbnd_ok, seq_nx, seq_rt, to_nx, go_nx, go_ct, rt_rt, ok_ok, slot, item0, item1, item2, item3, sub_t, i_int, i_abs, i_lenT, c_eqI, c_neI, c_eqS, c_neS, c_lt, c_le, c_gt, c_ge, asB_bl, iteC_t, iteC_f, iteC_d, b_add, b_sub, b_mul, b_mod]
    exact ⟨trivial, trivial⟩
  · have ci : ∀ h, inB (.str "shr") (.tup [.str "shl", .str "shr"]) h = ok true h := fun h => rfl
    rw [comp_shr]
    simp only [bnd_bnd, bnd_sbnd, sbnd_seq, seq_seq, seqC_ap, ss_cons, ss_nil, s_asg, s_ret, s_ite, s_ex, s_for, s_whl, e_non, e_bl, e_int, e_str, e_var, e_bin, e_neg, e_cmp, e_not, e_tup, e_lst, e_dic0, e_sub, e_call, e_bi, e_mt, kindG_same, e_isi, e_inv, e_lrg, e_fld, e_mk, e_um, e_kcall, e_lgen, e_rpr, s_sfld, s_augF, e_lc, e_dc, wipeP, new, evEs, evT, evTs, evP, evI, evG, bnd_ok, sbnd_ok, seq_nx, seq_rt, to_nx, go_nx, go_ct, rt_rt, ok_ok, slot, item0, item1, item2, item3, sub_t, i_int, i_abs, i_lenT, c_eqI, c_neI, c_eqS, c_neS, c_lt, c_le, c_gt, c_ge, asB_bl, iteC_t, iteC_f, iteC_d, b_add, b_sub, b_mul, b_mod, List.getElem?_cons_succ, List.getElem?_cons_zero, List.set_cons_succ, List.set_cons_zero, decide_true, decide_false, if_true, if_false, Bool.false_eq_true, ne_shr_add, ne_shr_sub, ne_shr_mul, ne_shr_and, ne_shr_or, ne_shr_xor, ne_shr_shl, ne_shr_less, ne_shr_equal, ne_shr_not, ne_shr_neg, ne_shr_int, ne_shr_var, ne_shr_load, ne_shr_set, ne_shr_write, ne_shr_store, ne_shr_go, ne_shr_if, ne_shr_return, ne_shr_none, List.length_cons, List.length_nil, q2, cIn (ci _), e_ite, b_mul ab]
    refine Out.Ok.rt (shifted_shr h1 h2 hx hy (by omega)) fun v h3 ⟨ev, eh⟩ => ?_
    subst ev eh
    rw [comp_shr]
    simp only [bnd_bnd, bnd_sbnd, sbnd_seq, seq_seq, seqC_ap, ss_cons, ss_nil, s_asg, s_ret, s_ite, s_ex, s_for, s_whl, e_non, e_bl, e_int, e_str, e_var, e_bin, e_neg, e_cmp, e_not, e_tup, e_lst, e_dic0, e_sub, e_call, e_bi, e_mt, kindG_same, e_isi, e_inv, e_lrg, e_fld, e_mk, e_um, e_kcall, e_lgen, e_rpr, s_sfld, s_augF, e_lc, e_dc, wipeP, new, evEs, evT, evTs, evP, evI, evG, bnd_ok, sbnd_ok, seq_nx, seq_rt, to_nx, go_nx, go_ct, rt_rt, ok_ok, slot, item0, item1, item2, item3, sub_t, i_int, i_abs, i_lenT, c_eqI, c_neI, c_eqS, c_neS, c_lt, c_le, c_gt, c_ge, asB_bl, iteC_t, iteC_f, iteC_d, b_add, b_sub, b_mul, b_mod]
    exact ⟨trivial, trivial⟩
  · have ci : ∀ h, inB (.str "less") (.tup [.str "shl", .str "shr"]) h = ok false h := fun h => rfl
    rw [comp_less]
    simp only [bnd_bnd, bnd_sbnd, sbnd_seq, seq_seq, seqC_ap, ss_cons, ss_nil, s_asg, s_ret, s_ite, s_ex, s_for, s_whl, e_non, e_bl, e_int, e_str, e_var, e_bin, e_neg, e_cmp, e_not, e_tup, e_lst, e_dic0, e_sub, e_call, e_bi, e_mt, kindG_same, e_isi, e_inv, e_lrg, e_fld, e_mk, e_um, e_kcall, e_lgen, e_rpr, s_sfld, s_augF, e_lc, e_dc, wipeP, new, evEs, evT, evTs, evP, evI, evG, bnd_ok, sbnd_ok, seq_nx, seq_rt, to_nx, go_nx, go_ct, rt_rt, ok_ok, slot, item0, item1, item2, item3, sub_t, i_int, i_abs, i_lenT, c_eqI, c_neI, c_eqS, c_neS, c_lt, c_le, c_gt, c_ge, asB_bl, iteC_t, iteC_f, iteC_d, b_add, b_sub, b_mul, b_mod, List.getElem?_cons_succ, List.getElem?_cons_zero, List.set_cons_succ, List.set_cons_zero, decide_true, decide_false, if_true, if_false, Bool.false_eq_true, ne_less_add, ne_less_sub, ne_less_mul, ne_less_and, ne_less_or, ne_less_xor, ne_less_shl, ne_less_shr, ne_less_equal, ne_less_not, ne_less_neg, ne_less_int, ne_less_var, ne_less_load, ne_less_set, ne_less_write, ne_less_store, ne_less_go, ne_less_if, ne_less_return, ne_less_none, List.length_cons, List.length_nil, q2, cIn (ci _), e_ite, b_mul ab]
    by_cases c : x < y
    · simp only [c, bnd_bnd, bnd_sbnd, sbnd_seq, seq_seq, seqC_ap, ss_cons, ss_nil, s_asg, s_ret, s_ite, s_ex, s_for, s_whl, e_non, e_bl, e_int, e_str, e_var, e_bin, e_neg, e_cmp, e_not, e_tup, e_lst, e_dic0, e_sub, e_call, e_bi, e_mt, kindG_same, e_isi, e_inv, e_lrg, e_fld, e_mk, e_um, e_kcall, e_lgen, e_rpr, s_sfld, s_augF, e_lc, e_dc, wipeP, new, evEs, evT, evTs, evP, evI, evG, bnd_ok, sbnd_ok, seq_nx, seq_rt, to_nx, go_nx, go_ct, rt_rt, ok_ok, slot, item0, item1, item2, item3, sub_t, i_int, i_abs, i_lenT, c_eqI, c_neI, c_eqS, c_neS, c_lt, c_le, c_gt, c_ge, asB_bl, iteC_t, iteC_f, iteC_d, b_add, b_sub, b_mul, b_mod, List.getElem?_cons_succ, List.getElem?_cons_zero, List.set_cons_succ, List.set_cons_zero, decide_true, decide_false, if_true, if_false, Bool.false_eq_true]; exact ⟨trivial, trivial⟩
    · simp only [c, bnd_bnd, bnd_sbnd, sbnd_seq, seq_seq, seqC_ap, ss_cons, ss_nil, s_asg, s_ret, s_ite, s_ex, s_for, s_whl, e_non, e_bl, e_int, e_str, e_var, e_bin, e_neg, e_cmp, e_not, e_tup, e_lst, e_dic0, e_sub, e_call, e_bi, e_mt, kindG_same, e_isi, e_inv, e_lrg, e_fld, e_mk, e_um, e_kcall, e_lgen, e_rpr, s_sfld, s_augF, e_lc, e_dc, wipeP, new, evEs, evT, evTs, evP, evI, evG, bnd_ok, sbnd_ok, seq_nx, seq_rt, to_nx, go_nx, go_ct, rt_rt, ok_ok, slot, item0, item1, item2, item3, sub_t, i_int, i_abs, i_lenT, c_eqI, c_neI, c_eqS, c_neS, c_lt, c_le, c_gt, c_ge, asB_bl, iteC_t, iteC_f, iteC_d, b_add, b_sub, b_mul, b_mod, List.getElem?_cons_succ, List.getElem?_cons_zero, List.set_cons_succ, List.set_cons_zero, decide_true, decide_false, if_true, if_false, Bool.false_eq_true]; exact ⟨trivial, trivial⟩
  · have ci : ∀ h, inB (.str "equal") (.tup [.str "shl", .str "shr"]) h = ok false h := fun h => rfl
    rw [comp_equal]
    simp only [bnd_bnd, bnd_sbnd, sbnd_seq, seq_seq, seqC_ap, ss_cons, ss_nil, s_asg, s_ret, s_ite, s_ex, s_for, s_whl, e_non, e_bl, e_int, e_str, e_var, e_bin, e_neg, e_cmp, e_not, e_tup, e_lst, e_dic0, e_sub, e_call, e_bi, e_mt, kindG_same, e_isi, e_inv, e_lrg, e_fld, e_mk, e_um, e_kcall, e_lgen, e_rpr, s_sfld, s_augF, e_lc, e_dc, wipeP, new, evEs, evT, evTs, evP, evI, evG, bnd_ok, sbnd_ok, seq_nx, seq_rt, to_nx, go_nx, go_ct, rt_rt, ok_ok, slot, item0, item1, item2, item3, sub_t, i_int, i_abs, i_lenT, c_eqI, c_neI, c_eqS, c_neS, c_lt, c_le, c_gt, c_ge, asB_bl, iteC_t, iteC_f, iteC_d, b_add, b_sub, b_mul, b_mod, List.getElem?_cons_succ, List.getElem?_cons_zero, List.set_cons_succ, List.set_cons_zero, decide_true, decide_false, if_true, if_false, Bool.false_eq_true, ne_equal_add, ne_equal_sub, ne_equal_mul, ne_equal_and, ne_equal_or, ne_equal_xor, ne_equal_shl, ne_equal_shr, ne_equal_less, ne_equal_not, ne_equal_neg, ne_equal_int, ne_equal_var, ne_equal_load, ne_equal_set, ne_equal_write, ne_equal_store, ne_equal_go, ne_equal_if, ne_equal_return, ne_equal_none, List.length_cons, List.length_nil, q2, cIn (ci _), e_ite, b_mul ab]
    by_cases c : x = y
    · simp only [c, bnd_bnd, bnd_sbnd, sbnd_seq, seq_seq, seqC_ap, ss_cons, ss_nil, s_asg, s_ret, s_ite, s_ex, s_for, s_whl, e_non, e_bl, e_int, e_str, e_var, e_bin, e_neg, e_cmp, e_not, e_tup, e_lst, e_dic0, e_sub, e_call, e_bi, e_mt, kindG_same, e_isi, e_inv, e_lrg, e_fld, e_mk, e_um, e_kcall, e_lgen, e_rpr, s_sfld, s_augF, e_lc, e_dc, wipeP, new, evEs, evT, evTs, evP, evI, evG, bnd_ok, sbnd_ok, seq_nx, seq_rt, to_nx, go_nx, go_ct, rt_rt, ok_ok, slot, item0, item1, item2, item3, sub_t, i_int, i_abs, i_lenT, c_eqI, c_neI, c_eqS, c_neS, c_lt, c_le, c_gt, c_ge, asB_bl, iteC_t, iteC_f, iteC_d, b_add, b_sub, b_mul, b_mod, List.getElem?_cons_succ, List.getElem?_cons_zero, List.set_cons_succ, List.set_cons_zero, decide_true, decide_false, if_true, if_false, Bool.false_eq_true]; exact ⟨trivial, trivial⟩
    · simp only [c, bnd_bnd, bnd_sbnd, sbnd_seq, seq_seq, seqC_ap, ss_cons, ss_nil, s_asg, s_ret, s_ite, s_ex, s_for, s_whl, e_non, e_bl, e_int, e_str, e_var, e_bin, e_neg, e_cmp, e_not, e_tup, e_lst, e_dic0, e_sub, e_call, e_bi, e_mt, kindG_same, e_isi, e_inv, e_lrg, e_fld, e_mk, e_um, e_kcall, e_lgen, e_rpr, s_sfld, s_augF, e_lc, e_dc, wipeP, new, evEs, evT, evTs, evP, evI, evG, bnd_ok, sbnd_ok, seq_nx, seq_rt, to_nx, go_nx, go_ct, rt_rt, ok_ok, slot, item0, item1, item2, item3, sub_t, i_int, i_abs, i_lenT, c_eqI, c_neI, c_eqS, c_neS, c_lt, c_le, c_gt, c_ge, asB_bl, iteC_t, iteC_f, iteC_d, b_add, b_sub, b_mul, b_mod, List.getElem?_cons_succ, List.getElem?_cons_zero, List.set_cons_succ, List.set_cons_zero, decide_true, decide_false, if_true, if_false, Bool.false_eq_true]; exact ⟨trivial, trivial⟩
  · have ci : ∀ h, inB (.str "not") (.tup [.str "shl", .str "shr"]) h = ok false h := fun h => rfl
    rw [comp_not]
    simp only [bnd_bnd, bnd_sbnd, sbnd_seq, seq_seq, seqC_ap, ss_cons, ss_nil, s_asg, s_ret, s_ite, s_ex, s_for, s_whl, e_non, e_bl, e_int, e_str, e_var, e_bin, e_neg, e_cmp, e_not, e_tup, e_lst, e_dic0, e_sub, e_call, e_bi, e_mt, kindG_same, e_isi, e_inv, e_lrg, e_fld, e_mk, e_um, e_kcall, e_lgen, e_rpr, s_sfld, s_augF, e_lc, e_dc, wipeP, new, evEs, evT, evTs, evP, evI, evG, bnd_ok, sbnd_ok, seq_nx, seq_rt, to_nx, go_nx, go_ct, rt_rt, ok_ok, slot, item0, item1, item2, item3, sub_t, i_int, i_abs, i_lenT, c_eqI, c_neI, c_eqS, c_neS, c_lt, c_le, c_gt, c_ge, asB_bl, iteC_t, iteC_f, iteC_d, b_add, b_sub, b_mul, b_mod, List.getElem?_cons_succ, List.getElem?_cons_zero, List.set_cons_succ, List.set_cons_zero, decide_true, decide_false, if_true, if_false, Bool.false_eq_true, ne_not_add, ne_not_sub, ne_not_mul, ne_not_and, ne_not_or, ne_not_xor, ne_not_shl, ne_not_shr, ne_not_less, ne_not_equal, ne_not_neg, ne_not_int, ne_not_var, ne_not_load, ne_not_set, ne_not_write, ne_not_store, ne_not_go, ne_not_if, ne_not_return, ne_not_none, List.length_cons, List.length_nil, q2, cIn (ci _), e_ite, b_mul ab]
    refine Out.Ok.rt (tp _) fun v h3 ⟨ev, eh⟩ => ?_
    subst ev eh
    simp only [bnd_bnd, bnd_sbnd, sbnd_seq, seq_seq, seqC_ap, ss_cons, ss_nil, s_asg, s_ret, s_ite, s_ex, s_for, s_whl, e_non, e_bl, e_int, e_str, e_var, e_bin, e_neg, e_cmp, e_not, e_tup, e_lst, e_dic0, e_sub, e_call, e_bi, e_mt, kindG_same, e_isi, e_inv, e_lrg, e_fld, e_mk, e_um, e_kcall, e_lgen, e_rpr, s_sfld, s_augF, e_lc, e_dc, wipeP, new, evEs, evT, evTs, evP, evI, evG, bnd_ok, sbnd_ok, seq_nx, seq_rt, to_nx, go_nx, go_ct, rt_rt, ok_ok, slot, item0, item1, item2, item3, sub_t, i_int, i_abs, i_lenT, c_eqI, c_neI, c_eqS, c_neS, c_lt, c_le, c_gt, c_ge, asB_bl, iteC_t, iteC_f, iteC_d, b_add, b_sub, b_mul, b_mod, List.getElem?_cons_succ, List.getElem?_cons_zero, List.set_cons_succ, List.set_cons_zero, decide_true, decide_false, if_true, if_false, Bool.false_eq_true]
    exact ⟨trivial, trivial⟩
  · have ci : ∀ h, inB (.str "neg") (.tup [.str "shl", .str "shr"]) h = ok false h := fun h => rfl
    rw [comp_neg]
    simp only [bnd_bnd, bnd_sbnd, sbnd_seq, seq_seq, seqC_ap, ss_cons, ss_nil, s_asg, s_ret, s_ite, s_ex, s_for, s_whl, e_non, e_bl, e_int, e_str, e_var, e_bin, e_neg, e_cmp, e_not, e_tup, e_lst, e_dic0, e_sub, e_call, e_bi, e_mt, kindG_same, e_isi, e_inv, e_lrg, e_fld, e_mk, e_um, e_kcall, e_lgen, e_rpr, s_sfld, s_augF, e_lc, e_dc, wipeP, new, evEs, evT, evTs, evP, evI, evG, bnd_ok, sbnd_ok, seq_nx, seq_rt, to_nx, go_nx, go_ct, rt_rt, ok_ok, slot, item0, item1, item2, item3, sub_t, i_int, i_abs, i_lenT, c_eqI, c_neI, c_eqS, c_neS, c_lt, c_le, c_gt, c_ge, asB_bl, iteC_t, iteC_f, iteC_d, b_add, b_sub, b_mul, b_mod, List.getElem?_cons_succ, List.getElem?_cons_zero, List.set_cons_succ, List.set_cons_zero, decide_true, decide_false, if_true, if_false, Bool.false_eq_true, ne_neg_add, ne_neg_sub, ne_neg_mul, ne_neg_and, ne_neg_or, ne_neg_xor, ne_neg_shl, ne_neg_shr, ne_neg_less, ne_neg_equal, ne_neg_not, ne_neg_int, ne_neg_var, ne_neg_load, ne_neg_set, ne_neg_write, ne_neg_store, ne_neg_go, ne_neg_if, ne_neg_return, ne_neg_none, List.length_cons, List.length_nil, q2, cIn (ci _), e_ite, b_mul ab]
    refine Out.Ok.rt (tp _) fun v h3 ⟨ev, eh⟩ => ?_
    subst ev eh
    simp only [bnd_bnd, bnd_sbnd, sbnd_seq, seq_seq, seqC_ap, ss_cons, ss_nil, s_asg, s_ret, s_ite, s_ex, s_for, s_whl, e_non, e_bl, e_int, e_str, e_var, e_bin, e_neg, e_cmp, e_not, e_tup, e_lst, e_dic0, e_sub, e_call, e_bi, e_mt, kindG_same, e_isi, e_inv, e_lrg, e_fld, e_mk, e_um, e_kcall, e_lgen, e_rpr, s_sfld, s_augF, e_lc, e_dc, wipeP, new, evEs, evT, evTs, evP, evI, evG, bnd_ok, sbnd_ok, seq_nx, seq_rt, to_nx, go_nx, go_ct, rt_rt, ok_ok, slot, item0, item1, item2, item3, sub_t, i_int, i_abs, i_lenT, c_eqI, c_neI, c_eqS, c_neS, c_lt, c_le, c_gt, c_ge, asB_bl, iteC_t, iteC_f, iteC_d, b_add, b_sub, b_mul, b_mod, b_and, bit_and]
    exact ⟨trivial, trivial⟩
end
end Ar

set_option Elab.async false
set_option linter.all false
set_option maxRecDepth 100000
set_option maxHeartbeats 4000000
namespace MP
structure Fk (h h' : PH) : Prop where
  len : h.length ≤ h'.length
  keep : ∀ i, i < h.length → h'[i]? = h[i]?
theorem Fk.refl {h : PH} : Fk h h := ⟨Nat.le_refl _, fun _ _ => rfl⟩
theorem Fk.trans {a b c : PH} (x : Fk a b) (y : Fk b c) : Fk a c := ⟨Nat.le_trans x.len y.len, fun i hi => (y.keep i (Nat.lt_of_lt_of_le hi x.len)).trans (x.keep i hi)⟩
theorem Fk.new {h : PH} {o : PO} : Fk h (h ++ [o]) := ⟨by simp, fun i hi => List.getElem?_append_left hi⟩
theorem Fk.at {h h' : PH} {l : Nat} {o : PO} (x : Fk h h') (e : h[l]? = some o) : h'[l]? = some o := (x.keep l (lt_of_some e)).trans e
end MP
namespace Ar
open PySem MP
open Out (ok bad)
section
variable {k : Nat} {h : PH} {w x y : Int} {o : Str}
def lpB : Ss := (.cons (.asg (.nm 7) (.bin .Add (.bin .Mod (.bin .FloorDiv (.var 2) (.bin .LShift (.int 1) (.var 6))) (.int 2)) (.bin .Mod (.bin .FloorDiv (.var 3) (.bin .LShift (.int 1) (.var 6))) (.int 2))))
    (.cons (.ite (.or (.and (.cmp .Eq (.var 0) (.str "and")) (.cmp .Eq (.var 7) (.int 2))) (.or (.and (.cmp .Eq (.var 0) (.str "or")) (.cmp .Gt (.var 7) (.int 0))) (.and (.cmp .Eq (.var 0) (.str "xor")) (.cmp .Eq (.var 7) (.int 1))))) (.cons (.asg (.nm 5) (.bin .Add (.var 5) (.bin .LShift (.int 1) (.var 6))))
    .nil) .nil)
    .nil))
theorem loop_and {C : Str → List PV → PH → Out PV} (h1 : 1 ≤ w) (h2 : w ≤ 16) (hx : Wd w x) (hy : Wd w y) {z : Int} :
    (forC C (.nm 6) lpB [some (.str "and"), some (.int w), some (.int x), some (.int y), some (.int z), some (.int 0), none, none] (.vals (rngI 0 w.toNat)) h).To fun s' h' => ∃ a6 a7, s' = [some (.str "and"), some (.int w), some (.int x), some (.int y), some (.int z), some (.int ((x.toNat &&& y.toNat : Nat) : Int)), a6, a7] ∧ h' = h := by
  have eN : ((2 ^ w.toNat : Nat) : Int) = (2 : Int) ^ w.toNat := by rw [Int.natCast_pow]; rfl
  have n1 : x.toNat < 2 ^ w.toNat := by have := hx.1; have := hx.2; omega
  have n2 : y.toNat < 2 ^ w.toNat := by have := hy.1; have := hy.2; omega
  have := for_vals (C := C) (t := .nm 6) (b := lpB) (xs := rngI 0 w.toNat) (s := [some (.str "and"), some (.int w), some (.int x), some (.int y), some (.int z), some (.int 0), none, none]) (h := h)
    (fun i s' h' => ∃ a6 a7, s' = [some (.str "and"), some (.int w), some (.int x), some (.int y), some (.int z), some (.int (((x.toNat &&& y.toNat) % 2 ^ i : Nat) : Int)), a6, a7] ∧ h' = h) ⟨none, none, by simp [Nat.mod_one], rfl⟩ fun i q s' h' hq ⟨a6, a7, es, eh⟩ => ?_
  · rw [rng_len, Nat.mod_eq_of_lt (Nat.and_lt_two_pow _ n2)] at this
    exact this
  · subst es eh
    obtain ⟨hi, rfl⟩ := rng_at hq
    have p1 := pow_pos (n := i)
    have p2 : (2 : Int) ^ i < 1073741824 := by
      have := Nat.pow_lt_pow_right (show 1 < 2 by decide) (show i < 30 by omega)
      have e1 : ((2 ^ i : Nat) : Int) = (2 : Int) ^ i := by rw [Int.natCast_pow]; rfl
      omega
    have sh : ∀ h : PH, binF .LShift (.int 1) (.int (i : Int)) h = ok (.int (2 ^ i)) h := fun h => by rw [b_shl (show (0 : Int) ≤ i by omega) (show (i : Int) ≤ 1000000 by omega) (show (1 : Int).natAbs < 2 ^ 64 by decide), Int.one_mul, Int.toNat_natCast]
    have st := bits_step (n := x.toNat &&& y.toNat) (i := i)
    rw [Nat.testBit_and] at st
    simp only [Int.zero_add, evG, sbnd_ok, List.set_cons_succ, List.set_cons_zero]
    unfold lpB
    simp only [bnd_bnd, bnd_sbnd, sbnd_seq, seq_seq, seqC_ap, ss_cons, ss_nil, s_asg, s_ret, s_ite, s_ex, s_for, s_whl, e_non, e_bl, e_int, e_str, e_var, e_bin, e_neg, e_cmp, e_not, e_tup, e_lst, e_dic0, e_sub, e_call, e_bi, e_mt, kindG_same, e_isi, e_inv, e_lrg, e_fld, e_mk, e_um, e_kcall, e_lgen, e_rpr, s_sfld, s_augF, e_lc, e_dc, wipeP, new, evEs, evT, evTs, evP, evI, evG, bnd_ok, sbnd_ok, seq_nx, seq_rt, to_nx, go_nx, go_ct, rt_rt, ok_ok, slot, item0, item1, item2, item3, sub_t, i_int, i_abs, i_lenT, c_eqI, c_neI, c_eqS, c_neS, c_lt, c_le, c_gt, c_ge, asB_bl, iteC_t, iteC_f, iteC_d, b_add, b_sub, b_mul, b_mod, List.getElem?_cons_succ, List.getElem?_cons_zero, List.set_cons_succ, List.set_cons_zero, decide_true, decide_false, if_true, if_false, Bool.false_eq_true, b_shl (show (0 : Int) ≤ i by omega) (show (i : Int) ≤ 1000000 by omega) (show (1 : Int).natAbs < 2 ^ 64 by decide), Int.one_mul, Int.toNat_natCast, b_div p1 p2, b_mod (show (0 : Int) < 2 by decide), bit_int hx.1, bit_int hy.1, ne_and_add, ne_and_sub, ne_and_mul, ne_and_or, ne_and_xor, ne_and_shl, ne_and_shr, ne_and_less, ne_and_equal, ne_and_not, ne_and_neg, ne_and_int, ne_and_var, ne_and_load, ne_and_set, ne_and_write, ne_and_store, ne_and_go, ne_and_if, ne_and_return, ne_and_none]
    revert st
    generalize x.toNat.testBit i = b1
    generalize y.toNat.testBit i = b2
    intro st
    cases b1 <;> cases b2 <;> simp only [Bool.and_true, Bool.and_false, Bool.or_true, Bool.or_false, Bool.true_and, Bool.false_and, Bool.true_or, Bool.false_or, Bool.xor_true, Bool.xor_false, Bool.true_xor, Bool.false_xor, Bool.not_true, Bool.not_false, Bool.false_eq_true, if_true, if_false, Int.add_zero] at st <;> simp [bnd_bnd, bnd_sbnd, sbnd_seq, seq_seq, seqC_ap, ss_cons, ss_nil, s_asg, s_ret, s_ite, s_ex, s_for, s_whl, e_non, e_bl, e_int, e_str, e_var, e_bin, e_neg, e_cmp, e_not, e_tup, e_lst, e_dic0, e_sub, e_call, e_bi, e_mt, kindG_same, e_isi, e_inv, e_lrg, e_fld, e_mk, e_um, e_kcall, e_lgen, e_rpr, s_sfld, s_augF, e_lc, e_dc, wipeP, new, evEs, evT, evTs, evP, evI, evG, bnd_ok, sbnd_ok, seq_nx, seq_rt, to_nx, go_nx, go_ct, rt_rt, ok_ok, slot, item0, item1, item2, item3, sub_t, i_int, i_abs, i_lenT, c_eqI, c_neI, c_eqS, c_neS, c_lt, c_le, c_gt, c_ge, asB_bl, iteC_t, iteC_f, iteC_d, b_add, b_sub, b_mul, b_mod, st, sh]
theorem loop_or {C : Str → List PV → PH → Out PV} (h1 : 1 ≤ w) (h2 : w ≤ 16) (hx : Wd w x) (hy : Wd w y) {z : Int} :
    (forC C (.nm 6) lpB [some (.str "or"), some (.int w), some (.int x), some (.int y), some (.int z), some (.int 0), none, none] (.vals (rngI 0 w.toNat)) h).To fun s' h' => ∃ a6 a7, s' = [some (.str "or"), some (.int w), some (.int x), some (.int y), some (.int z), some (.int ((x.toNat ||| y.toNat : Nat) : Int)), a6, a7] ∧ h' = h := by
  have eN : ((2 ^ w.toNat : Nat) : Int) = (2 : Int) ^ w.toNat := by rw [Int.natCast_pow]; rfl
  have n1 : x.toNat < 2 ^ w.toNat := by have := hx.1; have := hx.2; omega
  have n2 : y.toNat < 2 ^ w.toNat := by have := hy.1; have := hy.2; omega
  have := for_vals (C := C) (t := .nm 6) (b := lpB) (xs := rngI 0 w.toNat) (s := [some (.str "or"), some (.int w), some (.int x), some (.int y), some (.int z), some (.int 0), none, none]) (h := h)
    (fun i s' h' => ∃ a6 a7, s' = [some (.str "or"), some (.int w), some (.int x), some (.int y), some (.int z), some (.int (((x.toNat ||| y.toNat) % 2 ^ i : Nat) : Int)), a6, a7] ∧ h' = h) ⟨none, none, by simp [Nat.mod_one], rfl⟩ fun i q s' h' hq ⟨a6, a7, es, eh⟩ => ?_
  · rw [rng_len, Nat.mod_eq_of_lt (Nat.or_lt_two_pow n1 n2)] at this
    exact this
  · subst es eh
    obtain ⟨hi, rfl⟩ := rng_at hq
    have p1 := pow_pos (n := i)
    have p2 : (2 : Int) ^ i < 1073741824 := by
      have := Nat.pow_lt_pow_right (show 1 < 2 by decide) (show i < 30 by omega)
      have e1 : ((2 ^ i : Nat) : Int) = (2 : Int) ^ i := by rw [Int.natCast_pow]; rfl
      omega
    have sh : ∀ h : PH, binF .LShift (.int 1) (.int (i : Int)) h = ok (.int (2 ^ i)) h := fun h => by rw [b_shl (show (0 : Int) ≤ i by omega) (show (i : Int) ≤ 1000000 by omega) (show (1 : Int).natAbs < 2 ^ 64 by decide), Int.one_mul, Int.toNat_natCast]
    have st := bits_step (n := x.toNat ||| y.toNat) (i := i)
    rw [Nat.testBit_or] at st
    simp only [Int.zero_add, evG, sbnd_ok, List.set_cons_succ, List.set_cons_zero]
    unfold lpB
    simp only [bnd_bnd, bnd_sbnd, sbnd_seq, seq_seq, seqC_ap, ss_cons, ss_nil, s_asg, s_ret, s_ite, s_ex, s_for, s_whl, e_non, e_bl, e_int, e_str, e_var, e_bin, e_neg, e_cmp, e_not, e_tup, e_lst, e_dic0, e_sub, e_call, e_bi, e_mt, kindG_same, e_isi, e_inv, e_lrg, e_fld, e_mk, e_um, e_kcall, e_lgen, e_rpr, s_sfld, s_augF, e_lc, e_dc, wipeP, new, evEs, evT, evTs, evP, evI, evG, bnd_ok, sbnd_ok, seq_nx, seq_rt, to_nx, go_nx, go_ct, rt_rt, ok_ok, slot, item0, item1, item2, item3, sub_t, i_int, i_abs, i_lenT, c_eqI, c_neI, c_eqS, c_neS, c_lt, c_le, c_gt, c_ge, asB_bl, iteC_t, iteC_f, iteC_d, b_add, b_sub, b_mul, b_mod, List.getElem?_cons_succ, List.getElem?_cons_zero, List.set_cons_succ, List.set_cons_zero, decide_true, decide_false, if_true, if_false, Bool.false_eq_true, b_shl (show (0 : Int) ≤ i by omega) (show (i : Int) ≤ 1000000 by omega) (show (1 : Int).natAbs < 2 ^ 64 by decide), Int.one_mul, Int.toNat_natCast, b_div p1 p2, b_mod (show (0 : Int) < 2 by decide), bit_int hx.1, bit_int hy.1, ne_or_add, ne_or_sub, ne_or_mul, ne_or_and, ne_or_xor, ne_or_shl, ne_or_shr, ne_or_less, ne_or_equal, ne_or_not, ne_or_neg, ne_or_int, ne_or_var, ne_or_load, ne_or_set, ne_or_write, ne_or_store, ne_or_go, ne_or_if, ne_or_return, ne_or_none]
    revert st
    generalize x.toNat.testBit i = b1
    generalize y.toNat.testBit i = b2
    intro st
    cases b1 <;> cases b2 <;> simp only [Bool.and_true, Bool.and_false, Bool.or_true, Bool.or_false, Bool.true_and, Bool.false_and, Bool.true_or, Bool.false_or, Bool.xor_true, Bool.xor_false, Bool.true_xor, Bool.false_xor, Bool.not_true, Bool.not_false, Bool.false_eq_true, if_true, if_false, Int.add_zero] at st <;> simp [bnd_bnd, bnd_sbnd, sbnd_seq, seq_seq, seqC_ap, ss_cons, ss_nil, s_asg, s_ret, s_ite, s_ex, s_for, s_whl, e_non, e_bl, e_int, e_str, e_var, e_bin, e_neg, e_cmp, e_not, e_tup, e_lst, e_dic0, e_sub, e_call, e_bi, e_mt, kindG_same, e_isi, e_inv, e_lrg, e_fld, e_mk, e_um, e_kcall, e_lgen, e_rpr, s_sfld, s_augF, e_lc, e_dc, wipeP, new, evEs, evT, evTs, evP, evI, evG, bnd_ok, sbnd_ok, seq_nx, seq_rt, to_nx, go_nx, go_ct, rt_rt, ok_ok, slot, item0, item1, item2, item3, sub_t, i_int, i_abs, i_lenT, c_eqI, c_neI, c_eqS, c_neS, c_lt, c_le, c_gt, c_ge, asB_bl, iteC_t, iteC_f, iteC_d, b_add, b_sub, b_mul, b_mod, st, sh]
theorem loop_xor {C : Str → List PV → PH → Out PV} (h1 : 1 ≤ w) (h2 : w ≤ 16) (hx : Wd w x) (hy : Wd w y) {z : Int} :
    (forC C (.nm 6) lpB [some (.str "xor"), some (.int w), some (.int x), some (.int y), some (.int z), some (.int 0), none, none] (.vals (rngI 0 w.toNat)) h).To fun s' h' => ∃ a6 a7, s' = [some (.str "xor"), some (.int w), some (.int x), some (.int y), some (.int z), some (.int ((x.toNat ^^^ y.toNat : Nat) : Int)), a6, a7] ∧ h' = h := by
  have eN : ((2 ^ w.toNat : Nat) : Int) = (2 : Int) ^ w.toNat := by rw [Int.natCast_pow]; rfl
  have n1 : x.toNat < 2 ^ w.toNat := by have := hx.1; have := hx.2; omega
  have n2 : y.toNat < 2 ^ w.toNat := by have := hy.1; have := hy.2; omega
  have := for_vals (C := C) (t := .nm 6) (b := lpB) (xs := rngI 0 w.toNat) (s := [some (.str "xor"), some (.int w), some (.int x), some (.int y), some (.int z), some (.int 0), none, none]) (h := h)
    (fun i s' h' => ∃ a6 a7, s' = [some (.str "xor"), some (.int w), some (.int x), some (.int y), some (.int z), some (.int (((x.toNat ^^^ y.toNat) % 2 ^ i : Nat) : Int)), a6, a7] ∧ h' = h) ⟨none, none, by simp [Nat.mod_one], rfl⟩ fun i q s' h' hq ⟨a6, a7, es, eh⟩ => ?_
  · rw [rng_len, Nat.mod_eq_of_lt (Nat.xor_lt_two_pow n1 n2)] at this
    exact this
  · subst es eh
    obtain ⟨hi, rfl⟩ := rng_at hq
    have p1 := pow_pos (n := i)
    have p2 : (2 : Int) ^ i < 1073741824 := by
      have := Nat.pow_lt_pow_right (show 1 < 2 by decide) (show i < 30 by omega)
      have e1 : ((2 ^ i : Nat) : Int) = (2 : Int) ^ i := by rw [Int.natCast_pow]; rfl
      omega
    have sh : ∀ h : PH, binF .LShift (.int 1) (.int (i : Int)) h = ok (.int (2 ^ i)) h := fun h => by rw [b_shl (show (0 : Int) ≤ i by omega) (show (i : Int) ≤ 1000000 by omega) (show (1 : Int).natAbs < 2 ^ 64 by decide), Int.one_mul, Int.toNat_natCast]
    have st := bits_step (n := x.toNat ^^^ y.toNat) (i := i)
    rw [Nat.testBit_xor] at st
    simp only [Int.zero_add, evG, sbnd_ok, List.set_cons_succ, List.set_cons_zero]
    unfold lpB
    simp only [bnd_bnd, bnd_sbnd, sbnd_seq, seq_seq, seqC_ap, ss_cons, ss_nil, s_asg, s_ret, s_ite, s_ex, s_for, s_whl, e_non, e_bl, e_int, e_str, e_var, e_bin, e_neg, e_cmp, e_not, e_tup, e_lst, e_dic0, e_sub, e_call, e_bi, e_mt, kindG_same, e_isi, e_inv, e_lrg, e_fld, e_mk, e_um, e_kcall, e_lgen, e_rpr, s_sfld, s_augF, e_lc, e_dc, wipeP, new, evEs, evT, evTs, evP, evI, evG, bnd_ok, sbnd_ok, seq_nx, seq_rt, to_nx, go_nx, go_ct, rt_rt, ok_ok, slot, item0, item1, item2, item3, sub_t, i_int, i_abs, i_lenT, c_eqI, c_neI, c_eqS, c_neS, c_lt, c_le, c_gt, c_ge, asB_bl, iteC_t, iteC_f, iteC_d, b_add, b_sub, b_mul, b_mod, List.getElem?_cons_succ, List.getElem?_cons_zero, List.set_cons_succ, List.set_cons_zero, decide_true, decide_false, if_true, if_false, Bool.false_eq_true, b_shl (show (0 : Int) ≤ i by omega) (show (i : Int) ≤ 1000000 by omega) (show (1 : Int).natAbs < 2 ^ 64 by decide), Int.one_mul, Int.toNat_natCast, b_div p1 p2, b_mod (show (0 : Int) < 2 by decide), bit_int hx.1, bit_int hy.1, ne_xor_add, ne_xor_sub, ne_xor_mul, ne_xor_and, ne_xor_or, ne_xor_shl, ne_xor_shr, ne_xor_less, ne_xor_equal, ne_xor_not, ne_xor_neg, ne_xor_int, ne_xor_var, ne_xor_load, ne_xor_set, ne_xor_write, ne_xor_store, ne_xor_go, ne_xor_if, ne_xor_return, ne_xor_none]
    revert st
    generalize x.toNat.testBit i = b1
    generalize y.toNat.testBit i = b2
    intro st
    cases b1 <;> cases b2 <;> simp only [Bool.and_true, Bool.and_false, Bool.or_true, Bool.or_false, Bool.true_and, Bool.false_and, Bool.true_or, Bool.false_or, Bool.xor_true, Bool.xor_false, Bool.true_xor, Bool.false_xor, Bool.not_true, Bool.not_false, Bool.false_eq_true, if_true, if_false, Int.add_zero] at st <;> simp [bnd_bnd, bnd_sbnd, sbnd_seq, seq_seq, seqC_ap, ss_cons, ss_nil, s_asg, s_ret, s_ite, s_ex, s_for, s_whl, e_non, e_bl, e_int, e_str, e_var, e_bin, e_neg, e_cmp, e_not, e_tup, e_lst, e_dic0, e_sub, e_call, e_bi, e_mt, kindG_same, e_isi, e_inv, e_lrg, e_fld, e_mk, e_um, e_kcall, e_lgen, e_rpr, s_sfld, s_augF, e_lc, e_dc, wipeP, new, evEs, evT, evTs, evP, evI, evG, bnd_ok, sbnd_ok, seq_nx, seq_rt, to_nx, go_nx, go_ct, rt_rt, ok_ok, slot, item0, item1, item2, item3, sub_t, i_int, i_abs, i_lenT, c_eqI, c_neI, c_eqS, c_neS, c_lt, c_le, c_gt, c_ge, asB_bl, iteC_t, iteC_f, iteC_d, b_add, b_sub, b_mul, b_mod, st, sh]
theorem rng_ev {C : Str → List PV → PH → Out PV} {es : Es} {s : PSt} {n : Int} (e : evEs C es s h = ok [.int n] h) (sm : small n = true) : evI C (.rng es) s h = ok (.vals (rngI 0 n.toNat)) h := by
  unfold evI
  rw [e, bnd_ok]
  simp only [sm, if_true]
theorem lcomp_ok (h1 : 1 ≤ w) (h2 : w ≤ 16) (hx : Wd w x) (hy : Wd w y) (hk : 1 ≤ k) (ho : o ∈ opsL) : (evCall Lw.T k "_law_compute" [.str o, .int w, .int x, .int y] h).Ok fun v h' => v = .int (comp o w x y) ∧ Fk h h' := by
  obtain ⟨k, rfl⟩ : ∃ j, k = j + 1 := ⟨k - 1, by omega⟩
  refine call_ok Lw.T__law_compute rfl (by decide) ?_
  show (evSs (evCall Lw.T k) Lw.b__law_compute [some (.str o), some (.int w), some (.int x), some (.int y), none, none, none, none] h).Rt _
  have q3 : 3 ≤ sizeLine := by decide
  have ab := abs_lt h2 hy
  have p1 := pow_pos (n := w.toNat)
  have p16 := pow16 h2
  have dv : ∀ {i : Int} {h : PH}, binF .FloorDiv (.int i) (.int (2 ^ w.toNat)) h = ok (.int (i / 2 ^ w.toNat)) h := fun {i h} => b_div p1 (by omega)
  have ml : ∀ {i : Int} {h : PH}, binF .Mult (.int i) (.int (2 ^ w.toNat)) h = ok (.int (i * 2 ^ w.toNat)) h := fun {i h} => b_mul (by omega)
  have sm : small w = true := decide_eq_true ⟨by omega, by omega⟩
  have sw : ∀ {h : PH}, binF .LShift (.int 1) (.int w) h = ok (.int (2 ^ w.toNat)) h := fun {h} => by rw [b_shl (show 0 ≤ w by omega) (by omega) (show (1 : Int).natAbs < 2 ^ 64 by decide), Int.one_mul]
  have F1 : Fk h (h ++ [PO.lst [.str "and", .str "or", .str "xor"]]) := Fk.new
  simp only [opsL, List.mem_cons, List.not_mem_nil, or_false] at ho
  unfold Lw.b__law_compute
  rcases ho with rfl | rfl | rfl | rfl | rfl | rfl | rfl | rfl | rfl | rfl | rfl | rfl
  · rw [comp_add]
    simp only [bnd_bnd, bnd_sbnd, sbnd_seq, seq_seq, seqC_ap, ss_cons, ss_nil, s_asg, s_ret, s_ite, s_ex, s_for, s_whl, e_non, e_bl, e_int, e_str, e_var, e_bin, e_neg, e_cmp, e_not, e_tup, e_lst, e_dic0, e_sub, e_call, e_bi, e_mt, kindG_same, e_isi, e_inv, e_lrg, e_fld, e_mk, e_um, e_kcall, e_lgen, e_rpr, s_sfld, s_augF, e_lc, e_dc, wipeP, new, evEs, evT, evTs, evP, evI, evG, bnd_ok, sbnd_ok, seq_nx, seq_rt, to_nx, go_nx, go_ct, rt_rt, ok_ok, slot, item0, item1, item2, item3, sub_t, i_int, i_abs, i_lenT, c_eqI, c_neI, c_eqS, c_neS, c_lt, c_le, c_gt, c_ge, asB_bl, iteC_t, iteC_f, iteC_d, b_add, b_sub, b_mul, b_mod, List.getElem?_cons_succ, List.getElem?_cons_zero, List.set_cons_succ, List.set_cons_zero, decide_true, decide_false, if_true, if_false, Bool.false_eq_true, ne_add_sub, ne_add_mul, ne_add_and, ne_add_or, ne_add_xor, ne_add_shl, ne_add_shr, ne_add_less, ne_add_equal, ne_add_not, ne_add_neg, ne_add_int, ne_add_var, ne_add_load, ne_add_set, ne_add_write, ne_add_store, ne_add_go, ne_add_if, ne_add_return, ne_add_none, List.length_cons, List.length_nil, q3, sw, e_ite]
    rw [← add_way hx hy]
    by_cases c : x + y < 2 ^ w.toNat
    · simp only [c, bnd_bnd, bnd_sbnd, sbnd_seq, seq_seq, seqC_ap, ss_cons, ss_nil, s_asg, s_ret, s_ite, s_ex, s_for, s_whl, e_non, e_bl, e_int, e_str, e_var, e_bin, e_neg, e_cmp, e_not, e_tup, e_lst, e_dic0, e_sub, e_call, e_bi, e_mt, kindG_same, e_isi, e_inv, e_lrg, e_fld, e_mk, e_um, e_kcall, e_lgen, e_rpr, s_sfld, s_augF, e_lc, e_dc, wipeP, new, evEs, evT, evTs, evP, evI, evG, bnd_ok, sbnd_ok, seq_nx, seq_rt, to_nx, go_nx, go_ct, rt_rt, ok_ok, slot, item0, item1, item2, item3, sub_t, i_int, i_abs, i_lenT, c_eqI, c_neI, c_eqS, c_neS, c_lt, c_le, c_gt, c_ge, asB_bl, iteC_t, iteC_f, iteC_d, b_add, b_sub, b_mul, b_mod, List.getElem?_cons_succ, List.getElem?_cons_zero, List.set_cons_succ, List.set_cons_zero, decide_true, decide_false, if_true, if_false, Bool.false_eq_true]; exact ⟨trivial, Fk.refl⟩
    · simp only [c, bnd_bnd, bnd_sbnd, sbnd_seq, seq_seq, seqC_ap, ss_cons, ss_nil, s_asg, s_ret, s_ite, s_ex, s_for, s_whl, e_non, e_bl, e_int, e_str, e_var, e_bin, e_neg, e_cmp, e_not, e_tup, e_lst, e_dic0, e_sub, e_call, e_bi, e_mt, kindG_same, e_isi, e_inv, e_lrg, e_fld, e_mk, e_um, e_kcall, e_lgen, e_rpr, s_sfld, s_augF, e_lc, e_dc, wipeP, new, evEs, evT, evTs, evP, evI, evG, bnd_ok, sbnd_ok, seq_nx, seq_rt, to_nx, go_nx, go_ct, rt_rt, ok_ok, slot, item0, item1, item2, item3, sub_t, i_int, i_abs, i_lenT, c_eqI, c_neI, c_eqS, c_neS, c_lt, c_le, c_gt, c_ge, asB_bl, iteC_t, iteC_f, iteC_d, b_add, b_sub, b_mul, b_mod, List.getElem?_cons_succ, List.getElem?_cons_zero, List.set_cons_succ, List.set_cons_zero, decide_true, decide_false, if_true, if_false, Bool.false_eq_true]; exact ⟨trivial, Fk.refl⟩
  · rw [comp_sub]
    simp only [bnd_bnd, bnd_sbnd, sbnd_seq, seq_seq, seqC_ap, ss_cons, ss_nil, s_asg, s_ret, s_ite, s_ex, s_for, s_whl, e_non, e_bl, e_int, e_str, e_var, e_bin, e_neg, e_cmp, e_not, e_tup, e_lst, e_dic0, e_sub, e_call, e_bi, e_mt, kindG_same, e_isi, e_inv, e_lrg, e_fld, e_mk, e_um, e_kcall, e_lgen, e_rpr, s_sfld, s_augF, e_lc, e_dc, wipeP, new, evEs, evT, evTs, evP, evI, evG, bnd_ok, sbnd_ok, seq_nx, seq_rt, to_nx, go_nx, go_ct, rt_rt, ok_ok, slot, item0, item1, item2, item3, sub_t, i_int, i_abs, i_lenT, c_eqI, c_neI, c_eqS, c_neS, c_lt, c_le, c_gt, c_ge, asB_bl, iteC_t, iteC_f, iteC_d, b_add, b_sub, b_mul, b_mod, List.getElem?_cons_succ, List.getElem?_cons_zero, List.set_cons_succ, List.set_cons_zero, decide_true, decide_false, if_true, if_false, Bool.false_eq_true, ne_sub_add, ne_sub_mul, ne_sub_and, ne_sub_or, ne_sub_xor, ne_sub_shl, ne_sub_shr, ne_sub_less, ne_sub_equal, ne_sub_not, ne_sub_neg, ne_sub_int, ne_sub_var, ne_sub_load, ne_sub_set, ne_sub_write, ne_sub_store, ne_sub_go, ne_sub_if, ne_sub_return, ne_sub_none, List.length_cons, List.length_nil, q3, sw, e_ite]
    rw [← sub_way hx hy]
    by_cases c : y ≤ x
    · simp only [c, bnd_bnd, bnd_sbnd, sbnd_seq, seq_seq, seqC_ap, ss_cons, ss_nil, s_asg, s_ret, s_ite, s_ex, s_for, s_whl, e_non, e_bl, e_int, e_str, e_var, e_bin, e_neg, e_cmp, e_not, e_tup, e_lst, e_dic0, e_sub, e_call, e_bi, e_mt, kindG_same, e_isi, e_inv, e_lrg, e_fld, e_mk, e_um, e_kcall, e_lgen, e_rpr, s_sfld, s_augF, e_lc, e_dc, wipeP, new, evEs, evT, evTs, evP, evI, evG, bnd_ok, sbnd_ok, seq_nx, seq_rt, to_nx, go_nx, go_ct, rt_rt, ok_ok, slot, item0, item1, item2, item3, sub_t, i_int, i_abs, i_lenT, c_eqI, c_neI, c_eqS, c_neS, c_lt, c_le, c_gt, c_ge, asB_bl, iteC_t, iteC_f, iteC_d, b_add, b_sub, b_mul, b_mod, List.getElem?_cons_succ, List.getElem?_cons_zero, List.set_cons_succ, List.set_cons_zero, decide_true, decide_false, if_true, if_false, Bool.false_eq_true]; exact ⟨trivial, Fk.refl⟩
    · simp only [c, bnd_bnd, bnd_sbnd, sbnd_seq, seq_seq, seqC_ap, ss_cons, ss_nil, s_asg, s_ret, s_ite, s_ex, s_for, s_whl, e_non, e_bl, e_int, e_str, e_var, e_bin, e_neg, e_cmp, e_not, e_tup, e_lst, e_dic0, e_sub, e_call, e_bi, e_mt, kindG_same, e_isi, e_inv, e_lrg, e_fld, e_mk, e_um, e_kcall, e_lgen, e_rpr, s_sfld, s_augF, e_lc, e_dc, wipeP, new, evEs, evT, evTs, evP, evI, evG, bnd_ok, sbnd_ok, seq_nx, seq_rt, to_nx, go_nx, go_ct, rt_rt, ok_ok, slot, item0, item1, item2, item3, sub_t, i_int, i_abs, i_lenT, c_eqI, c_neI, c_eqS, c_neS, c_lt, c_le, c_gt, c_ge, asB_bl, iteC_t, iteC_f, iteC_d, b_add, b_sub, b_mul, b_mod, List.getElem?_cons_succ, List.getElem?_cons_zero, List.set_cons_succ, List.set_cons_zero, decide_true, decide_false, if_true, if_false, Bool.false_eq_true]; exact ⟨trivial, Fk.refl⟩
  · rw [comp_mul]
    simp only [bnd_bnd, bnd_sbnd, sbnd_seq, seq_seq, seqC_ap, ss_cons, ss_nil, s_asg, s_ret, s_ite, s_ex, s_for, s_whl, e_non, e_bl, e_int, e_str, e_var, e_bin, e_neg, e_cmp, e_not, e_tup, e_lst, e_dic0, e_sub, e_call, e_bi, e_mt, kindG_same, e_isi, e_inv, e_lrg, e_fld, e_mk, e_um, e_kcall, e_lgen, e_rpr, s_sfld, s_augF, e_lc, e_dc, wipeP, new, evEs, evT, evTs, evP, evI, evG, bnd_ok, sbnd_ok, seq_nx, seq_rt, to_nx, go_nx, go_ct, rt_rt, ok_ok, slot, item0, item1, item2, item3, sub_t, i_int, i_abs, i_lenT, c_eqI, c_neI, c_eqS, c_neS, c_lt, c_le, c_gt, c_ge, asB_bl, iteC_t, iteC_f, iteC_d, b_add, b_sub, b_mul, b_mod, List.getElem?_cons_succ, List.getElem?_cons_zero, List.set_cons_succ, List.set_cons_zero, decide_true, decide_false, if_true, if_false, Bool.false_eq_true, ne_mul_add, ne_mul_sub, ne_mul_and, ne_mul_or, ne_mul_xor, ne_mul_shl, ne_mul_shr, ne_mul_less, ne_mul_equal, ne_mul_not, ne_mul_neg, ne_mul_int, ne_mul_var, ne_mul_load, ne_mul_set, ne_mul_write, ne_mul_store, ne_mul_go, ne_mul_if, ne_mul_return, ne_mul_none, List.length_cons, List.length_nil, q3, sw, e_ite]
    simp only [b_mul ab, dv, ml, bnd_bnd, bnd_sbnd, sbnd_seq, seq_seq, seqC_ap, ss_cons, ss_nil, s_asg, s_ret, s_ite, s_ex, s_for, s_whl, e_non, e_bl, e_int, e_str, e_var, e_bin, e_neg, e_cmp, e_not, e_tup, e_lst, e_dic0, e_sub, e_call, e_bi, e_mt, kindG_same, e_isi, e_inv, e_lrg, e_fld, e_mk, e_um, e_kcall, e_lgen, e_rpr, s_sfld, s_augF, e_lc, e_dc, wipeP, new, evEs, evT, evTs, evP, evI, evG, bnd_ok, sbnd_ok, seq_nx, seq_rt, to_nx, go_nx, go_ct, rt_rt, ok_ok, slot, item0, item1, item2, item3, sub_t, i_int, i_abs, i_lenT, c_eqI, c_neI, c_eqS, c_neS, c_lt, c_le, c_gt, c_ge, asB_bl, iteC_t, iteC_f, iteC_d, b_add, b_sub, b_mul, b_mod, mul_way]
    exact ⟨trivial, Fk.refl⟩
  · rw [comp_and]
    have ci : ∀ h l, h[l]? = some (PO.lst [.str "and", .str "or", .str "xor"]) → inB (.str "and") (.ref l) h = ok true h := fun h l e => by simp only [inB, e]; rfl
    simp only [bnd_bnd, bnd_sbnd, sbnd_seq, seq_seq, seqC_ap, ss_cons, ss_nil, s_asg, s_ret, s_ite, s_ex, s_for, s_whl, e_non, e_bl, e_int, e_str, e_var, e_bin, e_neg, e_cmp, e_not, e_tup, e_lst, e_dic0, e_sub, e_call, e_bi, e_mt, kindG_same, e_isi, e_inv, e_lrg, e_fld, e_mk, e_um, e_kcall, e_lgen, e_rpr, s_sfld, s_augF, e_lc, e_dc, wipeP, new, evEs, evT, evTs, evP, evI, evG, bnd_ok, sbnd_ok, seq_nx, seq_rt, to_nx, go_nx, go_ct, rt_rt, ok_ok, slot, item0, item1, item2, item3, sub_t, i_int, i_abs, i_lenT, c_eqI, c_neI, c_eqS, c_neS, c_lt, c_le, c_gt, c_ge, asB_bl, iteC_t, iteC_f, iteC_d, b_add, b_sub, b_mul, b_mod, List.getElem?_cons_succ, List.getElem?_cons_zero, List.set_cons_succ, List.set_cons_zero, decide_true, decide_false, if_true, if_false, Bool.false_eq_true, ne_and_add, ne_and_sub, ne_and_mul, ne_and_or, ne_and_xor, ne_and_shl, ne_and_shr, ne_and_less, ne_and_equal, ne_and_not, ne_and_neg, ne_and_int, ne_and_var, ne_and_load, ne_and_set, ne_and_write, ne_and_store, ne_and_go, ne_and_if, ne_and_return, ne_and_none, List.length_cons, List.length_nil, q3, sw, e_ite, cIn (ci _ _ at_new)]
    rw [if_pos sm, sbnd_ok]
    refine SO.To.rt (loop_and h1 h2 hx hy) fun s3 h3 ⟨a6, a7, es, eh⟩ => ?_
    subst es eh
    simp only [bnd_bnd, bnd_sbnd, sbnd_seq, seq_seq, seqC_ap, ss_cons, ss_nil, s_asg, s_ret, s_ite, s_ex, s_for, s_whl, e_non, e_bl, e_int, e_str, e_var, e_bin, e_neg, e_cmp, e_not, e_tup, e_lst, e_dic0, e_sub, e_call, e_bi, e_mt, kindG_same, e_isi, e_inv, e_lrg, e_fld, e_mk, e_um, e_kcall, e_lgen, e_rpr, s_sfld, s_augF, e_lc, e_dc, wipeP, new, evEs, evT, evTs, evP, evI, evG, bnd_ok, sbnd_ok, seq_nx, seq_rt, to_nx, go_nx, go_ct, rt_rt, ok_ok, slot, item0, item1, item2, item3, sub_t, i_int, i_abs, i_lenT, c_eqI, c_neI, c_eqS, c_neS, c_lt, c_le, c_gt, c_ge, asB_bl, iteC_t, iteC_f, iteC_d, b_add, b_sub, b_mul, b_mod, List.getElem?_cons_succ, List.getElem?_cons_zero, List.set_cons_succ, List.set_cons_zero, decide_true, decide_false, if_true, if_false, Bool.false_eq_true]
    exact ⟨trivial, F1⟩
  · rw [comp_or]
    have ci : ∀ h l, h[l]? = some (PO.lst [.str "and", .str "or", .str "xor"]) → inB (.str "or") (.ref l) h = ok true h := fun h l e => by simp only [inB, e]; rfl
    simp only [bnd_bnd, bnd_sbnd, sbnd_seq, seq_seq, seqC_ap, ss_cons, ss_nil, s_asg, s_ret, s_ite, s_ex, s_for, s_whl, e_non, e_bl, e_int, e_str, e_var, e_bin, e_neg, e_cmp, e_not, e_tup, e_lst, e_dic0, e_sub, e_call, e_bi, e_mt, kindG_same, e_isi, e_inv, e_lrg, e_fld, e_mk, e_um, e_kcall, e_lgen, e_rpr, s_sfld, s_augF, e_lc, e_dc, wipeP, new, evEs, evT, evTs, evP, evI, evG, bnd_ok, sbnd_ok, seq_nx, seq_rt, to_nx, go_nx, go_ct, rt_rt, ok_ok, slot, item0, item1, item2, item3, sub_t, i_int, i_abs, i_lenT, c_eqI, c_neI, c_eqS, c_neS, c_lt, c_le, c_gt, c_ge, asB_bl, iteC_t, iteC_f, iteC_d, b_add, b_sub, b_mul, b_mod, List.getElem?_cons_succ, List.getElem?_cons_zero, List.set_cons_succ, List.set_cons_zero, decide_true, decide_false, if_true, if_false, Bool.false_eq_true, ne_or_add, ne_or_sub, ne_or_mul, ne_or_and, ne_or_xor, ne_or_shl, ne_or_shr, ne_or_less, ne_or_equal, ne_or_not, ne_or_neg, ne_or_int, ne_or_var, ne_or_load, ne_or_set, ne_or_write, ne_or_store, ne_or_go, ne_or_if, ne_or_return, ne_or_none, List.length_cons, List.length_nil, q3, sw, e_ite, cIn (ci _ _ at_new)]
    rw [if_pos sm, sbnd_ok]
    refine SO.To.rt (loop_or h1 h2 hx hy) fun s3 h3 ⟨a6, a7, es, eh⟩ => ?_
    subst es eh
    simp only [bnd_bnd, bnd_sbnd, sbnd_seq, seq_seq, seqC_ap, ss_cons, ss_nil, s_asg, s_ret, s_ite, s_ex, s_for, s_whl, e_non, e_bl, e_int, e_str, e_var, e_bin, e_neg, e_cmp, e_not, e_tup, e_lst, e_dic0, e_sub, e_call, e_bi, e_mt, kindG_same, e_isi, e_inv, e_lrg, e_fld, e_mk, e_um, e_kcall, e_lgen, e_rpr, s_sfld, s_augF, e_lc, e_dc, wipeP, new, evEs, evT, evTs, evP, evI, evG, bnd_ok, sbnd_ok, seq_nx, seq_rt, to_nx, go_nx, go_ct, rt_rt, ok_ok, slot, item0, item1, item2, item3, sub_t, i_int, i_abs, i_lenT, c_eqI, c_neI, c_eqS, c_neS, c_lt, c_le, c_gt, c_ge, asB_bl, iteC_t, iteC_f, iteC_d, b_add, b_sub, b_mul, b_mod, List.getElem?_cons_succ, List.getElem?_cons_zero, List.set_cons_succ, List.set_cons_zero, decide_true, decide_false, if_true, if_false, Bool.false_eq_true]
    exact ⟨trivial, F1⟩
  · rw [comp_xor]
    have ci : ∀ h l, h[l]? = some (PO.lst [.str "and", .str "or", .str "xor"]) → inB (.str "xor") (.ref l) h = ok true h := fun h l e => by simp only [inB, e]; rfl
    simp only [bnd_bnd, bnd_sbnd, sbnd_seq, seq_seq, seqC_ap, ss_cons, ss_nil, s_asg, s_ret, s_ite, s_ex, s_for, s_whl, e_non, e_bl, e_int, e_str, e_var, e_bin, e_neg, e_cmp, e_not, e_tup, e_lst, e_dic0, e_sub, e_call, e_bi, e_mt, kindG_same, e_isi, e_inv, e_lrg, e_fld, e_mk, e_um, e_kcall, e_lgen, e_rpr, s_sfld, s_augF, e_lc, e_dc, wipeP, new, evEs, evT, evTs, evP, evI, evG, bnd_ok, sbnd_ok, seq_nx, seq_rt, to_nx, go_nx, go_ct, rt_rt, ok_ok, slot, item0, item1, item2, item3, sub_t, i_int, i_abs, i_lenT, c_eqI, c_neI, c_eqS, c_neS, c_lt, c_le, c_gt, c_ge, asB_bl, iteC_t, iteC_f, iteC_d, b_add, b_sub, b_mul, b_mod, List.getElem?_cons_succ, List.getElem?_cons_zero, List.set_cons_succ, List.set_cons_zero, decide_true, decide_false, if_true, if_false, Bool.false_eq_true, ne_xor_add, ne_xor_sub, ne_xor_mul, ne_xor_and, ne_xor_or, ne_xor_shl, ne_xor_shr, ne_xor_less, ne_xor_equal, ne_xor_not, ne_xor_neg, ne_xor_int, ne_xor_var, ne_xor_load, ne_xor_set, ne_xor_write, ne_xor_store, ne_xor_go, ne_xor_if, ne_xor_return, ne_xor_none, List.length_cons, List.length_nil, q3, sw, e_ite, cIn (ci _ _ at_new)]
    rw [if_pos sm, sbnd_ok]
    refine SO.To.rt (loop_xor h1 h2 hx hy) fun s3 h3 ⟨a6, a7, es, eh⟩ => ?_
    subst es eh
    simp only [bnd_bnd, bnd_sbnd, sbnd_seq, seq_seq, seqC_ap, ss_cons, ss_nil, s_asg, s_ret, s_ite, s_ex, s_for, s_whl, e_non, e_bl, e_int, e_str, e_var, e_bin, e_neg, e_cmp, e_not, e_tup, e_lst, e_dic0, e_sub, e_call, e_bi, e_mt, kindG_same, e_isi, e_inv, e_lrg, e_fld, e_mk, e_um, e_kcall, e_lgen, e_rpr, s_sfld, s_augF, e_lc, e_dc, wipeP, new, evEs, evT, evTs, evP, evI, evG, bnd_ok, sbnd_ok, seq_nx, seq_rt, to_nx, go_nx, go_ct, rt_rt, ok_ok, slot, item0, item1, item2, item3, sub_t, i_int, i_abs, i_lenT, c_eqI, c_neI, c_eqS, c_neS, c_lt, c_le, c_gt, c_ge, asB_bl, iteC_t, iteC_f, iteC_d, b_add, b_sub, b_mul, b_mod, List.getElem?_cons_succ, List.getElem?_cons_zero, List.set_cons_succ, List.set_cons_zero, decide_true, decide_false, if_true, if_false, Bool.false_eq_true]
    exact ⟨trivial, F1⟩
  · rw [comp_shl]
    have ci : ∀ h l, h[l]? = some (PO.lst [.str "and", .str "or", .str "xor"]) → inB (.str "shl") (.ref l) h = ok false h := fun h l e => by simp only [inB, e]; rfl
    simp only [bnd_bnd, bnd_sbnd, sbnd_seq, seq_seq, seqC_ap, ss_cons, ss_nil, s_asg, s_ret, s_ite, s_ex, s_for, s_whl, e_non, e_bl, e_int, e_str, e_var, e_bin, e_neg, e_cmp, e_not, e_tup, e_lst, e_dic0, e_sub, e_call, e_bi, e_mt, kindG_same, e_isi, e_inv, e_lrg, e_fld, e_mk, e_um, e_kcall, e_lgen, e_rpr, s_sfld, s_augF, e_lc, e_dc, wipeP, new, evEs, evT, evTs, evP, evI, evG, bnd_ok, sbnd_ok, seq_nx, seq_rt, to_nx, go_nx, go_ct, rt_rt, ok_ok, slot, item0, item1, item2, item3, sub_t, i_int, i_abs, i_lenT, c_eqI, c_neI, c_eqS, c_neS, c_lt, c_le, c_gt, c_ge, asB_bl, iteC_t, iteC_f, iteC_d, b_add, b_sub, b_mul, b_mod, List.getElem?_cons_succ, List.getElem?_cons_zero, List.set_cons_succ, List.set_cons_zero, decide_true, decide_false, if_true, if_false, Bool.false_eq_true, ne_shl_add, ne_shl_sub, ne_shl_mul, ne_shl_and, ne_shl_or, ne_shl_xor, ne_shl_shr, ne_shl_less, ne_shl_equal, ne_shl_not, ne_shl_neg, ne_shl_int, ne_shl_var, ne_shl_load, ne_shl_set, ne_shl_write, ne_shl_store, ne_shl_go, ne_shl_if, ne_shl_return, ne_shl_none, List.length_cons, List.length_nil, q3, sw, e_ite, cIn (ci _ _ at_new)]
    by_cases c : w ≤ y
    · simp only [c, bnd_bnd, bnd_sbnd, sbnd_seq, seq_seq, seqC_ap, ss_cons, ss_nil, s_asg, s_ret, s_ite, s_ex, s_for, s_whl, e_non, e_bl, e_int, e_str, e_var, e_bin, e_neg, e_cmp, e_not, e_tup, e_lst, e_dic0, e_sub, e_call, e_bi, e_mt, kindG_same, e_isi, e_inv, e_lrg, e_fld, e_mk, e_um, e_kcall, e_lgen, e_rpr, s_sfld, s_augF, e_lc, e_dc, wipeP, new, evEs, evT, evTs, evP, evI, evG, bnd_ok, sbnd_ok, seq_nx, seq_rt, to_nx, go_nx, go_ct, rt_rt, ok_ok, slot, item0, item1, item2, item3, sub_t, i_int, i_abs, i_lenT, c_eqI, c_neI, c_eqS, c_neS, c_lt, c_le, c_gt, c_ge, asB_bl, iteC_t, iteC_f, iteC_d, b_add, b_sub, b_mul, b_mod, List.getElem?_cons_succ, List.getElem?_cons_zero, List.set_cons_succ, List.set_cons_zero, decide_true, decide_false, if_true, if_false, Bool.false_eq_true, ge_iff_le]; exact ⟨trivial, F1⟩
    · have y0 := hy.1
      have p1 := pow_pos (n := y.toNat)
      have p2 := pow16 (w := y) (by omega)
      simp only [c, bnd_bnd, bnd_sbnd, sbnd_seq, seq_seq, seqC_ap, ss_cons, ss_nil, s_asg, s_ret, s_ite, s_ex, s_for, s_whl, e_non, e_bl, e_int, e_str, e_var, e_bin, e_neg, e_cmp, e_not, e_tup, e_lst, e_dic0, e_sub, e_call, e_bi, e_mt, kindG_same, e_isi, e_inv, e_lrg, e_fld, e_mk, e_um, e_kcall, e_lgen, e_rpr, s_sfld, s_augF, e_lc, e_dc, wipeP, new, evEs, evT, evTs, evP, evI, evG, bnd_ok, sbnd_ok, seq_nx, seq_rt, to_nx, go_nx, go_ct, rt_rt, ok_ok, slot, item0, item1, item2, item3, sub_t, i_int, i_abs, i_lenT, c_eqI, c_neI, c_eqS, c_neS, c_lt, c_le, c_gt, c_ge, asB_bl, iteC_t, iteC_f, iteC_d, b_add, b_sub, b_mul, b_mod, List.getElem?_cons_succ, List.getElem?_cons_zero, List.set_cons_succ, List.set_cons_zero, decide_true, decide_false, if_true, if_false, Bool.false_eq_true, ge_iff_le, b_shl y0 (show y ≤ 1000000 by omega) (show (1 : Int).natAbs < 2 ^ 64 by decide), Int.one_mul, b_mul (show ((2 : Int) ^ y.toNat).natAbs < 2 ^ 64 by omega), b_div p1 (show (2 : Int) ^ y.toNat < 1073741824 by omega), dv, ml, mul_way]; exact ⟨trivial, F1⟩
  · rw [comp_shr]
    have ci : ∀ h l, h[l]? = some (PO.lst [.str "and", .str "or", .str "xor"]) → inB (.str "shr") (.ref l) h = ok false h := fun h l e => by simp only [inB, e]; rfl
    simp only [bnd_bnd, bnd_sbnd, sbnd_seq, seq_seq, seqC_ap, ss_cons, ss_nil, s_asg, s_ret, s_ite, s_ex, s_for, s_whl, e_non, e_bl, e_int, e_str, e_var, e_bin, e_neg, e_cmp, e_not, e_tup, e_lst, e_dic0, e_sub, e_call, e_bi, e_mt, kindG_same, e_isi, e_inv, e_lrg, e_fld, e_mk, e_um, e_kcall, e_lgen, e_rpr, s_sfld, s_augF, e_lc, e_dc, wipeP, new, evEs, evT, evTs, evP, evI, evG, bnd_ok, sbnd_ok, seq_nx, seq_rt, to_nx, go_nx, go_ct, rt_rt, ok_ok, slot, item0, item1, item2, item3, sub_t, i_int, i_abs, i_lenT, c_eqI, c_neI, c_eqS, c_neS, c_lt, c_le, c_gt, c_ge, asB_bl, iteC_t, iteC_f, iteC_d, b_add, b_sub, b_mul, b_mod, List.getElem?_cons_succ, List.getElem?_cons_zero, List.set_cons_succ, List.set_cons_zero, decide_true, decide_false, if_true, if_false, Bool.false_eq_true, ne_shr_add, ne_shr_sub, ne_shr_mul, ne_shr_and, ne_shr_or, ne_shr_xor, ne_shr_shl, ne_shr_less, ne_shr_equal, ne_shr_not, ne_shr_neg, ne_shr_int, ne_shr_var, ne_shr_load, ne_shr_set, ne_shr_write, ne_shr_store, ne_shr_go, ne_shr_if, ne_shr_return, ne_shr_none, List.length_cons, List.length_nil, q3, sw, e_ite, cIn (ci _ _ at_new)]
    by_cases c : w ≤ y
    · simp only [c, bnd_bnd, bnd_sbnd, sbnd_seq, seq_seq, seqC_ap, ss_cons, ss_nil, s_asg, s_ret, s_ite, s_ex, s_for, s_whl, e_non, e_bl, e_int, e_str, e_var, e_bin, e_neg, e_cmp, e_not, e_tup, e_lst, e_dic0, e_sub, e_call, e_bi, e_mt, kindG_same, e_isi, e_inv, e_lrg, e_fld, e_mk, e_um, e_kcall, e_lgen, e_rpr, s_sfld, s_augF, e_lc, e_dc, wipeP, new, evEs, evT, evTs, evP, evI, evG, bnd_ok, sbnd_ok, seq_nx, seq_rt, to_nx, go_nx, go_ct, rt_rt, ok_ok, slot, item0, item1, item2, item3, sub_t, i_int, i_abs, i_lenT, c_eqI, c_neI, c_eqS, c_neS, c_lt, c_le, c_gt, c_ge, asB_bl, iteC_t, iteC_f, iteC_d, b_add, b_sub, b_mul, b_mod, List.getElem?_cons_succ, List.getElem?_cons_zero, List.set_cons_succ, List.set_cons_zero, decide_true, decide_false, if_true, if_false, Bool.false_eq_true, ge_iff_le]; exact ⟨trivial, F1⟩
    · have y0 := hy.1
      have p1 := pow_pos (n := y.toNat)
      have p2 := pow16 (w := y) (by omega)
      simp only [c, bnd_bnd, bnd_sbnd, sbnd_seq, seq_seq, seqC_ap, ss_cons, ss_nil, s_asg, s_ret, s_ite, s_ex, s_for, s_whl, e_non, e_bl, e_int, e_str, e_var, e_bin, e_neg, e_cmp, e_not, e_tup, e_lst, e_dic0, e_sub, e_call, e_bi, e_mt, kindG_same, e_isi, e_inv, e_lrg, e_fld, e_mk, e_um, e_kcall, e_lgen, e_rpr, s_sfld, s_augF, e_lc, e_dc, wipeP, new, evEs, evT, evTs, evP, evI, evG, bnd_ok, sbnd_ok, seq_nx, seq_rt, to_nx, go_nx, go_ct, rt_rt, ok_ok, slot, item0, item1, item2, item3, sub_t, i_int, i_abs, i_lenT, c_eqI, c_neI, c_eqS, c_neS, c_lt, c_le, c_gt, c_ge, asB_bl, iteC_t, iteC_f, iteC_d, b_add, b_sub, b_mul, b_mod, List.getElem?_cons_succ, List.getElem?_cons_zero, List.set_cons_succ, List.set_cons_zero, decide_true, decide_false, if_true, if_false, Bool.false_eq_true, ge_iff_le, b_shl y0 (show y ≤ 1000000 by omega) (show (1 : Int).natAbs < 2 ^ 64 by decide), Int.one_mul, b_mul (show ((2 : Int) ^ y.toNat).natAbs < 2 ^ 64 by omega), b_div p1 (show (2 : Int) ^ y.toNat < 1073741824 by omega), dv, ml, mul_way]; exact ⟨trivial, F1⟩
  · rw [comp_less]
    have ci : ∀ h l, h[l]? = some (PO.lst [.str "and", .str "or", .str "xor"]) → inB (.str "less") (.ref l) h = ok false h := fun h l e => by simp only [inB, e]; rfl
    simp only [bnd_bnd, bnd_sbnd, sbnd_seq, seq_seq, seqC_ap, ss_cons, ss_nil, s_asg, s_ret, s_ite, s_ex, s_for, s_whl, e_non, e_bl, e_int, e_str, e_var, e_bin, e_neg, e_cmp, e_not, e_tup, e_lst, e_dic0, e_sub, e_call, e_bi, e_mt, kindG_same, e_isi, e_inv, e_lrg, e_fld, e_mk, e_um, e_kcall, e_lgen, e_rpr, s_sfld, s_augF, e_lc, e_dc, wipeP, new, evEs, evT, evTs, evP, evI, evG, bnd_ok, sbnd_ok, seq_nx, seq_rt, to_nx, go_nx, go_ct, rt_rt, ok_ok, slot, item0, item1, item2, item3, sub_t, i_int, i_abs, i_lenT, c_eqI, c_neI, c_eqS, c_neS, c_lt, c_le, c_gt, c_ge, asB_bl, iteC_t, iteC_f, iteC_d, b_add, b_sub, b_mul, b_mod, List.getElem?_cons_succ, List.getElem?_cons_zero, List.set_cons_succ, List.set_cons_zero, decide_true, decide_false, if_true, if_false, Bool.false_eq_true, ne_less_add, ne_less_sub, ne_less_mul, ne_less_and, ne_less_or, ne_less_xor, ne_less_shl, ne_less_shr, ne_less_equal, ne_less_not, ne_less_neg, ne_less_int, ne_less_var, ne_less_load, ne_less_set, ne_less_write, ne_less_store, ne_less_go, ne_less_if, ne_less_return, ne_less_none, List.length_cons, List.length_nil, q3, sw, e_ite, cIn (ci _ _ at_new)]
    by_cases c : x < y
    · simp only [c, bnd_bnd, bnd_sbnd, sbnd_seq, seq_seq, seqC_ap, ss_cons, ss_nil, s_asg, s_ret, s_ite, s_ex, s_for, s_whl, e_non, e_bl, e_int, e_str, e_var, e_bin, e_neg, e_cmp, e_not, e_tup, e_lst, e_dic0, e_sub, e_call, e_bi, e_mt, kindG_same, e_isi, e_inv, e_lrg, e_fld, e_mk, e_um, e_kcall, e_lgen, e_rpr, s_sfld, s_augF, e_lc, e_dc, wipeP, new, evEs, evT, evTs, evP, evI, evG, bnd_ok, sbnd_ok, seq_nx, seq_rt, to_nx, go_nx, go_ct, rt_rt, ok_ok, slot, item0, item1, item2, item3, sub_t, i_int, i_abs, i_lenT, c_eqI, c_neI, c_eqS, c_neS, c_lt, c_le, c_gt, c_ge, asB_bl, iteC_t, iteC_f, iteC_d, b_add, b_sub, b_mul, b_mod, List.getElem?_cons_succ, List.getElem?_cons_zero, List.set_cons_succ, List.set_cons_zero, decide_true, decide_false, if_true, if_false, Bool.false_eq_true]; exact ⟨trivial, F1⟩
    · simp only [c, bnd_bnd, bnd_sbnd, sbnd_seq, seq_seq, seqC_ap, ss_cons, ss_nil, s_asg, s_ret, s_ite, s_ex, s_for, s_whl, e_non, e_bl, e_int, e_str, e_var, e_bin, e_neg, e_cmp, e_not, e_tup, e_lst, e_dic0, e_sub, e_call, e_bi, e_mt, kindG_same, e_isi, e_inv, e_lrg, e_fld, e_mk, e_um, e_kcall, e_lgen, e_rpr, s_sfld, s_augF, e_lc, e_dc, wipeP, new, evEs, evT, evTs, evP, evI, evG, bnd_ok, sbnd_ok, seq_nx, seq_rt, to_nx, go_nx, go_ct, rt_rt, ok_ok, slot, item0, item1, item2, item3, sub_t, i_int, i_abs, i_lenT, c_eqI, c_neI, c_eqS, c_neS, c_lt, c_le, c_gt, c_ge, asB_bl, iteC_t, iteC_f, iteC_d, b_add, b_sub, b_mul, b_mod, List.getElem?_cons_succ, List.getElem?_cons_zero, List.set_cons_succ, List.set_cons_zero, decide_true, decide_false, if_true, if_false, Bool.false_eq_true]; exact ⟨trivial, F1⟩
  · rw [comp_equal]
    have ci : ∀ h l, h[l]? = some (PO.lst [.str "and", .str "or", .str "xor"]) → inB (.str "equal") (.ref l) h = ok false h := fun h l e => by simp only [inB, e]; rfl
    simp only [bnd_bnd, bnd_sbnd, sbnd_seq, seq_seq, seqC_ap, ss_cons, ss_nil, s_asg, s_ret, s_ite, s_ex, s_for, s_whl, e_non, e_bl, e_int, e_str, e_var, e_bin, e_neg, e_cmp, e_not, e_tup, e_lst, e_dic0, e_sub, e_call, e_bi, e_mt, kindG_same, e_isi, e_inv, e_lrg, e_fld, e_mk, e_um, e_kcall, e_lgen, e_rpr, s_sfld, s_augF, e_lc, e_dc, wipeP, new, evEs, evT, evTs, evP, evI, evG, bnd_ok, sbnd_ok, seq_nx, seq_rt, to_nx, go_nx, go_ct, rt_rt, ok_ok, slot, item0, item1, item2, item3, sub_t, i_int, i_abs, i_lenT, c_eqI, c_neI, c_eqS, c_neS, c_lt, c_le, c_gt, c_ge, asB_bl, iteC_t, iteC_f, iteC_d, b_add, b_sub, b_mul, b_mod, List.getElem?_cons_succ, List.getElem?_cons_zero, List.set_cons_succ, List.set_cons_zero, decide_true, decide_false, if_true, if_false, Bool.false_eq_true, ne_equal_add, ne_equal_sub, ne_equal_mul, ne_equal_and, ne_equal_or, ne_equal_xor, ne_equal_shl, ne_equal_shr, ne_equal_less, ne_equal_not, ne_equal_neg, ne_equal_int, ne_equal_var, ne_equal_load, ne_equal_set, ne_equal_write, ne_equal_store, ne_equal_go, ne_equal_if, ne_equal_return, ne_equal_none, List.length_cons, List.length_nil, q3, sw, e_ite, cIn (ci _ _ at_new)]
    by_cases c : x = y
    · simp only [c, bnd_bnd, bnd_sbnd, sbnd_seq, seq_seq, seqC_ap, ss_cons, ss_nil, s_asg, s_ret, s_ite, s_ex, s_for, s_whl, e_non, e_bl, e_int, e_str, e_var, e_bin, e_neg, e_cmp, e_not, e_tup, e_lst, e_dic0, e_sub, e_call, e_bi, e_mt, kindG_same, e_isi, e_inv, e_lrg, e_fld, e_mk, e_um, e_kcall, e_lgen, e_rpr, s_sfld, s_augF, e_lc, e_dc, wipeP, new, evEs, evT, evTs, evP, evI, evG, bnd_ok, sbnd_ok, seq_nx, seq_rt, to_nx, go_nx, go_ct, rt_rt, ok_ok, slot, item0, item1, item2, item3, sub_t, i_int, i_abs, i_lenT, c_eqI, c_neI, c_eqS, c_neS, c_lt, c_le, c_gt, c_ge, asB_bl, iteC_t, iteC_f, iteC_d, b_add, b_sub, b_mul, b_mod, List.getElem?_cons_succ, List.getElem?_cons_zero, List.set_cons_succ, List.set_cons_zero, decide_true, decide_false, if_true, if_false, Bool.false_eq_true]; exact ⟨trivial, F1⟩
    · simp only [c, bnd_bnd, bnd_sbnd, sbnd_seq, seq_seq, seqC_ap, ss_cons, ss_nil, s_asg, s_ret, s_ite, s_ex, s_for, s_whl, e_non, e_bl, e_int, e_str, e_var, e_bin, e_neg, e_cmp, e_not, e_tup, e_lst, e_dic0, e_sub, e_call, e_bi, e_mt, kindG_same, e_isi, e_inv, e_lrg, e_fld, e_mk, e_um, e_kcall, e_lgen, e_rpr, s_sfld, s_augF, e_lc, e_dc, wipeP, new, evEs, evT, evTs, evP, evI, evG, bnd_ok, sbnd_ok, seq_nx, seq_rt, to_nx, go_nx, go_ct, rt_rt, ok_ok, slot, item0, item1, item2, item3, sub_t, i_int, i_abs, i_lenT, c_eqI, c_neI, c_eqS, c_neS, c_lt, c_le, c_gt, c_ge, asB_bl, iteC_t, iteC_f, iteC_d, b_add, b_sub, b_mul, b_mod, List.getElem?_cons_succ, List.getElem?_cons_zero, List.set_cons_succ, List.set_cons_zero, decide_true, decide_false, if_true, if_false, Bool.false_eq_true]; exact ⟨trivial, F1⟩
  · rw [comp_not]
    have ci : ∀ h l, h[l]? = some (PO.lst [.str "and", .str "or", .str "xor"]) → inB (.str "not") (.ref l) h = ok false h := fun h l e => by simp only [inB, e]; rfl
    simp only [bnd_bnd, bnd_sbnd, sbnd_seq, seq_seq, seqC_ap, ss_cons, ss_nil, s_asg, s_ret, s_ite, s_ex, s_for, s_whl, e_non, e_bl, e_int, e_str, e_var, e_bin, e_neg, e_cmp, e_not, e_tup, e_lst, e_dic0, e_sub, e_call, e_bi, e_mt, kindG_same, e_isi, e_inv, e_lrg, e_fld, e_mk, e_um, e_kcall, e_lgen, e_rpr, s_sfld, s_augF, e_lc, e_dc, wipeP, new, evEs, evT, evTs, evP, evI, evG, bnd_ok, sbnd_ok, seq_nx, seq_rt, to_nx, go_nx, go_ct, rt_rt, ok_ok, slot, item0, item1, item2, item3, sub_t, i_int, i_abs, i_lenT, c_eqI, c_neI, c_eqS, c_neS, c_lt, c_le, c_gt, c_ge, asB_bl, iteC_t, iteC_f, iteC_d, b_add, b_sub, b_mul, b_mod, List.getElem?_cons_succ, List.getElem?_cons_zero, List.set_cons_succ, List.set_cons_zero, decide_true, decide_false, if_true, if_false, Bool.false_eq_true, ne_not_add, ne_not_sub, ne_not_mul, ne_not_and, ne_not_or, ne_not_xor, ne_not_shl, ne_not_shr, ne_not_less, ne_not_equal, ne_not_neg, ne_not_int, ne_not_var, ne_not_load, ne_not_set, ne_not_write, ne_not_store, ne_not_go, ne_not_if, ne_not_return, ne_not_none, List.length_cons, List.length_nil, q3, sw, e_ite, cIn (ci _ _ at_new)]
    exact ⟨trivial, F1⟩
  · rw [comp_neg]
    have ci : ∀ h l, h[l]? = some (PO.lst [.str "and", .str "or", .str "xor"]) → inB (.str "neg") (.ref l) h = ok false h := fun h l e => by simp only [inB, e]; rfl
    simp only [bnd_bnd, bnd_sbnd, sbnd_seq, seq_seq, seqC_ap, ss_cons, ss_nil, s_asg, s_ret, s_ite, s_ex, s_for, s_whl, e_non, e_bl, e_int, e_str, e_var, e_bin, e_neg, e_cmp, e_not, e_tup, e_lst, e_dic0, e_sub, e_call, e_bi, e_mt, kindG_same, e_isi, e_inv, e_lrg, e_fld, e_mk, e_um, e_kcall, e_lgen, e_rpr, s_sfld, s_augF, e_lc, e_dc, wipeP, new, evEs, evT, evTs, evP, evI, evG, bnd_ok, sbnd_ok, seq_nx, seq_rt, to_nx, go_nx, go_ct, rt_rt, ok_ok, slot, item0, item1, item2, item3, sub_t, i_int, i_abs, i_lenT, c_eqI, c_neI, c_eqS, c_neS, c_lt, c_le, c_gt, c_ge, asB_bl, iteC_t, iteC_f, iteC_d, b_add, b_sub, b_mul, b_mod, List.getElem?_cons_succ, List.getElem?_cons_zero, List.set_cons_succ, List.set_cons_zero, decide_true, decide_false, if_true, if_false, Bool.false_eq_true, ne_neg_add, ne_neg_sub, ne_neg_mul, ne_neg_and, ne_neg_or, ne_neg_xor, ne_neg_shl, ne_neg_shr, ne_neg_less, ne_neg_equal, ne_neg_not, ne_neg_int, ne_neg_var, ne_neg_load, ne_neg_set, ne_neg_write, ne_neg_store, ne_neg_go, ne_neg_if, ne_neg_return, ne_neg_none, List.length_cons, List.length_nil, q3, sw, e_ite, cIn (ci _ _ at_new)]
    rw [← neg_way hx]
    by_cases c : x = 0
    · simp only [c, bnd_bnd, bnd_sbnd, sbnd_seq, seq_seq, seqC_ap, ss_cons, ss_nil, s_asg, s_ret, s_ite, s_ex, s_for, s_whl, e_non, e_bl, e_int, e_str, e_var, e_bin, e_neg, e_cmp, e_not, e_tup, e_lst, e_dic0, e_sub, e_call, e_bi, e_mt, kindG_same, e_isi, e_inv, e_lrg, e_fld, e_mk, e_um, e_kcall, e_lgen, e_rpr, s_sfld, s_augF, e_lc, e_dc, wipeP, new, evEs, evT, evTs, evP, evI, evG, bnd_ok, sbnd_ok, seq_nx, seq_rt, to_nx, go_nx, go_ct, rt_rt, ok_ok, slot, item0, item1, item2, item3, sub_t, i_int, i_abs, i_lenT, c_eqI, c_neI, c_eqS, c_neS, c_lt, c_le, c_gt, c_ge, asB_bl, iteC_t, iteC_f, iteC_d, b_add, b_sub, b_mul, b_mod, List.getElem?_cons_succ, List.getElem?_cons_zero, List.set_cons_succ, List.set_cons_zero, decide_true, decide_false, if_true, if_false, Bool.false_eq_true]; exact ⟨trivial, F1⟩
    · simp only [c, bnd_bnd, bnd_sbnd, sbnd_seq, seq_seq, seqC_ap, ss_cons, ss_nil, s_asg, s_ret, s_ite, s_ex, s_for, s_whl, e_non, e_bl, e_int, e_str, e_var, e_bin, e_neg, e_cmp, e_not, e_tup, e_lst, e_dic0, e_sub, e_call, e_bi, e_mt, kindG_same, e_isi, e_inv, e_lrg, e_fld, e_mk, e_um, e_kcall, e_lgen, e_rpr, s_sfld, s_augF, e_lc, e_dc, wipeP, new, evEs, evT, evTs, evP, evI, evG, bnd_ok, sbnd_ok, seq_nx, seq_rt, to_nx, go_nx, go_ct, rt_rt, ok_ok, slot, item0, item1, item2, item3, sub_t, i_int, i_abs, i_lenT, c_eqI, c_neI, c_eqS, c_neS, c_lt, c_le, c_gt, c_ge, asB_bl, iteC_t, iteC_f, iteC_d, b_add, b_sub, b_mul, b_mod, List.getElem?_cons_succ, List.getElem?_cons_zero, List.set_cons_succ, List.set_cons_zero, decide_true, decide_false, if_true, if_false, Bool.false_eq_true]; exact ⟨trivial, F1⟩
end
end Ar

set_option Elab.async false
set_option linter.all false
set_option maxRecDepth 100000
set_option maxHeartbeats 4000000
namespace K03
open PySem MP Ar
open Out (ok bad)
/-! ### dicts of ints -/
def dI (L : List (Int × Int)) : List (PV × PV) := L.map fun p => (.int p.1, .int p.2)
def getI : List (Int × Int) → Int → Int
  | [], _ => 0
  | (a, x) :: r, v => if a = v then x else getI r v
def putI (L : List (Int × Int)) (v x : Int) : List (Int × Int) := if (L.any fun p => decide (p.1 = v)) = true then L.map (fun p => if p.1 = v then (p.1, x) else p) else L ++ [(v, x)]
theorem get_dI {v : Int} : ∀ {L : List (Int × Int)}, (dGet (dI L) (.int v)).getD (.int 0) = .int (getI L v)
  | [] => rfl
  | (a, x) :: r => by
    show (if keyEq (.int a) (.int v) = true then some (PV.int x) else dGet (dI r) (.int v)).getD (.int 0) = .int (if a = v then x else getI r v)
    by_cases e : a = v
    · simp [keyEq, e]
    · simp only [keyEq, e, decide_false, Bool.false_eq_true, if_false]
      exact get_dI
theorem put_dI {L : List (Int × Int)} {v x : Int} : dPut (dI L) (.int v) (.int x) = dI (putI L v x) := by
  unfold dPut putI dI
  rw [List.any_map]
  have e : (L.any ((fun p => keyEq p.1 (.int v)) ∘ fun p => (PV.int p.1, PV.int p.2))) = L.any fun p => decide (p.1 = v) := rfl
  rw [e]
  split
  · rw [List.map_map, List.map_map]
    refine List.map_congr_left fun p _ => ?_
    by_cases q : p.1 = v <;> simp [keyEq, q]
  · simp
theorem put_len {L : List (Int × Int)} {v x : Int} : (putI L v x).length ≤ L.length + 1 := by
  unfold putI; split <;> simp
theorem set_dI {D : Nat} {L : List (Int × Int)} {v x : Int} {h : PH} (e : h[D]? = some (.dic (dI L))) (hz : L.length < 1000) : setF (.ref D) (.int v) (.int x) h = ok () (h.set D (.dic (dI (putI L v x)))) := by
  have hS : (1000 : Nat) ≤ sizeLine := by decide
  have : (dI L).length < sizeLine := by simp [dI]; omega
  simp only [setF, e, isKey, this, true_and, if_true, put_dI]
theorem mget_dI {D : Nat} {L : List (Int × Int)} {v : Int} {h : PH} (e : h[D]? = some (.dic (dI L))) : mtF .get (.ref D) [.int v, .int 0] h = ok (.int (getI L v)) h := by
  simp only [mtF, e, dicM, dicR, isKey, if_true, get_dI]
/-! ### stores -/
structure Sto where
  L : List (Int × Int)
  M : List Int
  W : List Int
structure Ok (w : Int) (s : Sto) : Prop where
  m : s.M.length = 16
  mw : ∀ x ∈ s.M, Wd w x
  lw : ∀ p ∈ s.L, Wd w p.2
  w1 : 1 ≤ w
  w2 : w ≤ 16
def val (w : Int) (s : Sto) : X → Int
  | .int n => n
  | .var v => getI s.L v
  | .load e => s.M.getD (val w s e % 16).toNat 0
  | .un o e => comp o w (val w s e) 0
  | .bin o a b => comp o w (val w s a) (val w s b)
theorem zero_wd {w : Int} (h : 1 ≤ w) : Wd w 0 := ⟨Int.le_refl _, by have := one_wd h; omega⟩
theorem get_wd {w : Int} (h : 1 ≤ w) {v : Int} : ∀ {L : List (Int × Int)}, (∀ p ∈ L, Wd w p.2) → Wd w (getI L v)
  | [], _ => zero_wd h
  | (a, x) :: r, q => by
    unfold getI
    split
    · exact q (a, x) (by simp)
    · exact get_wd h fun p hp => q p (List.mem_cons_of_mem _ hp)
theorem val_wd {w : Int} {vars : List Int} {s : Sto} (k : Ok w s) : ∀ e : X, e.good w vars → Wd w (val w s e) := by
  intro e
  induction e with
  | int n => exact fun g => g
  | var v => exact fun _ => get_wd k.w1 k.lw
  | load e ih =>
    intro g
    unfold val
    have hi : (val w s e % 16).toNat < s.M.length := by rw [k.m]; have := Int.emod_lt_of_pos (val w s e) (show (0 : Int) < 16 by decide); omega
    rw [List.getD_eq_getElem?_getD, List.getElem?_eq_getElem hi]
    exact k.mw _ (List.getElem_mem hi)
  | un o e ih => exact fun g => comp_wd k.w1 (ih g.2) (zero_wd k.w1)
  | bin o a b ia ib => exact fun g => comp_wd k.w1 (ia g.2.1) (ib g.2.2)
theorem un_ops {o : Str} (h : o ∈ (["not", "neg"] : List Str)) : o ∈ opsL := by
  simp only [List.mem_cons, List.not_mem_nil, or_false] at h
  unfold opsL
  rcases h with rfl | rfl <;> simp
theorem bin_ops {o : Str} (h : o ∈ pairs) : o ∈ opsL := by
  simp only [pairs, List.mem_cons, List.not_mem_nil, or_false] at h
  unfold opsL
  rcases h with rfl | rfl | rfl | rfl | rfl | rfl | rfl | rfl | rfl | rfl <;> simp
theorem ops_ne {o : Str} (h : o ∈ opsL) : (o = "int") = False ∧ (o = "var") = False ∧ (o = "load") = False := by
  simp only [opsL, List.mem_cons, List.not_mem_nil, or_false] at h
  rcases h with rfl | rfl | rfl | rfl | rfl | rfl | rfl | rfl | rfl | rfl | rfl | rfl <;> simp only [ne_add_sub, ne_add_mul, ne_add_and, ne_add_or, ne_add_xor, ne_add_shl, ne_add_shr, ne_add_less, ne_add_equal, ne_add_not, ne_add_neg, ne_add_int, ne_add_var, ne_add_load, ne_add_set, ne_add_write, ne_add_store, ne_add_go, ne_add_if, ne_add_return, ne_add_none, ne_sub_add, ne_sub_mul, ne_sub_and, ne_sub_or, ne_sub_xor, ne_sub_shl, ne_sub_shr, ne_sub_less, ne_sub_equal, ne_sub_not, ne_sub_neg, ne_sub_int, ne_sub_var, ne_sub_load, ne_sub_set, ne_sub_write, ne_sub_store, ne_sub_go, ne_sub_if, ne_sub_return, ne_sub_none, ne_mul_add, ne_mul_sub, ne_mul_and, ne_mul_or, ne_mul_xor, ne_mul_shl, ne_mul_shr, ne_mul_less, ne_mul_equal, ne_mul_not, ne_mul_neg, ne_mul_int, ne_mul_var, ne_mul_load, ne_mul_set, ne_mul_write, ne_mul_store, ne_mul_go, ne_mul_if, ne_mul_return, ne_mul_none, ne_and_add, ne_and_sub, ne_and_mul, ne_and_or, ne_and_xor, ne_and_shl, ne_and_shr, ne_and_less, ne_and_equal, ne_and_not, ne_and_neg, ne_and_int, ne_and_var, ne_and_load, ne_and_set, ne_and_write, ne_and_store, ne_and_go, ne_and_if, ne_and_return, ne_and_none, ne_or_add, ne_or_sub, ne_or_mul, ne_or_and, ne_or_xor, ne_or_shl, ne_or_shr, ne_or_less, ne_or_equal, ne_or_not, ne_or_neg, ne_or_int, ne_or_var, ne_or_load, ne_or_set, ne_or_write, ne_or_store, ne_or_go, ne_or_if, ne_or_return, ne_or_none, ne_xor_add, ne_xor_sub, ne_xor_mul, ne_xor_and, ne_xor_or, ne_xor_shl, ne_xor_shr, ne_xor_less, ne_xor_equal, ne_xor_not, ne_xor_neg, ne_xor_int, ne_xor_var, ne_xor_load, ne_xor_set, ne_xor_write, ne_xor_store, ne_xor_go, ne_xor_if, ne_xor_return, ne_xor_none, ne_shl_add, ne_shl_sub, ne_shl_mul, ne_shl_and, ne_shl_or, ne_shl_xor, ne_shl_shr, ne_shl_less, ne_shl_equal, ne_shl_not, ne_shl_neg, ne_shl_int, ne_shl_var, ne_shl_load, ne_shl_set, ne_shl_write, ne_shl_store, ne_shl_go, ne_shl_if, ne_shl_return, ne_shl_none, ne_shr_add, ne_shr_sub, ne_shr_mul, ne_shr_and, ne_shr_or, ne_shr_xor, ne_shr_shl, ne_shr_less, ne_shr_equal, ne_shr_not, ne_shr_neg, ne_shr_int, ne_shr_var, ne_shr_load, ne_shr_set, ne_shr_write, ne_shr_store, ne_shr_go, ne_shr_if, ne_shr_return, ne_shr_none, ne_less_add, ne_less_sub, ne_less_mul, ne_less_and, ne_less_or, ne_less_xor, ne_less_shl, ne_less_shr, ne_less_equal, ne_less_not, ne_less_neg, ne_less_int, ne_less_var, ne_less_load, ne_less_set, ne_less_write, ne_less_store, ne_less_go, ne_less_if, ne_less_return, ne_less_none, ne_equal_add, ne_equal_sub, ne_equal_mul, ne_equal_and, ne_equal_or, ne_equal_xor, ne_equal_shl, ne_equal_shr, ne_equal_less, ne_equal_not, ne_equal_neg, ne_equal_int, ne_equal_var, ne_equal_load, ne_equal_set, ne_equal_write, ne_equal_store, ne_equal_go, ne_equal_if, ne_equal_return, ne_equal_none, ne_not_add, ne_not_sub, ne_not_mul, ne_not_and, ne_not_or, ne_not_xor, ne_not_shl, ne_not_shr, ne_not_less, ne_not_equal, ne_not_neg, ne_not_int, ne_not_var, ne_not_load, ne_not_set, ne_not_write, ne_not_store, ne_not_go, ne_not_if, ne_not_return, ne_not_none, ne_neg_add, ne_neg_sub, ne_neg_mul, ne_neg_and, ne_neg_or, ne_neg_xor, ne_neg_shl, ne_neg_shr, ne_neg_less, ne_neg_equal, ne_neg_not, ne_neg_int, ne_neg_var, ne_neg_load, ne_neg_set, ne_neg_write, ne_neg_store, ne_neg_go, ne_neg_if, ne_neg_return, ne_neg_none, and_self]
theorem mem_at {w : Int} {s : Sto} (k : Ok w s) (x : Int) : s.M[(x % 16).toNat]? = some (s.M.getD (x % 16).toNat 0) := by
  have hi : (x % 16).toNat < s.M.length := by rw [k.m]; have := Int.emod_lt_of_pos x (show (0 : Int) < 16 by decide); omega
  rw [List.getD_eq_getElem?_getD, List.getElem?_eq_getElem hi]
  rfl
theorem item_mem {w : Int} {s : Sto} (k : Ok w s) (x : Int) {h : PH} : itemF (s.M.map PV.int) (.int (x % 16)) h = ok (.int (s.M.getD (x % 16).toNat 0)) h :=
  itemF_at (Int.emod_nonneg _ (by decide)) (by rw [List.getElem?_map, mem_at k x]; rfl)
theorem and15 {x : Int} : Builtin.bitAnd x 15 = x % 16 := bit_and (n := 4)
/-! ### the runner -/
def rFs (w : Int) (pb pv pm pw : Nat) (l : Int) (en : PV) (n : Int) : List (Str × PV) := [("width", .int w), ("blocks", .ref pb), ("variables", .ref pv), ("memory", .ref pm), ("writes", .ref pw), ("label", .int l), ("ending", en), ("steps", .int n)]
structure RH (bs : List Bk) (w : Int) (r pb pv pm pw : Nat) (l : Int) (en : PV) (n : Int) (s : Sto) (h : PH) : Prop where
  at_ : h[r]? = some (.ins "Runner" (rFs w pb pv pm pw l en n))
  hb : h[pb]? = some (.dic (bs.map fun b => (.int b.l, b.pv)))
  hv : h[pv]? = some (.dic (dI s.L))
  hm : h[pm]? = some (.lst (s.M.map PV.int))
  hw : h[pw]? = some (.lst (s.W.map PV.int))
  o1 : r < pb
  o2 : pb < pv
  o3 : pv < pm
  o4 : pm < pw
section
variable {bs : List Bk} {w : Int} {r pb pv pm pw : Nat} {l : Int} {en : PV} {n : Int} {s : Sto} {h h' : PH} {vars : List Int} {k : Nat}
theorem look_v : (rFs w pb pv pm pw l en n).lookup ("variables" : Str) = some (PV.ref pv) := rfl
theorem look_m : (rFs w pb pv pm pw l en n).lookup ("memory" : Str) = some (PV.ref pm) := rfl
theorem look_w : (rFs w pb pv pm pw l en n).lookup ("width" : Str) = some (PV.int w) := rfl
theorem look_b : (rFs w pb pv pm pw l en n).lookup ("blocks" : Str) = some (PV.ref pb) := rfl
theorem look_wr : (rFs w pb pv pm pw l en n).lookup ("writes" : Str) = some (PV.ref pw) := rfl
theorem look_l : (rFs w pb pv pm pw l en n).lookup ("label" : Str) = some (PV.int l) := rfl
theorem look_e : (rFs w pb pv pm pw l en n).lookup ("ending" : Str) = some en := rfl
theorem look_n : (rFs w pb pv pm pw l en n).lookup ("steps" : Str) = some (PV.int n) := rfl
theorem look_no1 : (rFs w pb pv pm pw l en n).lookup ("value" : Str) = none := rfl
theorem look_no2 : (rFs w pb pv pm pw l en n).lookup ("statement" : Str) = none := rfl
theorem look_no3 : (rFs w pb pv pm pw l en n).lookup ("block" : Str) = none := rfl
theorem RH.value {C : Str → List PV → PH → Out PV} {s' : PSt} {es : Es} (H : RH bs w r pb pv pm pw l en n s h) : umC C "Runner" "Runner.value" "value" es s' (.ref r) h = (evEs C es s' h).bnd fun xs h2 => C "Runner.value" (.ref r :: xs) h2 := umC_at H.at_ look_no1
theorem value_ok : ∀ (m : Nat) (e : X) (k : Nat), e.deep ≤ m → m + 3 ≤ k → e.good w vars → RH bs w r pb pv pm pw l en n s h → Ok w s → (evCall Lw.T k "Runner.value" [.ref r, e.pv] h).Ok fun v h' => v = .int (val w s e) ∧ h' = h := by
  intro m
  induction m with
  | zero => intro e k hd; exact absurd hd (by cases e <;> simp [X.deep])
  | succ m ih =>
  intro e k hd hk g H K
  obtain ⟨k, rfl⟩ : ∃ j, k = j + 1 := ⟨k - 1, by omega⟩
  have hS : (64 : Nat) ≤ sizeLine := by decide
  refine call_ok Lw.T_Runner_value rfl (by decide) ?_
  show (evSs (evCall Lw.T k) Lw.b_Runner_value [some (.ref r), some e.pv, none] h).Rt _
  unfold Lw.b_Runner_value
  have f1 := fldF_at (f := "variables") H.at_ look_v
  have f2 := fldF_at (f := "memory") H.at_ look_m
  have f3 := fldF_at (f := "width") H.at_ look_w
  cases e with
  | int i =>
    simp only [X.pv, bnd_bnd, bnd_sbnd, sbnd_seq, seq_seq, seqC_ap, ss_cons, ss_nil, s_asg, s_ret, s_ite, s_ex, s_for, s_whl, e_non, e_bl, e_int, e_str, e_var, e_bin, e_neg, e_cmp, e_not, e_tup, e_lst, e_dic0, e_sub, e_call, e_bi, e_mt, kindG_same, e_isi, e_inv, e_lrg, e_fld, e_mk, e_um, e_kcall, e_lgen, e_rpr, s_sfld, s_augF, e_lc, e_dc, wipeP, new, evEs, evT, evTs, evP, evI, evG, bnd_ok, sbnd_ok, seq_nx, seq_rt, to_nx, go_nx, go_ct, rt_rt, ok_ok, slot, item0, item1, item2, item3, sub_t, i_int, i_abs, i_lenT, c_eqI, c_neI, c_eqS, c_neS, c_lt, c_le, c_gt, c_ge, asB_bl, iteC_t, iteC_f, iteC_d, b_add, b_sub, b_mul, b_mod, List.getElem?_cons_succ, List.getElem?_cons_zero, List.set_cons_succ, List.set_cons_zero, decide_true, if_true]
    exact ⟨rfl, trivial⟩
  | var v =>
    simp only [X.pv, bnd_bnd, bnd_sbnd, sbnd_seq, seq_seq, seqC_ap, ss_cons, ss_nil, s_asg, s_ret, s_ite, s_ex, s_for, s_whl, e_non, e_bl, e_int, e_str, e_var, e_bin, e_neg, e_cmp, e_not, e_tup, e_lst, e_dic0, e_sub, e_call, e_bi, e_mt, kindG_same, e_isi, e_inv, e_lrg, e_fld, e_mk, e_um, e_kcall, e_lgen, e_rpr, s_sfld, s_augF, e_lc, e_dc, wipeP, new, evEs, evT, evTs, evP, evI, evG, bnd_ok, sbnd_ok, seq_nx, seq_rt, to_nx, go_nx, go_ct, rt_rt, ok_ok, slot, item0, item1, item2, item3, sub_t, i_int, i_abs, i_lenT, c_eqI, c_neI, c_eqS, c_neS, c_lt, c_le, c_gt, c_ge, asB_bl, iteC_t, iteC_f, iteC_d, b_add, b_sub, b_mul, b_mod, List.getElem?_cons_succ, List.getElem?_cons_zero, List.set_cons_succ, List.set_cons_zero, decide_true, if_true, decide_false, if_false, ne_var_add, ne_var_sub, ne_var_mul, ne_var_and, ne_var_or, ne_var_xor, ne_var_shl, ne_var_shr, ne_var_less, ne_var_equal, ne_var_not, ne_var_neg, ne_var_int, ne_var_load, ne_var_set, ne_var_write, ne_var_store, ne_var_go, ne_var_if, ne_var_return, ne_var_none, f1, mget_dI H.hv]
    exact ⟨rfl, trivial⟩
  | load e =>
    simp only [X.deep] at hd
    simp only [X.pv, bnd_bnd, bnd_sbnd, sbnd_seq, seq_seq, seqC_ap, ss_cons, ss_nil, s_asg, s_ret, s_ite, s_ex, s_for, s_whl, e_non, e_bl, e_int, e_str, e_var, e_bin, e_neg, e_cmp, e_not, e_tup, e_lst, e_dic0, e_sub, e_call, e_bi, e_mt, kindG_same, e_isi, e_inv, e_lrg, e_fld, e_mk, e_um, e_kcall, e_lgen, e_rpr, s_sfld, s_augF, e_lc, e_dc, wipeP, new, evEs, evT, evTs, evP, evI, evG, bnd_ok, sbnd_ok, seq_nx, seq_rt, to_nx, go_nx, go_ct, rt_rt, ok_ok, slot, item0, item1, item2, item3, sub_t, i_int, i_abs, i_lenT, c_eqI, c_neI, c_eqS, c_neS, c_lt, c_le, c_gt, c_ge, asB_bl, iteC_t, iteC_f, iteC_d, b_add, b_sub, b_mul, b_mod, List.getElem?_cons_succ, List.getElem?_cons_zero, List.set_cons_succ, List.set_cons_zero, decide_true, if_true, decide_false, if_false, ne_load_add, ne_load_sub, ne_load_mul, ne_load_and, ne_load_or, ne_load_xor, ne_load_shl, ne_load_shr, ne_load_less, ne_load_equal, ne_load_not, ne_load_neg, ne_load_int, ne_load_var, ne_load_set, ne_load_write, ne_load_store, ne_load_go, ne_load_if, ne_load_return, ne_load_none, f2, H.value]
    refine Out.Ok.rt (ih e k (by omega) (by omega) g H K) fun v h2 ⟨ev, eh⟩ => ?_
    subst ev eh
    simp only [bnd_bnd, bnd_sbnd, sbnd_seq, seq_seq, seqC_ap, ss_cons, ss_nil, s_asg, s_ret, s_ite, s_ex, s_for, s_whl, e_non, e_bl, e_int, e_str, e_var, e_bin, e_neg, e_cmp, e_not, e_tup, e_lst, e_dic0, e_sub, e_call, e_bi, e_mt, kindG_same, e_isi, e_inv, e_lrg, e_fld, e_mk, e_um, e_kcall, e_lgen, e_rpr, s_sfld, s_augF, e_lc, e_dc, wipeP, new, evEs, evT, evTs, evP, evI, evG, bnd_ok, sbnd_ok, seq_nx, seq_rt, to_nx, go_nx, go_ct, rt_rt, ok_ok, slot, item0, item1, item2, item3, sub_t, i_int, i_abs, i_lenT, c_eqI, c_neI, c_eqS, c_neS, c_lt, c_le, c_gt, c_ge, asB_bl, iteC_t, iteC_f, iteC_d, b_add, b_sub, b_mul, b_mod, b_and, and15, sub_l H.hm, item_mem K]
    exact ⟨rfl, trivial⟩
  | un o e =>
    simp only [X.deep] at hd
    obtain ⟨n1, n2, n3⟩ := ops_ne (un_ops g.1)
    simp only [X.pv, bnd_bnd, bnd_sbnd, sbnd_seq, seq_seq, seqC_ap, ss_cons, ss_nil, s_asg, s_ret, s_ite, s_ex, s_for, s_whl, e_non, e_bl, e_int, e_str, e_var, e_bin, e_neg, e_cmp, e_not, e_tup, e_lst, e_dic0, e_sub, e_call, e_bi, e_mt, kindG_same, e_isi, e_inv, e_lrg, e_fld, e_mk, e_um, e_kcall, e_lgen, e_rpr, s_sfld, s_augF, e_lc, e_dc, wipeP, new, evEs, evT, evTs, evP, evI, evG, bnd_ok, sbnd_ok, seq_nx, seq_rt, to_nx, go_nx, go_ct, rt_rt, ok_ok, slot, item0, item1, item2, item3, sub_t, i_int, i_abs, i_lenT, c_eqI, c_neI, c_eqS, c_neS, c_lt, c_le, c_gt, c_ge, asB_bl, iteC_t, iteC_f, iteC_d, b_add, b_sub, b_mul, b_mod, List.getElem?_cons_succ, List.getElem?_cons_zero, List.set_cons_succ, List.set_cons_zero, decide_true, if_true, decide_false, if_false, n1, n2, n3, f3, H.value]
    refine Out.Ok.rt (ih e k (by omega) (by omega) g.2 H K) fun v h2 ⟨ev, eh⟩ => ?_
    subst ev eh
    simp only [bnd_bnd, bnd_sbnd, sbnd_seq, seq_seq, seqC_ap, ss_cons, ss_nil, s_asg, s_ret, s_ite, s_ex, s_for, s_whl, e_non, e_bl, e_int, e_str, e_var, e_bin, e_neg, e_cmp, e_not, e_tup, e_lst, e_dic0, e_sub, e_call, e_bi, e_mt, kindG_same, e_isi, e_inv, e_lrg, e_fld, e_mk, e_um, e_kcall, e_lgen, e_rpr, s_sfld, s_augF, e_lc, e_dc, wipeP, new, evEs, evT, evTs, evP, evI, evG, bnd_ok, sbnd_ok, seq_nx, seq_rt, to_nx, go_nx, go_ct, rt_rt, ok_ok, slot, item0, item1, item2, item3, sub_t, i_int, i_abs, i_lenT, c_eqI, c_neI, c_eqS, c_neS, c_lt, c_le, c_gt, c_ge, asB_bl, iteC_t, iteC_f, iteC_d, b_add, b_sub, b_mul, b_mod, e_ite, List.getElem?_cons_succ, List.getElem?_cons_zero, List.length_cons, List.length_nil, show decide ((((0 + 1 + 1 : Nat) : Int)) = 3) = false from by decide, Bool.false_eq_true, if_false]
    refine Out.Ok.rt (comp_ok K.w1 K.w2 (val_wd K e g.2) (zero_wd K.w1) (by omega) (un_ops g.1)) fun v h2 ⟨ev, eh⟩ => ?_
    subst ev eh
    exact ⟨rfl, rfl⟩
  | bin o a b =>
    simp only [X.deep] at hd
    obtain ⟨n1, n2, n3⟩ := ops_ne (bin_ops g.1)
    simp only [X.pv, bnd_bnd, bnd_sbnd, sbnd_seq, seq_seq, seqC_ap, ss_cons, ss_nil, s_asg, s_ret, s_ite, s_ex, s_for, s_whl, e_non, e_bl, e_int, e_str, e_var, e_bin, e_neg, e_cmp, e_not, e_tup, e_lst, e_dic0, e_sub, e_call, e_bi, e_mt, kindG_same, e_isi, e_inv, e_lrg, e_fld, e_mk, e_um, e_kcall, e_lgen, e_rpr, s_sfld, s_augF, e_lc, e_dc, wipeP, new, evEs, evT, evTs, evP, evI, evG, bnd_ok, sbnd_ok, seq_nx, seq_rt, to_nx, go_nx, go_ct, rt_rt, ok_ok, slot, item0, item1, item2, item3, sub_t, i_int, i_abs, i_lenT, c_eqI, c_neI, c_eqS, c_neS, c_lt, c_le, c_gt, c_ge, asB_bl, iteC_t, iteC_f, iteC_d, b_add, b_sub, b_mul, b_mod, List.getElem?_cons_succ, List.getElem?_cons_zero, List.set_cons_succ, List.set_cons_zero, decide_true, if_true, decide_false, if_false, n1, n2, n3, f3, H.value]
    refine Out.Ok.rt (ih a k (by omega) (by omega) g.2.1 H K) fun v h2 ⟨ev, eh⟩ => ?_
    subst ev eh
    simp only [bnd_bnd, bnd_sbnd, sbnd_seq, seq_seq, seqC_ap, ss_cons, ss_nil, s_asg, s_ret, s_ite, s_ex, s_for, s_whl, e_non, e_bl, e_int, e_str, e_var, e_bin, e_neg, e_cmp, e_not, e_tup, e_lst, e_dic0, e_sub, e_call, e_bi, e_mt, kindG_same, e_isi, e_inv, e_lrg, e_fld, e_mk, e_um, e_kcall, e_lgen, e_rpr, s_sfld, s_augF, e_lc, e_dc, wipeP, new, evEs, evT, evTs, evP, evI, evG, bnd_ok, sbnd_ok, seq_nx, seq_rt, to_nx, go_nx, go_ct, rt_rt, ok_ok, slot, item0, item1, item2, item3, sub_t, i_int, i_abs, i_lenT, c_eqI, c_neI, c_eqS, c_neS, c_lt, c_le, c_gt, c_ge, asB_bl, iteC_t, iteC_f, iteC_d, b_add, b_sub, b_mul, b_mod, e_ite, List.length_cons, List.length_nil, show decide ((((0 + 1 + 1 + 1 : Nat) : Int)) = 3) = true from by decide, if_true, List.getElem?_cons_succ, List.getElem?_cons_zero, H.value]
    refine Out.Ok.rt (ih b k (by omega) (by omega) g.2.2 H K) fun v h2 ⟨ev, eh⟩ => ?_
    subst ev eh
    refine Out.Ok.rt (comp_ok K.w1 K.w2 (val_wd K a g.2.1) (val_wd K b g.2.2) (by omega) (bin_ops g.1)) fun v h2 ⟨ev, eh⟩ => ?_
    subst ev eh
    exact ⟨rfl, rfl⟩
theorem lvalue_ok : ∀ (m : Nat) (e : X) (k : Nat) (h : PH), e.deep ≤ m → m + 1 ≤ k → e.good w vars → h[pv]? = some (.dic (dI s.L)) → h[pm]? = some (.lst (s.M.map PV.int)) → Ok w s → (evCall Lw.T k "_law_value" [.int w, e.pv, .ref pv, .ref pm] h).Ok fun v h' => v = .int (val w s e) ∧ Fk h h' := by
  intro m
  induction m with
  | zero => intro e k h hd; exact absurd hd (by cases e <;> simp [X.deep])
  | succ m ih =>
  intro e k h hd hk g hv hm K
  obtain ⟨k, rfl⟩ : ∃ j, k = j + 1 := ⟨k - 1, by omega⟩
  refine call_ok Lw.T__law_value rfl (by decide) ?_
  show (evSs (evCall Lw.T k) Lw.b__law_value [some (.int w), some e.pv, some (.ref pv), some (.ref pm), none] h).Rt _
  unfold Lw.b__law_value
  cases e with
  | int i =>
    simp only [X.pv, bnd_bnd, bnd_sbnd, sbnd_seq, seq_seq, seqC_ap, ss_cons, ss_nil, s_asg, s_ret, s_ite, s_ex, s_for, s_whl, e_non, e_bl, e_int, e_str, e_var, e_bin, e_neg, e_cmp, e_not, e_tup, e_lst, e_dic0, e_sub, e_call, e_bi, e_mt, kindG_same, e_isi, e_inv, e_lrg, e_fld, e_mk, e_um, e_kcall, e_lgen, e_rpr, s_sfld, s_augF, e_lc, e_dc, wipeP, new, evEs, evT, evTs, evP, evI, evG, bnd_ok, sbnd_ok, seq_nx, seq_rt, to_nx, go_nx, go_ct, rt_rt, ok_ok, slot, item0, item1, item2, item3, sub_t, i_int, i_abs, i_lenT, c_eqI, c_neI, c_eqS, c_neS, c_lt, c_le, c_gt, c_ge, asB_bl, iteC_t, iteC_f, iteC_d, b_add, b_sub, b_mul, b_mod, List.getElem?_cons_succ, List.getElem?_cons_zero, List.set_cons_succ, List.set_cons_zero, decide_true, if_true]
    exact ⟨rfl, Fk.refl⟩
  | var v =>
    simp only [X.pv, bnd_bnd, bnd_sbnd, sbnd_seq, seq_seq, seqC_ap, ss_cons, ss_nil, s_asg, s_ret, s_ite, s_ex, s_for, s_whl, e_non, e_bl, e_int, e_str, e_var, e_bin, e_neg, e_cmp, e_not, e_tup, e_lst, e_dic0, e_sub, e_call, e_bi, e_mt, kindG_same, e_isi, e_inv, e_lrg, e_fld, e_mk, e_um, e_kcall, e_lgen, e_rpr, s_sfld, s_augF, e_lc, e_dc, wipeP, new, evEs, evT, evTs, evP, evI, evG, bnd_ok, sbnd_ok, seq_nx, seq_rt, to_nx, go_nx, go_ct, rt_rt, ok_ok, slot, item0, item1, item2, item3, sub_t, i_int, i_abs, i_lenT, c_eqI, c_neI, c_eqS, c_neS, c_lt, c_le, c_gt, c_ge, asB_bl, iteC_t, iteC_f, iteC_d, b_add, b_sub, b_mul, b_mod, List.getElem?_cons_succ, List.getElem?_cons_zero, List.set_cons_succ, List.set_cons_zero, decide_true, if_true, decide_false, if_false, ne_var_add, ne_var_sub, ne_var_mul, ne_var_and, ne_var_or, ne_var_xor, ne_var_shl, ne_var_shr, ne_var_less, ne_var_equal, ne_var_not, ne_var_neg, ne_var_int, ne_var_load, ne_var_set, ne_var_write, ne_var_store, ne_var_go, ne_var_if, ne_var_return, ne_var_none, mget_dI hv]
    exact ⟨rfl, Fk.refl⟩
  | load e =>
    simp only [X.deep] at hd
    simp only [X.pv, bnd_bnd, bnd_sbnd, sbnd_seq, seq_seq, seqC_ap, ss_cons, ss_nil, s_asg, s_ret, s_ite, s_ex, s_for, s_whl, e_non, e_bl, e_int, e_str, e_var, e_bin, e_neg, e_cmp, e_not, e_tup, e_lst, e_dic0, e_sub, e_call, e_bi, e_mt, kindG_same, e_isi, e_inv, e_lrg, e_fld, e_mk, e_um, e_kcall, e_lgen, e_rpr, s_sfld, s_augF, e_lc, e_dc, wipeP, new, evEs, evT, evTs, evP, evI, evG, bnd_ok, sbnd_ok, seq_nx, seq_rt, to_nx, go_nx, go_ct, rt_rt, ok_ok, slot, item0, item1, item2, item3, sub_t, i_int, i_abs, i_lenT, c_eqI, c_neI, c_eqS, c_neS, c_lt, c_le, c_gt, c_ge, asB_bl, iteC_t, iteC_f, iteC_d, b_add, b_sub, b_mul, b_mod, List.getElem?_cons_succ, List.getElem?_cons_zero, List.set_cons_succ, List.set_cons_zero, decide_true, if_true, decide_false, if_false, ne_load_add, ne_load_sub, ne_load_mul, ne_load_and, ne_load_or, ne_load_xor, ne_load_shl, ne_load_shr, ne_load_less, ne_load_equal, ne_load_not, ne_load_neg, ne_load_int, ne_load_var, ne_load_set, ne_load_write, ne_load_store, ne_load_go, ne_load_if, ne_load_return, ne_load_none]
    refine Out.Ok.rt (ih e k h (by omega) (by omega) g hv hm K) fun v h2 ⟨ev, F⟩ => ?_
    subst ev
    simp only [bnd_bnd, bnd_sbnd, sbnd_seq, seq_seq, seqC_ap, ss_cons, ss_nil, s_asg, s_ret, s_ite, s_ex, s_for, s_whl, e_non, e_bl, e_int, e_str, e_var, e_bin, e_neg, e_cmp, e_not, e_tup, e_lst, e_dic0, e_sub, e_call, e_bi, e_mt, kindG_same, e_isi, e_inv, e_lrg, e_fld, e_mk, e_um, e_kcall, e_lgen, e_rpr, s_sfld, s_augF, e_lc, e_dc, wipeP, new, evEs, evT, evTs, evP, evI, evG, bnd_ok, sbnd_ok, seq_nx, seq_rt, to_nx, go_nx, go_ct, rt_rt, ok_ok, slot, item0, item1, item2, item3, sub_t, i_int, i_abs, i_lenT, c_eqI, c_neI, c_eqS, c_neS, c_lt, c_le, c_gt, c_ge, asB_bl, iteC_t, iteC_f, iteC_d, b_add, b_sub, b_mul, b_mod, List.getElem?_cons_succ, List.getElem?_cons_zero, List.set_cons_succ, List.set_cons_zero, decide_true, if_true, b_mod (show (0 : Int) < 16 by decide), sub_l (F.at hm), item_mem K]
    exact ⟨rfl, F⟩
  | un o e =>
    simp only [X.deep] at hd
    obtain ⟨n1, n2, n3⟩ := ops_ne (un_ops g.1)
    simp only [X.pv, bnd_bnd, bnd_sbnd, sbnd_seq, seq_seq, seqC_ap, ss_cons, ss_nil, s_asg, s_ret, s_ite, s_ex, s_for, s_whl, e_non, e_bl, e_int, e_str, e_var, e_bin, e_neg, e_cmp, e_not, e_tup, e_lst, e_dic0, e_sub, e_call, e_bi, e_mt, kindG_same, e_isi, e_inv, e_lrg, e_fld, e_mk, e_um, e_kcall, e_lgen, e_rpr, s_sfld, s_augF, e_lc, e_dc, wipeP, new, evEs, evT, evTs, evP, evI, evG, bnd_ok, sbnd_ok, seq_nx, seq_rt, to_nx, go_nx, go_ct, rt_rt, ok_ok, slot, item0, item1, item2, item3, sub_t, i_int, i_abs, i_lenT, c_eqI, c_neI, c_eqS, c_neS, c_lt, c_le, c_gt, c_ge, asB_bl, iteC_t, iteC_f, iteC_d, b_add, b_sub, b_mul, b_mod, List.getElem?_cons_succ, List.getElem?_cons_zero, List.set_cons_succ, List.set_cons_zero, decide_true, if_true, decide_false, if_false, n1, n2, n3]
    refine Out.Ok.rt (ih e k h (by omega) (by omega) g.2 hv hm K) fun v h2 ⟨ev, F⟩ => ?_
    subst ev
    simp only [bnd_bnd, bnd_sbnd, sbnd_seq, seq_seq, seqC_ap, ss_cons, ss_nil, s_asg, s_ret, s_ite, s_ex, s_for, s_whl, e_non, e_bl, e_int, e_str, e_var, e_bin, e_neg, e_cmp, e_not, e_tup, e_lst, e_dic0, e_sub, e_call, e_bi, e_mt, kindG_same, e_isi, e_inv, e_lrg, e_fld, e_mk, e_um, e_kcall, e_lgen, e_rpr, s_sfld, s_augF, e_lc, e_dc, wipeP, new, evEs, evT, evTs, evP, evI, evG, bnd_ok, sbnd_ok, seq_nx, seq_rt, to_nx, go_nx, go_ct, rt_rt, ok_ok, slot, item0, item1, item2, item3, sub_t, i_int, i_abs, i_lenT, c_eqI, c_neI, c_eqS, c_neS, c_lt, c_le, c_gt, c_ge, asB_bl, iteC_t, iteC_f, iteC_d, b_add, b_sub, b_mul, b_mod, List.getElem?_cons_succ, List.getElem?_cons_zero, List.set_cons_succ, List.set_cons_zero, decide_false, if_false, n3, List.length_cons, List.length_nil, show decide ((((0 + 1 + 1 : Nat) : Int)) = 2) = true from by decide, show ((((0 + 1 + 1 : Nat) : Int)) = 2) = True from eq_true (by decide), if_true]
    refine Out.Ok.rt (lcomp_ok K.w1 K.w2 (val_wd K e g.2) (zero_wd K.w1) (by omega) (un_ops g.1)) fun v h3 ⟨ev, F3⟩ => ?_
    subst ev
    exact ⟨rfl, F.trans F3⟩
  | bin o a b =>
    simp only [X.deep] at hd
    obtain ⟨n1, n2, n3⟩ := ops_ne (bin_ops g.1)
    simp only [X.pv, bnd_bnd, bnd_sbnd, sbnd_seq, seq_seq, seqC_ap, ss_cons, ss_nil, s_asg, s_ret, s_ite, s_ex, s_for, s_whl, e_non, e_bl, e_int, e_str, e_var, e_bin, e_neg, e_cmp, e_not, e_tup, e_lst, e_dic0, e_sub, e_call, e_bi, e_mt, kindG_same, e_isi, e_inv, e_lrg, e_fld, e_mk, e_um, e_kcall, e_lgen, e_rpr, s_sfld, s_augF, e_lc, e_dc, wipeP, new, evEs, evT, evTs, evP, evI, evG, bnd_ok, sbnd_ok, seq_nx, seq_rt, to_nx, go_nx, go_ct, rt_rt, ok_ok, slot, item0, item1, item2, item3, sub_t, i_int, i_abs, i_lenT, c_eqI, c_neI, c_eqS, c_neS, c_lt, c_le, c_gt, c_ge, asB_bl, iteC_t, iteC_f, iteC_d, b_add, b_sub, b_mul, b_mod, List.getElem?_cons_succ, List.getElem?_cons_zero, List.set_cons_succ, List.set_cons_zero, decide_true, if_true, decide_false, if_false, n1, n2, n3]
    refine Out.Ok.rt (ih a k h (by omega) (by omega) g.2.1 hv hm K) fun v h2 ⟨ev, F⟩ => ?_
    subst ev
    simp only [bnd_bnd, bnd_sbnd, sbnd_seq, seq_seq, seqC_ap, ss_cons, ss_nil, s_asg, s_ret, s_ite, s_ex, s_for, s_whl, e_non, e_bl, e_int, e_str, e_var, e_bin, e_neg, e_cmp, e_not, e_tup, e_lst, e_dic0, e_sub, e_call, e_bi, e_mt, kindG_same, e_isi, e_inv, e_lrg, e_fld, e_mk, e_um, e_kcall, e_lgen, e_rpr, s_sfld, s_augF, e_lc, e_dc, wipeP, new, evEs, evT, evTs, evP, evI, evG, bnd_ok, sbnd_ok, seq_nx, seq_rt, to_nx, go_nx, go_ct, rt_rt, ok_ok, slot, item0, item1, item2, item3, sub_t, i_int, i_abs, i_lenT, c_eqI, c_neI, c_eqS, c_neS, c_lt, c_le, c_gt, c_ge, asB_bl, iteC_t, iteC_f, iteC_d, b_add, b_sub, b_mul, b_mod, List.getElem?_cons_succ, List.getElem?_cons_zero, List.set_cons_succ, List.set_cons_zero, decide_false, if_false, n3, List.length_cons, List.length_nil, show decide ((((0 + 1 + 1 + 1 : Nat) : Int)) = 2) = false from by decide, show ((((0 + 1 + 1 + 1 : Nat) : Int)) = 2) = False from eq_false (by decide), Bool.false_eq_true]
    refine Out.Ok.rt (ih b k h2 (by omega) (by omega) g.2.2 (F.at hv) (F.at hm) K) fun v h3 ⟨ev, F3⟩ => ?_
    subst ev
    refine Out.Ok.rt (lcomp_ok K.w1 K.w2 (val_wd K a g.2.1) (val_wd K b g.2.2) (by omega) (bin_ops g.1)) fun v h4 ⟨ev, F4⟩ => ?_
    subst ev
    exact ⟨rfl, (F.trans F3).trans F4⟩
end
end K03

set_option Elab.async false
set_option linter.all false
set_option maxRecDepth 100000
set_option maxHeartbeats 4000000
namespace MP
theorem call_nx {T : PySem.Str → Option Df} {k : Nat} {f : PySem.Str} {d : Df} {xs : List PV} {h : PH} {Q : PV → PH → Prop} (e : T f = some d) (hl : xs.length = d.np) (hn : d.np ≤ d.ns)
    (q : (evSs (evCall T k) d.body (xs.map some ++ List.replicate (d.ns - d.np) none) h).To fun _ h' => Q .non h') (hg : d.gen = none := by rfl) : (evCall T (k + 1) f xs h).Ok Q := by
  obtain ⟨v, h', e2, q⟩ := q.ex
  simp only [evCall, e, hl, hn, hg, e2]
  simp only [true_and, if_true]
  exact q
theorem fk_set {h0 h : PH} {l : Nat} {o : PO} (F : Fk h0 h) (hl : h0.length ≤ l) : Fk h0 (h.set l o) := ⟨by rw [List.length_set]; exact F.len, fun i hi => by rw [List.getElem?_set_ne (by omega)]; exact F.keep i hi⟩
end MP
namespace K03
open PySem MP Ar
open Out (ok bad)
/-- what a statement does -/
def exS (w : Int) (s : Sto) : Sm → Sto
  | .set v e => { s with L := putI s.L v (val w s e) }
  | .write e => { s with W := s.W ++ [val w s e] }
  | .store a b => { s with M := s.M.set (val w s a % 16).toNat (val w s b) }
def sz (s : Sto) : Nat := s.L.length + s.W.length
theorem sz_step {w : Int} {s : Sto} {st : Sm} : sz (exS w s st) ≤ sz s + 1 := by
  cases st with
  | set v e => have := put_len (L := s.L) (v := v) (x := val w s e); simp only [sz, exS]; omega
  | write e => simp only [sz, exS, List.length_append, List.length_cons, List.length_nil]; omega
  | store a b => simp only [sz, exS]; omega
theorem put_wd {w : Int} {L : List (Int × Int)} {v x : Int} (h : ∀ p ∈ L, Wd w p.2) (hx : Wd w x) : ∀ p ∈ putI L v x, Wd w p.2 := by
  intro p hp
  unfold putI at hp
  split at hp
  · obtain ⟨q, hq, rfl⟩ := List.mem_map.mp hp
    split
    · exact hx
    · exact h q hq
  · rcases List.mem_append.mp hp with q | q
    · exact h p q
    · have : p = (v, x) := by simpa using q
      subst this; exact hx
theorem ok_step {w : Int} {vars : List Int} {s : Sto} {st : Sm} (K : Ok w s) (g : st.good w vars) : Ok w (exS w s st) := by
  cases st with
  | set v e => exact ⟨K.m, K.mw, put_wd K.lw (val_wd K e g.2.1), K.w1, K.w2⟩
  | write e => exact ⟨K.m, K.mw, K.lw, K.w1, K.w2⟩
  | store a b =>
    refine ⟨by show (s.M.set _ _).length = 16; rw [List.length_set]; exact K.m, fun x hx => ?_, K.lw, K.w1, K.w2⟩
    rcases List.mem_or_eq_of_mem_set hx with q | q
    · exact K.mw x q
    · rw [q]; exact val_wd K b g.2.1
section
variable {bs : List Bk} {w : Int} {r pb pv pm pw : Nat} {l : Int} {en : PV} {n : Int} {s : Sto} {h h0 : PH} {vars : List Int} {k : Nat}
theorem RH.setV (H : RH bs w r pb pv pm pw l en n s h) (L : List (Int × Int)) : RH bs w r pb pv pm pw l en n { s with L := L } (h.set pv (.dic (dI L))) := by
  obtain ⟨a, b, c, d, e, o1, o2, o3, o4⟩ := H
  exact ⟨by rw [List.getElem?_set_ne (by omega)]; exact a, by rw [List.getElem?_set_ne (by omega)]; exact b, List.getElem?_set_self (lt_of_some c), by rw [List.getElem?_set_ne (by omega)]; exact d, by rw [List.getElem?_set_ne (by omega)]; exact e, o1, o2, o3, o4⟩
theorem RH.setM (H : RH bs w r pb pv pm pw l en n s h) (M : List Int) : RH bs w r pb pv pm pw l en n { s with M := M } (h.set pm (.lst (M.map PV.int))) := by
  obtain ⟨a, b, c, d, e, o1, o2, o3, o4⟩ := H
  exact ⟨by rw [List.getElem?_set_ne (by omega)]; exact a, by rw [List.getElem?_set_ne (by omega)]; exact b, by rw [List.getElem?_set_ne (by omega)]; exact c, List.getElem?_set_self (lt_of_some d), by rw [List.getElem?_set_ne (by omega)]; exact e, o1, o2, o3, o4⟩
theorem RH.setW (H : RH bs w r pb pv pm pw l en n s h) (W : List Int) : RH bs w r pb pv pm pw l en n { s with W := W } (h.set pw (.lst (W.map PV.int))) := by
  obtain ⟨a, b, c, d, e, o1, o2, o3, o4⟩ := H
  exact ⟨by rw [List.getElem?_set_ne (by omega)]; exact a, by rw [List.getElem?_set_ne (by omega)]; exact b, by rw [List.getElem?_set_ne (by omega)]; exact c, by rw [List.getElem?_set_ne (by omega)]; exact d, List.getElem?_set_self (lt_of_some e), o1, o2, o3, o4⟩
theorem RH.setR (H : RH bs w r pb pv pm pw l en n s h) (l2 : Int) (en2 : PV) (n2 : Int) : RH bs w r pb pv pm pw l2 en2 n2 s (h.set r (.ins "Runner" (rFs w pb pv pm pw l2 en2 n2))) := by
  obtain ⟨a, b, c, d, e, o1, o2, o3, o4⟩ := H
  exact ⟨List.getElem?_set_self (lt_of_some a), by rw [List.getElem?_set_ne (by omega)]; exact b, by rw [List.getElem?_set_ne (by omega)]; exact c, by rw [List.getElem?_set_ne (by omega)]; exact d, by rw [List.getElem?_set_ne (by omega)]; exact e, o1, o2, o3, o4⟩
theorem app_w {l : Nat} {W : List Int} {x : Int} {h : PH} (e : h[l]? = some (.lst (W.map PV.int))) (hz : W.length < 1000) : mtF .append (.ref l) [.int x] h = ok .non (h.set l (.lst ((W ++ [x]).map PV.int))) := by
  have hS : (1000 : Nat) ≤ sizeLine := by decide
  simp only [mtF, e, lstM]
  rw [if_pos (by rw [List.length_map]; omega), List.map_append]
  rfl
theorem set_mem {l : Nat} {s : Sto} {x y : Int} {h : PH} (K : Ok w s) (e : h[l]? = some (.lst (s.M.map PV.int))) : setF (.ref l) (.int (x % 16)) (.int y) h = ok () (h.set l (.lst ((s.M.set (x % 16).toNat y).map PV.int))) := by
  have h1 := Int.emod_nonneg x (show (16 : Int) ≠ 0 by decide)
  have h2 := Int.emod_lt_of_pos x (show (0 : Int) < 16 by decide)
  rw [set_lst e h1 (by rw [List.length_map, K.m]; exact h2), List.map_set]
theorem RH.st {C : Str → List PV → PH → Out PV} {s' : PSt} {es : Es} (H : RH bs w r pb pv pm pw l en n s h) : umC C "Runner" "Runner.statement" "statement" es s' (.ref r) h = (evEs C es s' h).bnd fun xs h2 => C "Runner.statement" (.ref r :: xs) h2 := umC_at H.at_ look_no2
theorem stmt_ok {st : Sm} (hk : 7 ≤ k) (H : RH bs w r pb pv pm pw l en n s h) (K : Ok w s) (g : st.good w vars) (hz : sz s < 999) (hn : h0.length ≤ r) (F : Fk h0 h) :
    (evCall Lw.T k "Runner.statement" [.ref r, st.pv] h).Ok fun v h' => RH bs w r pb pv pm pw l en n (exS w s st) h' ∧ Fk h0 h' := by
  obtain ⟨k, rfl⟩ : ∃ j, k = j + 1 := ⟨k - 1, by omega⟩
  have hz2 : s.L.length + s.W.length < 999 := hz
  have q1 := H.o1; have q2 := H.o2; have q3 := H.o3; have q4 := H.o4
  refine call_nx Lw.T_Runner_statement rfl (by decide) ?_
  show (evSs (evCall Lw.T k) Lw.b_Runner_statement [some (.ref r), some st.pv, none] h).To _
  unfold Lw.b_Runner_statement
  have f1 := fldF_at (f := "variables") H.at_ look_v
  have f2 := fldF_at (f := "memory") H.at_ look_m
  have f3 := fldF_at (f := "writes") H.at_ look_wr
  cases st with
  | set v e =>
    simp only [Sm.pv, bnd_bnd, bnd_sbnd, sbnd_seq, seq_seq, seqC_ap, ss_cons, ss_nil, s_asg, s_ret, s_ite, s_ex, s_for, s_whl, e_non, e_bl, e_int, e_str, e_var, e_bin, e_neg, e_cmp, e_not, e_tup, e_lst, e_dic0, e_sub, e_call, e_bi, e_mt, kindG_same, e_isi, e_inv, e_lrg, e_fld, e_mk, e_um, e_kcall, e_lgen, e_rpr, s_sfld, s_augF, e_lc, e_dc, wipeP, new, evEs, evT, evTs, evP, evI, evG, bnd_ok, sbnd_ok, seq_nx, seq_rt, to_nx, go_nx, go_ct, rt_rt, ok_ok, slot, item0, item1, item2, item3, sub_t, i_int, i_abs, i_lenT, c_eqI, c_neI, c_eqS, c_neS, c_lt, c_le, c_gt, c_ge, asB_bl, iteC_t, iteC_f, iteC_d, b_add, b_sub, b_mul, b_mod, List.getElem?_cons_succ, List.getElem?_cons_zero, List.set_cons_succ, List.set_cons_zero, decide_true, if_true, H.value]
    refine Out.Ok.to (value_ok 3 e k g.2.2 (by omega) g.2.1 H K) fun v2 h2 ⟨ev, eh⟩ => ?_
    subst ev eh
    simp only [bnd_bnd, bnd_sbnd, sbnd_seq, seq_seq, seqC_ap, ss_cons, ss_nil, s_asg, s_ret, s_ite, s_ex, s_for, s_whl, e_non, e_bl, e_int, e_str, e_var, e_bin, e_neg, e_cmp, e_not, e_tup, e_lst, e_dic0, e_sub, e_call, e_bi, e_mt, kindG_same, e_isi, e_inv, e_lrg, e_fld, e_mk, e_um, e_kcall, e_lgen, e_rpr, s_sfld, s_augF, e_lc, e_dc, wipeP, new, evEs, evT, evTs, evP, evI, evG, bnd_ok, sbnd_ok, seq_nx, seq_rt, to_nx, go_nx, go_ct, rt_rt, ok_ok, slot, item0, item1, item2, item3, sub_t, i_int, i_abs, i_lenT, c_eqI, c_neI, c_eqS, c_neS, c_lt, c_le, c_gt, c_ge, asB_bl, iteC_t, iteC_f, iteC_d, b_add, b_sub, b_mul, b_mod, f1, List.getElem?_cons_succ, List.getElem?_cons_zero, set_dI H.hv (show s.L.length < 1000 by omega)]
    exact ⟨H.setV _, fk_set F (by omega)⟩
  | write e =>
    simp only [Sm.pv, bnd_bnd, bnd_sbnd, sbnd_seq, seq_seq, seqC_ap, ss_cons, ss_nil, s_asg, s_ret, s_ite, s_ex, s_for, s_whl, e_non, e_bl, e_int, e_str, e_var, e_bin, e_neg, e_cmp, e_not, e_tup, e_lst, e_dic0, e_sub, e_call, e_bi, e_mt, kindG_same, e_isi, e_inv, e_lrg, e_fld, e_mk, e_um, e_kcall, e_lgen, e_rpr, s_sfld, s_augF, e_lc, e_dc, wipeP, new, evEs, evT, evTs, evP, evI, evG, bnd_ok, sbnd_ok, seq_nx, seq_rt, to_nx, go_nx, go_ct, rt_rt, ok_ok, slot, item0, item1, item2, item3, sub_t, i_int, i_abs, i_lenT, c_eqI, c_neI, c_eqS, c_neS, c_lt, c_le, c_gt, c_ge, asB_bl, iteC_t, iteC_f, iteC_d, b_add, b_sub, b_mul, b_mod, List.getElem?_cons_succ, List.getElem?_cons_zero, List.set_cons_succ, List.set_cons_zero, decide_true, if_true, decide_false, if_false, ne_write_add, ne_write_sub, ne_write_mul, ne_write_and, ne_write_or, ne_write_xor, ne_write_shl, ne_write_shr, ne_write_less, ne_write_equal, ne_write_not, ne_write_neg, ne_write_int, ne_write_var, ne_write_load, ne_write_set, ne_write_store, ne_write_go, ne_write_if, ne_write_return, ne_write_none, f3, H.value]
    refine Out.Ok.to (value_ok 3 e k g.2 (by omega) g.1 H K) fun v2 h2 ⟨ev, eh⟩ => ?_
    subst ev eh
    simp only [bnd_bnd, bnd_sbnd, sbnd_seq, seq_seq, seqC_ap, ss_cons, ss_nil, s_asg, s_ret, s_ite, s_ex, s_for, s_whl, e_non, e_bl, e_int, e_str, e_var, e_bin, e_neg, e_cmp, e_not, e_tup, e_lst, e_dic0, e_sub, e_call, e_bi, e_mt, kindG_same, e_isi, e_inv, e_lrg, e_fld, e_mk, e_um, e_kcall, e_lgen, e_rpr, s_sfld, s_augF, e_lc, e_dc, wipeP, new, evEs, evT, evTs, evP, evI, evG, bnd_ok, sbnd_ok, seq_nx, seq_rt, to_nx, go_nx, go_ct, rt_rt, ok_ok, slot, item0, item1, item2, item3, sub_t, i_int, i_abs, i_lenT, c_eqI, c_neI, c_eqS, c_neS, c_lt, c_le, c_gt, c_ge, asB_bl, iteC_t, iteC_f, iteC_d, b_add, b_sub, b_mul, b_mod, app_w H.hw (show s.W.length < 1000 by omega)]
    exact ⟨H.setW _, fk_set F (by omega)⟩
  | store a b =>
    simp only [Sm.pv, bnd_bnd, bnd_sbnd, sbnd_seq, seq_seq, seqC_ap, ss_cons, ss_nil, s_asg, s_ret, s_ite, s_ex, s_for, s_whl, e_non, e_bl, e_int, e_str, e_var, e_bin, e_neg, e_cmp, e_not, e_tup, e_lst, e_dic0, e_sub, e_call, e_bi, e_mt, kindG_same, e_isi, e_inv, e_lrg, e_fld, e_mk, e_um, e_kcall, e_lgen, e_rpr, s_sfld, s_augF, e_lc, e_dc, wipeP, new, evEs, evT, evTs, evP, evI, evG, bnd_ok, sbnd_ok, seq_nx, seq_rt, to_nx, go_nx, go_ct, rt_rt, ok_ok, slot, item0, item1, item2, item3, sub_t, i_int, i_abs, i_lenT, c_eqI, c_neI, c_eqS, c_neS, c_lt, c_le, c_gt, c_ge, asB_bl, iteC_t, iteC_f, iteC_d, b_add, b_sub, b_mul, b_mod, List.getElem?_cons_succ, List.getElem?_cons_zero, List.set_cons_succ, List.set_cons_zero, decide_true, if_true, decide_false, if_false, ne_store_add, ne_store_sub, ne_store_mul, ne_store_and, ne_store_or, ne_store_xor, ne_store_shl, ne_store_shr, ne_store_less, ne_store_equal, ne_store_not, ne_store_neg, ne_store_int, ne_store_var, ne_store_load, ne_store_set, ne_store_write, ne_store_go, ne_store_if, ne_store_return, ne_store_none, H.value]
    refine Out.Ok.to (value_ok 3 a k g.1.2 (by omega) g.1.1 H K) fun v2 h2 ⟨ev, eh⟩ => ?_
    subst ev eh
    simp only [bnd_bnd, bnd_sbnd, sbnd_seq, seq_seq, seqC_ap, ss_cons, ss_nil, s_asg, s_ret, s_ite, s_ex, s_for, s_whl, e_non, e_bl, e_int, e_str, e_var, e_bin, e_neg, e_cmp, e_not, e_tup, e_lst, e_dic0, e_sub, e_call, e_bi, e_mt, kindG_same, e_isi, e_inv, e_lrg, e_fld, e_mk, e_um, e_kcall, e_lgen, e_rpr, s_sfld, s_augF, e_lc, e_dc, wipeP, new, evEs, evT, evTs, evP, evI, evG, bnd_ok, sbnd_ok, seq_nx, seq_rt, to_nx, go_nx, go_ct, rt_rt, ok_ok, slot, item0, item1, item2, item3, sub_t, i_int, i_abs, i_lenT, c_eqI, c_neI, c_eqS, c_neS, c_lt, c_le, c_gt, c_ge, asB_bl, iteC_t, iteC_f, iteC_d, b_add, b_sub, b_mul, b_mod, b_and, and15, List.getElem?_cons_succ, List.getElem?_cons_zero, List.set_cons_succ, List.set_cons_zero, H.value]
    refine Out.Ok.to (value_ok 3 b k g.2.2 (by omega) g.2.1 H K) fun v2 h2 ⟨ev, eh⟩ => ?_
    subst ev eh
    simp only [bnd_bnd, bnd_sbnd, sbnd_seq, seq_seq, seqC_ap, ss_cons, ss_nil, s_asg, s_ret, s_ite, s_ex, s_for, s_whl, e_non, e_bl, e_int, e_str, e_var, e_bin, e_neg, e_cmp, e_not, e_tup, e_lst, e_dic0, e_sub, e_call, e_bi, e_mt, kindG_same, e_isi, e_inv, e_lrg, e_fld, e_mk, e_um, e_kcall, e_lgen, e_rpr, s_sfld, s_augF, e_lc, e_dc, wipeP, new, evEs, evT, evTs, evP, evI, evG, bnd_ok, sbnd_ok, seq_nx, seq_rt, to_nx, go_nx, go_ct, rt_rt, ok_ok, slot, item0, item1, item2, item3, sub_t, i_int, i_abs, i_lenT, c_eqI, c_neI, c_eqS, c_neS, c_lt, c_le, c_gt, c_ge, asB_bl, iteC_t, iteC_f, iteC_d, b_add, b_sub, b_mul, b_mod, f2, List.getElem?_cons_succ, List.getElem?_cons_zero, set_mem K H.hm]
    exact ⟨H.setM _, fk_set F (by omega)⟩
/-! blocks -/
theorem bk_eq : ∀ {bs : List Bk}, (bs.map Bk.l).Nodup → ∀ {b c : Bk}, b ∈ bs → c ∈ bs → b.l = c.l → b = c
  | [], _, _, _, h, _, _ => by cases h
  | x :: r, nd, b, c, hb, hc, e => by
    have nd' := List.nodup_cons.mp (by simpa using nd : (x.l :: r.map Bk.l).Nodup)
    rcases List.mem_cons.mp hb with p1 | p1
    · rcases List.mem_cons.mp hc with p2 | p2
      · rw [p1, p2]
      · exact absurd (List.mem_map.mpr ⟨c, p2, by rw [← e, p1]⟩) nd'.1
    · rcases List.mem_cons.mp hc with p2 | p2
      · exact absurd (List.mem_map.mpr ⟨b, p1, by rw [e, p2]⟩) nd'.1
      · exact bk_eq nd'.2 p1 p2 e
theorem dGet_map {G : Bk → PV} : ∀ {bs : List Bk} {b : Bk}, (bs.map Bk.l).Nodup → b ∈ bs → dGet (bs.map fun b => (.int b.l, G b)) (.int b.l) = some (G b)
  | [], _, _, h => by cases h
  | x :: r, b, nd, hb => by
    have nd' := List.nodup_cons.mp (by simpa using nd : (x.l :: r.map Bk.l).Nodup)
    show (if keyEq (.int x.l) (.int b.l) = true then some (G x) else dGet (r.map fun b => (.int b.l, G b)) (.int b.l)) = some (G b)
    by_cases e : x.l = b.l
    · have : x = b := bk_eq nd (by simp) hb e
      subst this
      simp [keyEq]
    · rw [if_neg (by simpa [keyEq] using e)]
      rcases List.mem_cons.mp hb with p1 | p1
      · exact absurd (by rw [p1]) e
      · exact dGet_map nd'.2 p1
theorem look_map {G : Bk → PV} {b : Bk} (nd : (bs.map Bk.l).Nodup) (hb : b ∈ bs) : lookF (bs.map fun b => (.int b.l, G b)) (.int b.l) h = ok (G b) h := by
  simp only [lookF, isKey, if_true, dGet_map nd hb]
structure Cfg where
  l : Int
  s : Sto
  fin : Option Int
  acc : List Int
def enPv : Option Int → PV
  | none => .tup [.str "none"]
  | some v => .tup [.str "return", .int v]
def exB (w : Int) (s : Sto) (b : Bk) : Sto := b.ss.foldl (exS w) s
def stepB (w : Int) (c : Cfg) (b : Bk) : Cfg := match b.en with
  | .go l => ⟨l, exB w c.s b, none, c.acc ++ [c.l]⟩
  | .br e x y => ⟨if val w (exB w c.s b) e = 0 then y else x, exB w c.s b, none, c.acc ++ [c.l]⟩
  | .ret e => ⟨c.l, exB w c.s b, some (val w (exB w c.s b) e), c.acc ++ [c.l]⟩
theorem exB_ok {b : Bk} (K : Ok w s) (g : ∀ st ∈ b.ss, st.good w vars) : Ok w (exB w s b) ∧ sz (exB w s b) ≤ sz s + b.ss.length := by
  unfold exB
  generalize b.ss = ss at g
  induction ss generalizing s with
  | nil => exact ⟨K, Nat.le_refl _⟩
  | cons st r ih =>
    have := ih (ok_step K (g st (by simp))) fun x hx => g x (List.mem_cons_of_mem _ hx)
    have z := sz_step (w := w) (s := s) (st := st)
    refine ⟨this.1, ?_⟩
    have := this.2
    simp only [List.foldl_cons, List.length_cons]
    omega
theorem block_ok {b : Bk} {c : Cfg} (hk : 9 ≤ k) (nd : (bs.map Bk.l).Nodup) (hb : b ∈ bs) (hl : b.l = c.l) (H : RH bs w r pb pv pm pw c.l (enPv c.fin) c.acc.length c.s h) (K : Ok w c.s) (g : ∀ st ∈ b.ss, st.good w vars)
    (ge : match b.en with | .ret e => e.good w vars ∧ e.deep ≤ 3 | .go _ => True | .br e _ _ => e.good w vars ∧ e.deep ≤ 3) (hf : c.fin = none) (hz : sz c.s + b.ss.length < 990) (hn : h0.length ≤ r) (F : Fk h0 h) :
    (evCall Lw.T k "Runner.block" [.ref r] h).Ok fun v h' => RH bs w r pb pv pm pw (stepB w c b).l (enPv (stepB w c b).fin) (stepB w c b).acc.length (stepB w c b).s h' ∧ Fk h0 h' := by
  obtain ⟨k, rfl⟩ : ∃ j, k = j + 1 := ⟨k - 1, by omega⟩
  have q1 := H.o1; have q2 := H.o2; have q3 := H.o3; have q4 := H.o4
  have hbv : b.pv = .tup [.int b.l, .tup (b.ss.map Sm.pv), b.en.pv] := rfl
  have i1 : ∀ hh, subF b.pv (.int 1) hh = ok (.tup (b.ss.map Sm.pv)) hh := fun hh => by rw [hbv]; simp only [sub_t, item1]
  have i2 : ∀ hh, subF b.pv (.int 2) hh = ok b.en.pv hh := fun hh => by rw [hbv]; simp only [sub_t, item2]
  refine call_nx Lw.T_Runner_block rfl (by decide) ?_
  show (evSs (evCall Lw.T k) Lw.b_Runner_block [some (.ref r), none, none, none] h).To _
  unfold Lw.b_Runner_block
  have f1 := fldF_at (f := "blocks") H.at_ look_b
  have f2 := fldF_at (f := "label") H.at_ look_l
  have f3 := fldF_at (f := "steps") H.at_ look_n
  have lk : lookF (bs.map fun b => (.int b.l, b.pv)) (.int c.l) h = ok b.pv h := by rw [← hl]; exact look_map nd hb
  have fs : fldS "Runner" "steps" (.ref r) (.int ((c.acc.length : Int) + 1)) h = ok () (h.set r (.ins "Runner" (rFs w pb pv pm pw c.l (enPv c.fin) ((c.acc.length : Int) + 1)))) := fldS_at H.at_ (by show 8 < 1000; decide)
  simp only [bnd_bnd, bnd_sbnd, sbnd_seq, seq_seq, seqC_ap, ss_cons, ss_nil, s_asg, s_ret, s_ite, s_ex, s_for, s_whl, e_non, e_bl, e_int, e_str, e_var, e_bin, e_neg, e_cmp, e_not, e_tup, e_lst, e_dic0, e_sub, e_call, e_bi, e_mt, kindG_same, e_isi, e_inv, e_lrg, e_fld, e_mk, e_um, e_kcall, e_lgen, e_rpr, s_sfld, s_augF, e_lc, e_dc, wipeP, new, evEs, evT, evTs, evP, evI, evG, bnd_ok, sbnd_ok, seq_nx, seq_rt, to_nx, go_nx, go_ct, rt_rt, ok_ok, slot, item0, item1, item2, item3, sub_t, i_int, i_abs, i_lenT, c_eqI, c_neI, c_eqS, c_neS, c_lt, c_le, c_gt, c_ge, asB_bl, iteC_t, iteC_f, iteC_d, b_add, b_sub, b_mul, b_mod, List.getElem?_cons_succ, List.getElem?_cons_zero, List.set_cons_succ, List.set_cons_zero, f1, f2, sub_d H.hb, lk, f3, addI, fs, i1]
  have H1 := H.setR c.l (enPv c.fin) ((c.acc.length : Int) + 1)
  have F1 : Fk h0 (h.set r (.ins "Runner" (rFs w pb pv pm pw c.l (enPv c.fin) ((c.acc.length : Int) + 1)))) := fk_set F hn
  generalize h.set r (.ins "Runner" (rFs w pb pv pm pw c.l (enPv c.fin) ((c.acc.length : Int) + 1))) = h1 at H1 F1 ⊢
  refine SO.To.to (for_vals (fun i s' h' => ∃ a2, s' = [some (.ref r), some b.pv, a2, none] ∧ RH bs w r pb pv pm pw c.l (enPv c.fin) ((c.acc.length : Int) + 1) ((b.ss.take i).foldl (exS w) c.s) h' ∧ Ok w ((b.ss.take i).foldl (exS w) c.s) ∧ sz ((b.ss.take i).foldl (exS w) c.s) ≤ sz c.s + i ∧ Fk h0 h') ⟨none, rfl, H1, K, Nat.le_refl _, F1⟩
    fun i x s' h' hx ⟨a2, es, Hi, Ki, zi, Fi⟩ => ?_) fun s' h' ⟨a2, es, Hi, Ki, zi, Fi⟩ => ?_
  · subst es
    have hi := lt_of_some hx
    rw [List.length_map] at hi
    rw [List.getElem?_map, Option.map_eq_some_iff] at hx
    obtain ⟨st, hs, rfl⟩ := hx
    have etk : b.ss.take (i + 1) = b.ss.take i ++ [st] := by rw [List.take_add_one, hs]; rfl
    have gs := g st (List.mem_of_getElem? hs)
    simp only [bnd_bnd, bnd_sbnd, sbnd_seq, seq_seq, seqC_ap, ss_cons, ss_nil, s_asg, s_ret, s_ite, s_ex, s_for, s_whl, e_non, e_bl, e_int, e_str, e_var, e_bin, e_neg, e_cmp, e_not, e_tup, e_lst, e_dic0, e_sub, e_call, e_bi, e_mt, kindG_same, e_isi, e_inv, e_lrg, e_fld, e_mk, e_um, e_kcall, e_lgen, e_rpr, s_sfld, s_augF, e_lc, e_dc, wipeP, new, evEs, evT, evTs, evP, evI, evG, bnd_ok, sbnd_ok, seq_nx, seq_rt, to_nx, go_nx, go_ct, rt_rt, ok_ok, slot, item0, item1, item2, item3, sub_t, i_int, i_abs, i_lenT, c_eqI, c_neI, c_eqS, c_neS, c_lt, c_le, c_gt, c_ge, asB_bl, iteC_t, iteC_f, iteC_d, b_add, b_sub, b_mul, b_mod, List.getElem?_cons_succ, List.getElem?_cons_zero, List.set_cons_succ, List.set_cons_zero, Hi.st]
    refine Out.Ok.go (stmt_ok (by omega) Hi Ki gs (by omega) hn Fi) fun v h2 ⟨H2, F2⟩ => ?_
    simp only [bnd_bnd, bnd_sbnd, sbnd_seq, seq_seq, seqC_ap, ss_cons, ss_nil, s_asg, s_ret, s_ite, s_ex, s_for, s_whl, e_non, e_bl, e_int, e_str, e_var, e_bin, e_neg, e_cmp, e_not, e_tup, e_lst, e_dic0, e_sub, e_call, e_bi, e_mt, kindG_same, e_isi, e_inv, e_lrg, e_fld, e_mk, e_um, e_kcall, e_lgen, e_rpr, s_sfld, s_augF, e_lc, e_dc, wipeP, new, evEs, evT, evTs, evP, evI, evG, bnd_ok, sbnd_ok, seq_nx, seq_rt, to_nx, go_nx, go_ct, rt_rt, ok_ok, slot, item0, item1, item2, item3, sub_t, i_int, i_abs, i_lenT, c_eqI, c_neI, c_eqS, c_neS, c_lt, c_le, c_gt, c_ge, asB_bl, iteC_t, iteC_f, iteC_d, b_add, b_sub, b_mul, b_mod]
    rw [etk, List.foldl_append]
    have z := sz_step (w := w) (s := (b.ss.take i).foldl (exS w) c.s) (st := st)
    exact ⟨_, rfl, H2, ok_step Ki gs, by simp only [List.foldl_cons, List.foldl_nil]; omega, F2⟩
  · subst es
    rw [List.length_map, List.take_length] at Hi Ki
    have f4 : ∀ l2 : Int, fldS "Runner" "label" (.ref r) (.int l2) h' = ok () (h'.set r (.ins "Runner" (rFs w pb pv pm pw l2 (enPv c.fin) ((c.acc.length : Int) + 1)))) := fun l2 => fldS_at Hi.at_ (by show 8 < 1000; decide)
    have f5 : ∀ en2 : PV, fldS "Runner" "ending" (.ref r) en2 h' = ok () (h'.set r (.ins "Runner" (rFs w pb pv pm pw c.l en2 ((c.acc.length : Int) + 1)))) := fun l2 => fldS_at Hi.at_ (by show 8 < 1000; decide)
    have ea : (((c.acc ++ [c.l]).length : Nat) : Int) = (c.acc.length : Int) + 1 := by simp
    have qS : 2 ≤ sizeLine := by decide
    unfold stepB
    cases hen : b.en with
    | go l2 =>
      simp only [bnd_bnd, bnd_sbnd, sbnd_seq, seq_seq, seqC_ap, ss_cons, ss_nil, s_asg, s_ret, s_ite, s_ex, s_for, s_whl, e_non, e_bl, e_int, e_str, e_var, e_bin, e_neg, e_cmp, e_not, e_tup, e_lst, e_dic0, e_sub, e_call, e_bi, e_mt, kindG_same, e_isi, e_inv, e_lrg, e_fld, e_mk, e_um, e_kcall, e_lgen, e_rpr, s_sfld, s_augF, e_lc, e_dc, wipeP, new, evEs, evT, evTs, evP, evI, evG, bnd_ok, sbnd_ok, seq_nx, seq_rt, to_nx, go_nx, go_ct, rt_rt, ok_ok, slot, item0, item1, item2, item3, sub_t, i_int, i_abs, i_lenT, c_eqI, c_neI, c_eqS, c_neS, c_lt, c_le, c_gt, c_ge, asB_bl, iteC_t, iteC_f, iteC_d, b_add, b_sub, b_mul, b_mod, List.getElem?_cons_succ, List.getElem?_cons_zero, List.set_cons_succ, List.set_cons_zero, i2, hen, En.pv, decide_true, if_true, f4]
      rw [ea]
      have := Hi.setR l2 (enPv none) ((c.acc.length : Int) + 1)
      rw [hf]
      exact ⟨this, fk_set Fi hn⟩
    | br e x y =>
      rw [hen] at ge
      simp only [bnd_bnd, bnd_sbnd, sbnd_seq, seq_seq, seqC_ap, ss_cons, ss_nil, s_asg, s_ret, s_ite, s_ex, s_for, s_whl, e_non, e_bl, e_int, e_str, e_var, e_bin, e_neg, e_cmp, e_not, e_tup, e_lst, e_dic0, e_sub, e_call, e_bi, e_mt, kindG_same, e_isi, e_inv, e_lrg, e_fld, e_mk, e_um, e_kcall, e_lgen, e_rpr, s_sfld, s_augF, e_lc, e_dc, wipeP, new, evEs, evT, evTs, evP, evI, evG, bnd_ok, sbnd_ok, seq_nx, seq_rt, to_nx, go_nx, go_ct, rt_rt, ok_ok, slot, item0, item1, item2, item3, sub_t, i_int, i_abs, i_lenT, c_eqI, c_neI, c_eqS, c_neS, c_lt, c_le, c_gt, c_ge, asB_bl, iteC_t, iteC_f, iteC_d, b_add, b_sub, b_mul, b_mod, List.getElem?_cons_succ, List.getElem?_cons_zero, List.set_cons_succ, List.set_cons_zero, i2, hen, En.pv, decide_true, if_true, decide_false, if_false, ne_if_add, ne_if_sub, ne_if_mul, ne_if_and, ne_if_or, ne_if_xor, ne_if_shl, ne_if_shr, ne_if_less, ne_if_equal, ne_if_not, ne_if_neg, ne_if_int, ne_if_var, ne_if_load, ne_if_set, ne_if_write, ne_if_store, ne_if_go, ne_if_return, ne_if_none, e_ite, Hi.value]
      refine Out.Ok.to (value_ok 3 e k ge.2 (by omega) ge.1 Hi Ki) fun v h2 ⟨ev, eh⟩ => ?_
      subst ev eh
      rw [ea]
      by_cases cv : val w (b.ss.foldl (exS w) c.s) e = 0
      · simp only [bnd_bnd, bnd_sbnd, sbnd_seq, seq_seq, seqC_ap, ss_cons, ss_nil, s_asg, s_ret, s_ite, s_ex, s_for, s_whl, e_non, e_bl, e_int, e_str, e_var, e_bin, e_neg, e_cmp, e_not, e_tup, e_lst, e_dic0, e_sub, e_call, e_bi, e_mt, kindG_same, e_isi, e_inv, e_lrg, e_fld, e_mk, e_um, e_kcall, e_lgen, e_rpr, s_sfld, s_augF, e_lc, e_dc, wipeP, new, evEs, evT, evTs, evP, evI, evG, bnd_ok, sbnd_ok, seq_nx, seq_rt, to_nx, go_nx, go_ct, rt_rt, ok_ok, slot, item0, item1, item2, item3, sub_t, i_int, i_abs, i_lenT, c_eqI, c_neI, c_eqS, c_neS, c_lt, c_le, c_gt, c_ge, asB_bl, iteC_t, iteC_f, iteC_d, b_add, b_sub, b_mul, b_mod, cv, decide_true, if_true, List.getElem?_cons_succ, List.getElem?_cons_zero, f4]
        have := Hi.setR y (enPv none) ((c.acc.length : Int) + 1)
        rw [hf]
        have ex : exB w c.s b = b.ss.foldl (exS w) c.s := rfl
        rw [ex, if_pos cv]
        exact ⟨this, fk_set Fi hn⟩
      · simp only [bnd_bnd, bnd_sbnd, sbnd_seq, seq_seq, seqC_ap, ss_cons, ss_nil, s_asg, s_ret, s_ite, s_ex, s_for, s_whl, e_non, e_bl, e_int, e_str, e_var, e_bin, e_neg, e_cmp, e_not, e_tup, e_lst, e_dic0, e_sub, e_call, e_bi, e_mt, kindG_same, e_isi, e_inv, e_lrg, e_fld, e_mk, e_um, e_kcall, e_lgen, e_rpr, s_sfld, s_augF, e_lc, e_dc, wipeP, new, evEs, evT, evTs, evP, evI, evG, bnd_ok, sbnd_ok, seq_nx, seq_rt, to_nx, go_nx, go_ct, rt_rt, ok_ok, slot, item0, item1, item2, item3, sub_t, i_int, i_abs, i_lenT, c_eqI, c_neI, c_eqS, c_neS, c_lt, c_le, c_gt, c_ge, asB_bl, iteC_t, iteC_f, iteC_d, b_add, b_sub, b_mul, b_mod, cv, decide_false, if_false, Bool.false_eq_true, List.getElem?_cons_succ, List.getElem?_cons_zero, f4]
        have := Hi.setR x (enPv none) ((c.acc.length : Int) + 1)
        rw [hf]
        have ex : exB w c.s b = b.ss.foldl (exS w) c.s := rfl
        rw [ex, if_neg cv]
        exact ⟨this, fk_set Fi hn⟩
    | ret e =>
      rw [hen] at ge
      simp only [bnd_bnd, bnd_sbnd, sbnd_seq, seq_seq, seqC_ap, ss_cons, ss_nil, s_asg, s_ret, s_ite, s_ex, s_for, s_whl, e_non, e_bl, e_int, e_str, e_var, e_bin, e_neg, e_cmp, e_not, e_tup, e_lst, e_dic0, e_sub, e_call, e_bi, e_mt, kindG_same, e_isi, e_inv, e_lrg, e_fld, e_mk, e_um, e_kcall, e_lgen, e_rpr, s_sfld, s_augF, e_lc, e_dc, wipeP, new, evEs, evT, evTs, evP, evI, evG, bnd_ok, sbnd_ok, seq_nx, seq_rt, to_nx, go_nx, go_ct, rt_rt, ok_ok, slot, item0, item1, item2, item3, sub_t, i_int, i_abs, i_lenT, c_eqI, c_neI, c_eqS, c_neS, c_lt, c_le, c_gt, c_ge, asB_bl, iteC_t, iteC_f, iteC_d, b_add, b_sub, b_mul, b_mod, List.getElem?_cons_succ, List.getElem?_cons_zero, List.set_cons_succ, List.set_cons_zero, i2, hen, En.pv, decide_true, if_true, decide_false, if_false, ne_return_add, ne_return_sub, ne_return_mul, ne_return_and, ne_return_or, ne_return_xor, ne_return_shl, ne_return_shr, ne_return_less, ne_return_equal, ne_return_not, ne_return_neg, ne_return_int, ne_return_var, ne_return_load, ne_return_set, ne_return_write, ne_return_store, ne_return_go, ne_return_if, ne_return_none, Hi.value]
      refine Out.Ok.to (value_ok 3 e k ge.2 (by omega) ge.1 Hi Ki) fun v h2 ⟨ev, eh⟩ => ?_
      subst ev eh
      rw [ea]
      simp only [bnd_bnd, bnd_sbnd, sbnd_seq, seq_seq, seqC_ap, ss_cons, ss_nil, s_asg, s_ret, s_ite, s_ex, s_for, s_whl, e_non, e_bl, e_int, e_str, e_var, e_bin, e_neg, e_cmp, e_not, e_tup, e_lst, e_dic0, e_sub, e_call, e_bi, e_mt, kindG_same, e_isi, e_inv, e_lrg, e_fld, e_mk, e_um, e_kcall, e_lgen, e_rpr, s_sfld, s_augF, e_lc, e_dc, wipeP, new, evEs, evT, evTs, evP, evI, evG, bnd_ok, sbnd_ok, seq_nx, seq_rt, to_nx, go_nx, go_ct, rt_rt, ok_ok, slot, item0, item1, item2, item3, sub_t, i_int, i_abs, i_lenT, c_eqI, c_neI, c_eqS, c_neS, c_lt, c_le, c_gt, c_ge, asB_bl, iteC_t, iteC_f, iteC_d, b_add, b_sub, b_mul, b_mod, List.length_cons, List.length_nil, qS, if_true, List.getElem?_cons_succ, List.getElem?_cons_zero, f5]
      exact ⟨Hi.setR c.l (enPv (some (val w (exB w c.s b) e))) ((c.acc.length : Int) + 1), fk_set Fi hn⟩
end
end K03

set_option Elab.async false
set_option linter.all false
set_option maxRecDepth 100000
set_option maxHeartbeats 4000000
namespace K03
open PySem MP Ar
open Out (ok bad)
section
variable {h : PH} {x o : PO} {xs : List PO} {C : Str → List PV → PH → Out PV}
theorem ap0 : (h ++ x :: xs)[h.length]? = some x := by rw [List.getElem?_append_right (Nat.le_refl _)]; simp
theorem ap_set0 : (h ++ x :: xs).set h.length o = h ++ o :: xs := by rw [List.set_append_right _ _ (Nat.le_refl _)]; simp
theorem ap_i {i : Nat} : (h ++ xs)[h.length + i]? = xs[i]? := by rw [List.getElem?_append_right (Nat.le_add_right _ _)]; simp
theorem ap_seti {i : Nat} : (h ++ xs).set (h.length + i) o = h ++ xs.set i o := by rw [List.set_append_right _ _ (Nat.le_add_right _ _)]; simp
theorem new_ap : new o (h ++ xs) = ok (.ref (h.length + xs.length)) (h ++ (xs ++ [o])) := by unfold new; rw [List.length_append, List.append_assoc]
theorem fldS_ap {c f : Str} {v : PV} {fs : List (Str × PV)} (q : fs.length < 1000) : fldS c f (.ref h.length) v (h ++ .ins c fs :: xs) = ok () (h ++ .ins c (fPut f v fs) :: xs) := by
  rw [fldS_at (ap0 (h := h)) q, ap_set0]
theorem fldF_ap {c f : Str} {v : PV} {fs : List (Str × PV)} (q : fs.lookup f = some v) : fldF c f (.ref h.length) (h ++ .ins c fs :: xs) = ok v (h ++ .ins c fs :: xs) := fldF_at ap0 q
/-- a field is set -/
theorem sf_ap {c f : Str} {e : E} {st : PSt} {v : PV} {fs fs' : List (Str × PV)} {h1 : PH} (hv : evE C e st h1 = ok v (h ++ .ins c fs :: xs)) (hs : st[0]? = some (some (.ref h.length))) (q : fs.length < 1000) (hf : fPut f v fs = fs') :
    evS C (.sfld c (.var 0) f e) st h1 = .nx st (h ++ .ins c fs' :: xs) := by
  rw [s_sfld, hv, sbnd_ok, e_var]
  unfold slot
  rw [hs, sbnd_ok, fldS_ap q, hf]
  rfl
end
def inL (ins : List Int) : Nat → List (Int × Int)
  | 0 => []
  | i + 1 => match ins[i]? with
    | some x => putI (inL ins i) i x
    | none => inL ins i
theorem inL_len (ins : List Int) : ∀ i, (inL ins i).length ≤ i
  | 0 => Nat.le_refl _
  | i + 1 => by
    have := inL_len ins i
    unfold inL
    split
    · have := put_len (L := inL ins i) (v := i) (x := ‹Int›); omega
    · omega
theorem inL_wd {w : Int} {ins : List Int} (h : ∀ x ∈ ins, Wd w x) : ∀ i, ∀ p ∈ inL ins i, Wd w p.2
  | 0, p, hp => by cases hp
  | i + 1, p, hp => by
    unfold inL at hp
    split at hp
    · rename_i x hx
      exact put_wd (inL_wd h i) (h x (List.mem_of_getElem? hx)) p hp
    · exact inL_wd h i p hp
def zeros : List Int := [0, 0, 0, 0, 0, 0, 0, 0, 0, 0, 0, 0, 0, 0, 0, 0]
def s0 (ins : List Int) : Sto := ⟨inL ins ins.length, zeros, []⟩
theorem ok0 {w : Int} {ins : List Int} (h1 : 1 ≤ w) (h2 : w ≤ 16) (h : ∀ x ∈ ins, Wd w x) : Ok w (s0 ins) :=
  ⟨rfl, fun x hx => by
    have : x = 0 := by simpa [s0, zeros] using hx
    rw [this]; exact zero_wd h1, inL_wd h _, h1, h2⟩
theorem rep_zero {h : PH} {a : Nat} (e : h[a]? = some (.lst [PV.int 0])) : binF .Mult (.ref a) (.int 16) h = ok (.ref h.length) (h ++ [.lst (zeros.map PV.int)]) := by
  simp only [binF, e]
  rw [if_pos (by decide)]
  rfl
section
variable {bs : List Bk} {w np : Int} {h : PH} {k : Nat} {ins : List Int} {b0 : Bk}
theorem take_nd (nd : (bs.map Bk.l).Nodup) {i : Nat} {b : Bk} (hb : bs[i]? = some b) : b.l ∉ (bs.take i).map Bk.l := by
  intro hc
  obtain ⟨c, hc, e⟩ := List.mem_map.mp hc
  have : (bs.take (i + 1)).map Bk.l = (bs.take i).map Bk.l ++ [b.l] := by rw [List.take_add_one, hb, List.map_append]; rfl
  have nd2 : ((bs.take (i + 1)).map Bk.l).Nodup := by rw [List.map_take]; exact nd.sublist (List.take_sublist _ _)
  rw [this] at nd2
  exact (List.nodup_append.mp nd2).2.2 c.l (List.mem_map.mpr ⟨c, hc, rfl⟩) b.l (by simp) e
theorem dPut_new {G : Bk → PV} {l : Int} {x : PV} (h : l ∉ bs.map Bk.l) : dPut (bs.map fun b => (.int b.l, G b)) (.int l) x = (bs.map fun b => (.int b.l, G b)) ++ [(.int l, x)] := by
  unfold dPut
  rw [if_neg]
  rw [List.any_map, Bool.not_eq_true, List.any_eq_false]
  intro b hb
  have : b.l ≠ l := fun e => h (List.mem_map.mpr ⟨b, hb, e⟩)
  simpa [keyEq] using this
theorem small_len {N : List Int} (hz : N.length ≤ 60) : small (N.length : Int) = true := decide_eq_true ⟨by omega, by omega⟩
theorem init_ok (hk : 1 ≤ k) (nd : (bs.map Bk.l).Nodup) (hn : bs.length ≤ 60) (hi : ins.length ≤ 60) (h0 : bs[0]? = some b0) :
    (evCall Lw.T k "Runner.__init__" [.ref h.length, .tup [.int w, .int np, .tup (bs.map Bk.pv)], .tup (ins.map PV.int)] (h ++ [.ins "Runner" []])).Ok fun v h' =>
      v = .non ∧ RH bs w h.length (h.length + 1) (h.length + 2) (h.length + 4) (h.length + 5) b0.l (enPv none) 0 (s0 ins) h' ∧ Fk h h' := by
  obtain ⟨k, rfl⟩ : ∃ j, k = j + 1 := ⟨k - 1, by omega⟩
  have hS : (1000 : Nat) ≤ sizeLine := by decide
  refine call_nx Lw.T_Runner___init__ rfl (by decide) ?_
  show (evSs (evCall Lw.T k) Lw.b_Runner___init__ [some (.ref h.length), some (.tup [.int w, .int np, .tup (bs.map Bk.pv)]), some (.tup (ins.map PV.int)), none, none] (h ++ [.ins "Runner" []])).To _
  unfold Lw.b_Runner___init__
  generalize hC : evCall Lw.T k = C
  -- width
  rw [ss_cons, sf_ap (fs := []) (fs' := [("width", .int w)]) (v := .int w) (xs := []) (by simp only [bnd_bnd, bnd_sbnd, sbnd_seq, seq_seq, seqC_ap, ss_cons, ss_nil, s_asg, s_ret, s_ite, s_ex, s_for, s_whl, e_non, e_bl, e_int, e_str, e_var, e_bin, e_neg, e_cmp, e_not, e_tup, e_lst, e_dic0, e_sub, e_call, e_bi, e_mt, kindG_same, e_isi, e_inv, e_lrg, e_fld, e_mk, e_um, e_kcall, e_lgen, e_rpr, s_sfld, s_augF, e_lc, e_dc, wipeP, new, evEs, evT, evTs, evP, evI, evG, bnd_ok, sbnd_ok, seq_nx, seq_rt, to_nx, go_nx, go_ct, rt_rt, ok_ok, slot, item0, item1, item2, item3, sub_t, i_int, i_abs, i_lenT, c_eqI, c_neI, c_eqS, c_neS, c_lt, c_le, c_gt, c_ge, asB_bl, iteC_t, iteC_f, iteC_d, b_add, b_sub, b_mul, b_mod, List.getElem?_cons_succ, List.getElem?_cons_zero]) rfl (by simp) rfl, seq_nx]
  -- blocks
  have e2 : evE C (.dc (.sub (.var 4) (.int 0)) (.var 4) (.nm 4) (.ex (.sub (.var 1) (.int 2))) .nil [4]) [some (.ref h.length), some (.tup [.int w, .int np, .tup (bs.map Bk.pv)]), some (.tup (ins.map PV.int)), none, none] (h ++ [.ins "Runner" [("width", .int w)]]) = ok (.ref (h.length + 1)) (h ++ .ins "Runner" [("width", .int w)] :: [.dic (bs.map fun b => (.int b.l, b.pv))]) := by
    have hh : ∀ hh : PH, (each (dcC C (.sub (.var 4) (.int 0)) (.var 4) (.nm 4) .nil [some (.ref h.length), some (.tup [.int w, .int np, .tup (bs.map Bk.pv)]), some (.tup (ins.map PV.int)), none, none]) (.vals (bs.map Bk.pv)) [] hh).Ok fun acc h' => acc = bs.map (fun b => (.int b.l, b.pv)) ∧ h' = hh := by
      intro hh
      have := each_vals (f := dcC C (.sub (.var 4) (.int 0)) (.var 4) (.nm 4) .nil [some (.ref h.length), some (.tup [.int w, .int np, .tup (bs.map Bk.pv)]), some (.tup (ins.map PV.int)), none, none]) (xs := bs.map Bk.pv) (a := []) (h := hh) (fun i acc h' => acc = (bs.take i).map (fun b => (PV.int b.l, b.pv)) ∧ h' = hh) ⟨rfl, rfl⟩ fun i x acc h1 hx ⟨ea, eh⟩ => ?_
      · rw [List.length_map, List.take_length] at this; exact this
      · subst ea eh
        rw [List.getElem?_map, Option.map_eq_some_iff] at hx
        obtain ⟨b, hb, rfl⟩ := hx
        have etk : bs.take (i + 1) = bs.take i ++ [b] := by rw [List.take_add_one, hb]; rfl
        have b3 := List.length_take_le i bs
        have b4 := lt_of_some hb
        have hbv : ∀ hh, subF b.pv (.int 0) hh = ok (.int b.l) hh := fun hh => by
          rw [show b.pv = .tup [.int b.l, .tup (b.ss.map Sm.pv), b.en.pv] from rfl]; simp only [sub_t, item0]
        unfold dcC
        simp only [bnd_bnd, bnd_sbnd, sbnd_seq, seq_seq, seqC_ap, ss_cons, ss_nil, s_asg, s_ret, s_ite, s_ex, s_for, s_whl, e_non, e_bl, e_int, e_str, e_var, e_bin, e_neg, e_cmp, e_not, e_tup, e_lst, e_dic0, e_sub, e_call, e_bi, e_mt, kindG_same, e_isi, e_inv, e_lrg, e_fld, e_mk, e_um, e_kcall, e_lgen, e_rpr, s_sfld, s_augF, e_lc, e_dc, wipeP, new, evEs, evT, evTs, evP, evI, evG, bnd_ok, sbnd_ok, seq_nx, seq_rt, to_nx, go_nx, go_ct, rt_rt, ok_ok, slot, item0, item1, item2, item3, sub_t, i_int, i_abs, i_lenT, c_eqI, c_neI, c_eqS, c_neS, c_lt, c_le, c_gt, c_ge, asB_bl, iteC_t, iteC_f, iteC_d, b_add, b_sub, b_mul, b_mod, List.getElem?_cons_succ, List.getElem?_cons_zero, List.set_cons_succ, List.set_cons_zero, hbv, if_true]
        rw [if_pos ⟨rfl, by rw [List.length_map]; omega⟩, ok_ok, dPut_new (G := Bk.pv) (take_nd nd hb), etk, List.map_append]
        exact ⟨rfl, rfl⟩
    obtain ⟨acc, h', e1, rfl, rfl⟩ := (hh (h ++ [.ins "Runner" [("width", .int w)]])).ex
    simp only [bnd_bnd, bnd_sbnd, sbnd_seq, seq_seq, seqC_ap, ss_cons, ss_nil, s_asg, s_ret, s_ite, s_ex, s_for, s_whl, e_non, e_bl, e_int, e_str, e_var, e_bin, e_neg, e_cmp, e_not, e_tup, e_lst, e_dic0, e_sub, e_call, e_bi, e_mt, kindG_same, e_isi, e_inv, e_lrg, e_fld, e_mk, e_um, e_kcall, e_lgen, e_rpr, s_sfld, s_augF, e_lc, e_dc, wipeP, new, evEs, evT, evTs, evP, evI, evG, bnd_ok, sbnd_ok, seq_nx, seq_rt, to_nx, go_nx, go_ct, rt_rt, ok_ok, slot, item0, item1, item2, item3, sub_t, i_int, i_abs, i_lenT, c_eqI, c_neI, c_eqS, c_neS, c_lt, c_le, c_gt, c_ge, asB_bl, iteC_t, iteC_f, iteC_d, b_add, b_sub, b_mul, b_mod, List.getElem?_cons_succ, List.getElem?_cons_zero, List.set_cons_succ, List.set_cons_zero, e1, List.length_append, List.length_cons, List.length_nil, List.append_assoc, List.cons_append, List.nil_append]
  rw [ss_cons, sf_ap (fs := [("width", .int w)]) (fs' := [("width", .int w), ("blocks", .ref (h.length + 1))]) (v := .ref (h.length + 1)) e2 rfl (by simp) rfl, seq_nx]
  -- variables
  rw [ss_cons, sf_ap (fs := [("width", .int w), ("blocks", .ref (h.length + 1))]) (fs' := [("width", .int w), ("blocks", .ref (h.length + 1)), ("variables", .ref (h.length + 2))]) (v := .ref (h.length + 2)) (xs := [.dic (bs.map fun b => (.int b.l, b.pv)), .dic []]) (by rw [e_dic0, new_ap]; rfl) rfl (by simp) rfl, seq_nx]
  rw [ss_cons, s_for]
  have ev0 : ∀ hh : PH, evEs C (.cons (.bi .len (.cons (.var 2) .nil)) .nil) [some (.ref h.length), some (.tup [.int w, .int np, .tup (bs.map Bk.pv)]), some (.tup (ins.map PV.int)), none, none] hh = ok [.int (ins.length : Int)] hh := fun hh => by
    simp only [evEs, e_bi, e_var, slot, List.getElem?_cons_succ, List.getElem?_cons_zero, bnd_ok, bnd_bnd, i_lenT, List.length_map]
  rw [rng_ev (ev0 _) (small_len hi), sbnd_ok]
  refine SO.To.to (for_vals (fun i s' h' => ∃ a3, s' = [some (.ref h.length), some (.tup [.int w, .int np, .tup (bs.map Bk.pv)]), some (.tup (ins.map PV.int)), a3, none] ∧ h' = h ++ .ins "Runner" [("width", .int w), ("blocks", .ref (h.length + 1)), ("variables", .ref (h.length + 2))] :: [.dic (bs.map fun b => (.int b.l, b.pv)), .dic (dI (inL ins i))]) ⟨none, rfl, rfl⟩
    fun i x s' h' hx ⟨a3, es, eh⟩ => ?_) fun s' h' ⟨a3, es, eh⟩ => ?_
  · subst es eh
    obtain ⟨hi2, rfl⟩ := rng_at hx
    rw [Int.toNat_natCast] at hi2
    have hN : ins[i]? = some ins[i] := List.getElem?_eq_getElem hi2
    have il := inL_len ins i
    have ei : ∀ hh, itemF (ins.map PV.int) (.int ((i : Nat) : Int)) hh = ok (.int ins[i]) hh := fun hh => itemF_at (by omega) (by rw [Int.toNat_natCast, List.getElem?_map, hN]; rfl)
    have e3 := set_dI (D := h.length + 2) (L := inL ins i) (v := (i : Nat)) (x := ins[i]) (h := h ++ .ins "Runner" [("width", .int w), ("blocks", .ref (h.length + 1)), ("variables", .ref (h.length + 2))] :: [.dic (bs.map fun b => (.int b.l, b.pv)), .dic (dI (inL ins i))]) (by rw [ap_i]; rfl) (by omega)
    rw [ap_seti] at e3
    have f1 : fldF "Runner" "variables" (.ref h.length) (h ++ .ins "Runner" [("width", .int w), ("blocks", .ref (h.length + 1)), ("variables", .ref (h.length + 2))] :: [.dic (bs.map fun b => (.int b.l, b.pv)), .dic (dI (inL ins i))]) = ok (.ref (h.length + 2)) (h ++ .ins "Runner" [("width", .int w), ("blocks", .ref (h.length + 1)), ("variables", .ref (h.length + 2))] :: [.dic (bs.map fun b => (.int b.l, b.pv)), .dic (dI (inL ins i))]) := fldF_ap rfl
    simp only [Int.zero_add, bnd_bnd, bnd_sbnd, sbnd_seq, seq_seq, seqC_ap, ss_cons, ss_nil, s_asg, s_ret, s_ite, s_ex, s_for, s_whl, e_non, e_bl, e_int, e_str, e_var, e_bin, e_neg, e_cmp, e_not, e_tup, e_lst, e_dic0, e_sub, e_call, e_bi, e_mt, kindG_same, e_isi, e_inv, e_lrg, e_fld, e_mk, e_um, e_kcall, e_lgen, e_rpr, s_sfld, s_augF, e_lc, e_dc, wipeP, new, evEs, evT, evTs, evP, evI, evG, bnd_ok, sbnd_ok, seq_nx, seq_rt, to_nx, go_nx, go_ct, rt_rt, ok_ok, slot, item0, item1, item2, item3, sub_t, i_int, i_abs, i_lenT, c_eqI, c_neI, c_eqS, c_neS, c_lt, c_le, c_gt, c_ge, asB_bl, iteC_t, iteC_f, iteC_d, b_add, b_sub, b_mul, b_mod, List.getElem?_cons_succ, List.getElem?_cons_zero, List.set_cons_succ, List.set_cons_zero, ei, f1, e3]
    refine ⟨_, rfl, ?_⟩
    conv => rhs; unfold inL
    rw [hN]
  · subst es eh
    rw [rng_len, Int.toNat_natCast]
    generalize hL : inL ins ins.length = L
    have e5 : evE C (.bin .Mult (.lst (.cons (.int 0) .nil)) (.int 16)) [some (.ref h.length), some (.tup [.int w, .int np, .tup (bs.map Bk.pv)]), some (.tup (ins.map PV.int)), a3, none] (h ++ .ins "Runner" [("width", .int w), ("blocks", .ref (h.length + 1)), ("variables", .ref (h.length + 2))] :: [.dic (bs.map fun b => (.int b.l, b.pv)), .dic (dI L)]) = ok (.ref (h.length + 4)) (h ++ .ins "Runner" [("width", .int w), ("blocks", .ref (h.length + 1)), ("variables", .ref (h.length + 2))] :: [.dic (bs.map fun b => (.int b.l, b.pv)), .dic (dI L), .lst [.int 0], .lst (zeros.map PV.int)]) := by
      rw [e_bin, e_lst]
      simp only [evEs, e_int, bnd_ok, List.length_cons, List.length_nil]
      rw [if_pos (by omega), new_ap, bnd_ok, rep_zero (by rw [ap_i]; rfl), List.length_append, List.append_assoc]
      rfl
    rw [ss_cons, sf_ap (fs' := [("width", .int w), ("blocks", .ref (h.length + 1)), ("variables", .ref (h.length + 2)), ("memory", .ref (h.length + 4))]) e5 rfl (by simp) rfl, seq_nx]
    rw [ss_cons, sf_ap (fs := [("width", .int w), ("blocks", .ref (h.length + 1)), ("variables", .ref (h.length + 2)), ("memory", .ref (h.length + 4))]) (fs' := [("width", .int w), ("blocks", .ref (h.length + 1)), ("variables", .ref (h.length + 2)), ("memory", .ref (h.length + 4)), ("writes", .ref (h.length + 5))]) (v := .ref (h.length + 5)) (xs := [.dic (bs.map fun b => (.int b.l, b.pv)), .dic (dI L), .lst [.int 0], .lst (zeros.map PV.int), .lst []]) (by
      rw [e_lst]
      simp only [evEs, bnd_ok, List.length_nil]
      rw [if_pos (Nat.zero_le _), new_ap]
      rfl) rfl (by simp) rfl, seq_nx]
    have i0 : ∀ hh, itemF (bs.map Bk.pv) (.int 0) hh = ok b0.pv hh := fun hh => itemF_at (by decide) (by rw [List.getElem?_map]; show (bs[0]?).map _ = _; rw [h0]; rfl)
    have hbv : ∀ hh, subF b0.pv (.int 0) hh = ok (.int b0.l) hh := fun hh => by
      rw [show b0.pv = .tup [.int b0.l, .tup (b0.ss.map Sm.pv), b0.en.pv] from rfl]; simp only [sub_t, item0]
    rw [ss_cons, sf_ap (fs := [("width", .int w), ("blocks", .ref (h.length + 1)), ("variables", .ref (h.length + 2)), ("memory", .ref (h.length + 4)), ("writes", .ref (h.length + 5))]) (fs' := [("width", .int w), ("blocks", .ref (h.length + 1)), ("variables", .ref (h.length + 2)), ("memory", .ref (h.length + 4)), ("writes", .ref (h.length + 5)), ("label", .int b0.l)]) (v := .int b0.l) (xs := [.dic (bs.map fun b => (.int b.l, b.pv)), .dic (dI L), .lst [.int 0], .lst (zeros.map PV.int), .lst []]) (by
      simp only [bnd_bnd, bnd_sbnd, sbnd_seq, seq_seq, seqC_ap, ss_cons, ss_nil, s_asg, s_ret, s_ite, s_ex, s_for, s_whl, e_non, e_bl, e_int, e_str, e_var, e_bin, e_neg, e_cmp, e_not, e_tup, e_lst, e_dic0, e_sub, e_call, e_bi, e_mt, kindG_same, e_isi, e_inv, e_lrg, e_fld, e_mk, e_um, e_kcall, e_lgen, e_rpr, s_sfld, s_augF, e_lc, e_dc, wipeP, new, evEs, evT, evTs, evP, evI, evG, bnd_ok, sbnd_ok, seq_nx, seq_rt, to_nx, go_nx, go_ct, rt_rt, ok_ok, slot, item0, item1, item2, item3, sub_t, i_int, i_abs, i_lenT, c_eqI, c_neI, c_eqS, c_neS, c_lt, c_le, c_gt, c_ge, asB_bl, iteC_t, iteC_f, iteC_d, b_add, b_sub, b_mul, b_mod, List.getElem?_cons_succ, List.getElem?_cons_zero, i0, hbv]) rfl (by simp) rfl, seq_nx]
    rw [ss_cons, sf_ap (fs := [("width", .int w), ("blocks", .ref (h.length + 1)), ("variables", .ref (h.length + 2)), ("memory", .ref (h.length + 4)), ("writes", .ref (h.length + 5)), ("label", .int b0.l)]) (fs' := [("width", .int w), ("blocks", .ref (h.length + 1)), ("variables", .ref (h.length + 2)), ("memory", .ref (h.length + 4)), ("writes", .ref (h.length + 5)), ("label", .int b0.l), ("ending", enPv none)]) (v := enPv none) (xs := [.dic (bs.map fun b => (.int b.l, b.pv)), .dic (dI L), .lst [.int 0], .lst (zeros.map PV.int), .lst []]) (by
      simp only [bnd_bnd, bnd_sbnd, sbnd_seq, seq_seq, seqC_ap, ss_cons, ss_nil, s_asg, s_ret, s_ite, s_ex, s_for, s_whl, e_non, e_bl, e_int, e_str, e_var, e_bin, e_neg, e_cmp, e_not, e_tup, e_lst, e_dic0, e_sub, e_call, e_bi, e_mt, kindG_same, e_isi, e_inv, e_lrg, e_fld, e_mk, e_um, e_kcall, e_lgen, e_rpr, s_sfld, s_augF, e_lc, e_dc, wipeP, new, evEs, evT, evTs, evP, evI, evG, bnd_ok, sbnd_ok, seq_nx, seq_rt, to_nx, go_nx, go_ct, rt_rt, ok_ok, slot, item0, item1, item2, item3, sub_t, i_int, i_abs, i_lenT, c_eqI, c_neI, c_eqS, c_neS, c_lt, c_le, c_gt, c_ge, asB_bl, iteC_t, iteC_f, iteC_d, b_add, b_sub, b_mul, b_mod, List.length_cons, List.length_nil]
      rw [if_pos (by omega)]
      rfl) rfl (by simp) rfl, seq_nx]
    rw [ss_cons, sf_ap (fs := [("width", .int w), ("blocks", .ref (h.length + 1)), ("variables", .ref (h.length + 2)), ("memory", .ref (h.length + 4)), ("writes", .ref (h.length + 5)), ("label", .int b0.l), ("ending", enPv none)]) (fs' := rFs w (h.length + 1) (h.length + 2) (h.length + 4) (h.length + 5) b0.l (enPv none) 0) (v := .int 0) (xs := [.dic (bs.map fun b => (.int b.l, b.pv)), .dic (dI L), .lst [.int 0], .lst (zeros.map PV.int), .lst []]) e_int rfl (by simp) rfl, seq_nx, ss_nil, to_nx]
    refine ⟨rfl, ⟨ap0, by rw [ap_i]; rfl, ?_, by rw [ap_i]; rfl, by rw [ap_i]; rfl, by omega, by omega, by omega, by omega⟩, ⟨by simp, fun i hi => List.getElem?_append_left hi⟩⟩
    rw [ap_i, ← hL]; rfl
end
end K03

set_option Elab.async false
set_option linter.all false
set_option maxRecDepth 100000
set_option maxHeartbeats 4000000
namespace MP
theorem call_gen {T : PySem.Str → Option Df} {k : Nat} {f : PySem.Str} {d : Df} {b : Ys} {xs ys : List PV} {s' : PSt} {h h' : PH} (e : T f = some d) (hg : d.gen = some b) (hl : xs.length = d.np) (hn : d.np ≤ d.ns)
    (q : evYs (evCall T k) b [] (xs.map some ++ List.replicate (d.ns - d.np) none) h = .nx ys s' h') : evCall T (k + 1) f xs h = .ok (.tup ys) h' := by
  simp only [evCall, e, hl, hn, hg, q]
  simp only [true_and, if_true]
theorem ywhl_inv {c : PSt → PH → Out Bool} {b : List PV → PSt → PH → YO} (P : List PV → PSt → PH → Nat → Prop) (Q : List PV → PSt → PH → Prop)
    (step : ∀ ys s h m, P ys s h m → (c s h).Ok fun k h1 => if k = true then ∃ ys' s' h' m', b ys s h1 = .nx ys' s' h' ∧ m' < m ∧ P ys' s' h' m' else Q ys s h1) :
    ∀ (n m : Nat) (ys : List PV) (s : PSt) (h : PH), m < n → P ys s h m → ∃ ys' s' h', ywhl c b n ys s h = .nx ys' s' h' ∧ Q ys' s' h' := by
  intro n
  induction n with
  | zero => intro m ys s h e; omega
  | succ n ih =>
    intro m ys s h e p
    unfold ywhl
    obtain ⟨k, h1, e1, q⟩ := (step ys s h m p).ex
    rw [e1]
    cases k with
    | false => rw [if_neg Bool.false_ne_true] at q; exact ⟨ys, s, h1, rfl, q⟩
    | true =>
      rw [if_pos rfl] at q
      obtain ⟨ys', s', h', m', eb, lt, p'⟩ := q
      obtain ⟨y2, s2, h2, e2, q2⟩ := ih m' ys' s' h' (by omega) p'
      refine ⟨y2, s2, h2, ?_, q2⟩
      show (match b ys s h1 with
        | .nx ys s h => ywhl c b n ys s h
        | .bad => .bad) = _
      rw [eb]; exact e2
end MP
namespace K03
open PySem MP Ar
open Out (ok bad)
structure GF (bs : List Bk) (w : Int) (vars : List Int) : Prop where
  nd : (bs.map Bk.l).Nodup
  n : bs.length ≤ 6
  ss : ∀ b ∈ bs, b.ss.length ≤ 5 ∧ ∀ st ∈ b.ss, st.good w vars
  en : ∀ b ∈ bs, match b.en with | .ret e => e.good w vars ∧ e.deep ≤ 3 | .go _ => True | .br e _ _ => e.good w vars ∧ e.deep ≤ 3
  lb : ∀ b ∈ bs, match b.en with | .ret _ => True | .go l => l ∈ bs.map Bk.l | .br _ x y => x ∈ bs.map Bk.l ∧ y ∈ bs.map Bk.l
theorem gf_of {f : Fn} {vars : List Int} (g : f.Good vars 6 5) : GF f.bs f.w vars := by
  refine ⟨g.nd, by have := g.most; omega, fun b hb => ⟨by have := (g.bk b hb).1; omega, (g.bk b hb).2.1⟩, fun b hb => ?_, fun b hb => ?_⟩
  · have := (g.bk b hb).2.2
    revert this
    cases b.en with
    | ret e => exact fun q => q
    | go l => exact fun _ => trivial
    | br e x y => exact fun q => q.1
  · have := (g.bk b hb).2.2
    revert this
    cases b.en with
    | ret e => exact fun _ => trivial
    | go l => exact fun q => q
    | br e x y => exact fun q => ⟨q.2.1, q.2.2⟩
def stepC (bs : List Bk) (w : Int) (c : Cfg) : Cfg := match bs.find? fun b => decide (b.l = c.l) with
  | some b => stepB w c b
  | none => c
def runC (bs : List Bk) (w : Int) : Nat → Cfg → Cfg
  | 0, c => c
  | n + 1, c => if c.fin.isSome = true then c else runC bs w n (stepC bs w c)
section
variable {bs : List Bk} {w np : Int} {vars ins : List Int} {c R : Cfg} {h h0 : PH} {k : Nat} {b b0 : Bk}
theorem find_at (nd : (bs.map Bk.l).Nodup) (hb : b ∈ bs) {l : Int} (e : b.l = l) : bs.find? (fun b => decide (b.l = l)) = some b := by
  cases hf : bs.find? fun c => decide (c.l = l) with
  | none => exact absurd (List.find?_eq_none.mp hf b hb) (by simp [e])
  | some c =>
    have h1 := List.mem_of_find?_eq_some hf
    have h2 : c.l = l := by simpa using List.find?_some hf
    rw [bk_eq nd h1 hb (h2.trans e.symm)]
structure CI (bs : List Bk) (w : Int) (c : Cfg) : Prop where
  lab : c.l ∈ bs.map Bk.l
  K : Ok w c.s
  z : sz c.s ≤ 6 + 5 * c.acc.length
theorem ci_step (G : GF bs w vars) (I : CI bs w c) : ∃ b ∈ bs, b.l = c.l ∧ stepC bs w c = stepB w c b ∧ CI bs w (stepB w c b) ∧ (stepB w c b).acc = c.acc ++ [c.l] := by
  obtain ⟨b, hb, e⟩ := List.mem_map.mp I.lab
  obtain ⟨g1, g2⟩ := G.ss b hb
  obtain ⟨K2, z2⟩ := exB_ok I.K g2
  have z := I.z
  have hl := G.lb b hb
  refine ⟨b, hb, e, by unfold stepC; rw [find_at G.nd hb e], ?_, ?_⟩
  · unfold stepB
    revert hl
    cases b.en with
    | ret e =>
      intro _
      exact ⟨I.lab, K2, by show sz _ ≤ 6 + 5 * (c.acc ++ [c.l]).length; rw [List.length_append, List.length_singleton]; show sz (exB w c.s b) ≤ _; omega⟩
    | go l =>
      intro q
      exact ⟨q, K2, by show sz _ ≤ 6 + 5 * (c.acc ++ [c.l]).length; rw [List.length_append, List.length_singleton]; show sz (exB w c.s b) ≤ _; omega⟩
    | br e x y =>
      intro q
      refine ⟨?_, K2, by show sz _ ≤ 6 + 5 * (c.acc ++ [c.l]).length; rw [List.length_append, List.length_singleton]; show sz (exB w c.s b) ≤ _; omega⟩
      show (if _ then y else x) ∈ _
      split
      · exact q.2
      · exact q.1
  · unfold stepB
    cases b.en <;> rfl
/-! ending == ('none',) -/
def enD : Option Int → PyData
  | none => .tuple [.str "none"]
  | some v => .tuple [.str "return", .int v]
theorem k_none : PyData.strOk "none" = true := by decide +kernel
theorem k_return : PyData.strOk "return" = true := by decide +kernel
theorem en_lay (o : Option Int) : (enD o).canLay0 = true := by
  cases o <;> simp [enD, PyData.canLay0, PyData.canLayAll0, k_none, k_return]
theorem en_depth (o : Option Int) : (enD o).depth ≤ 1 := by
  cases o <;> simp [enD, PyData.depth, PyData.depthAll]
theorem en_datum (o : Option Int) (n : Nat) : datum h (n + 2) (enPv o) = some (enD o) := by
  cases o with
  | none => exact d_tup (dl_cons d_str dl_nil)
  | some v => exact d_tup (dl_cons d_str (dl_cons d_int dl_nil))
theorem en_eqv (a b : Option Int) : PyData.eqv (enD a) (enD b) = decide (a = b) := by
  have n1 : ("none" : Str) ≠ "return" := by decide
  have n2 : ("return" : Str) ≠ "none" := by decide
  cases a <;> cases b <;> simp [enD, PyData.eqv, PyData.eqvAll, n1, n2]
  rw [Bool.eq_iff_iff]; simp
theorem en_eq (o : Option Int) : cmpF .Eq (enPv o) (.tup [.str "none"]) h = ok (.bl (decide (o = none))) h := by
  refine c_eq ?_
  have e1 := en_datum (h := h) o 62
  have e2 := en_datum (h := h) none 62
  have q : eqB (enPv o) (enPv none) h = ok (PyData.eqv (enD o) (enD none)) h := eq_data (.inr (by cases o <;> exact ⟨_, rfl⟩)) e1 e2 (shaped_of (en_lay o) (by have := en_depth o; omega)) (shaped_of (en_lay none) (by have := en_depth none; omega))
  rw [en_eqv] at q
  exact q
def tsT : T := .and (.cmp .Eq (.fld "Runner" (.var 3) "ending") (.tup (.cons (.str "none") .nil))) (.cmp .Lt (.fld "Runner" (.var 3) "steps") (.var 2))
def c0 (bs : List Bk) (b0 : Bk) (ins : List Int) : Cfg := ⟨b0.l, s0 ins, none, []⟩
/-- what holds while a runner goes -/
structure PR (bs : List Bk) (w : Int) (h : PH) (r pb pv pm pw : Nat) (fuel : Nat) (R c : Cfg) (h' : PH) : Prop where
  H : RH bs w r pb pv pm pw c.l (enPv c.fin) c.acc.length c.s h'
  I : CI bs w c
  F : Fk h h'
  lo : h.length ≤ r
  run : runC bs w (fuel - c.acc.length) c = R
  le : c.acc.length ≤ fuel
section
variable {r pb pv pm pw : Nat} {fuel : Nat} {st : PSt} {C : Str → List PV → PH → Out PV}
theorem test_ok {a0 a1 : Option PV} (P : PR bs w h r pb pv pm pw fuel R c h0) : evT C tsT [a0, a1, some (.int fuel), some (.ref r)] h0 = ok (decide (c.fin = none) && decide (c.acc.length < fuel)) h0 := by
  have f1 := fldF_at (f := "ending") P.H.at_ look_e
  have f2 := fldF_at (f := "steps") P.H.at_ look_n
  have q1 : 1 ≤ sizeLine := by decide
  unfold tsT
  simp only [bnd_bnd, bnd_sbnd, sbnd_seq, seq_seq, seqC_ap, ss_cons, ss_nil, s_asg, s_ret, s_ite, s_ex, s_for, s_whl, e_non, e_bl, e_int, e_str, e_var, e_bin, e_neg, e_cmp, e_not, e_tup, e_lst, e_dic0, e_sub, e_call, e_bi, e_mt, kindG_same, e_isi, e_inv, e_lrg, e_fld, e_mk, e_um, e_kcall, e_lgen, e_rpr, s_sfld, s_augF, e_lc, e_dc, wipeP, new, evEs, evT, evTs, evP, evI, evG, bnd_ok, sbnd_ok, seq_nx, seq_rt, to_nx, go_nx, go_ct, rt_rt, ok_ok, slot, item0, item1, item2, item3, sub_t, i_int, i_abs, i_lenT, c_eqI, c_neI, c_eqS, c_neS, c_lt, c_le, c_gt, c_ge, asB_bl, iteC_t, iteC_f, iteC_d, b_add, b_sub, b_mul, b_mod, List.getElem?_cons_succ, List.getElem?_cons_zero, f1, List.length_cons, List.length_nil, q1, if_true, en_eq]
  by_cases e : c.fin = none
  · simp only [e, decide_true, if_true, f2, bnd_bnd, bnd_sbnd, sbnd_seq, seq_seq, seqC_ap, ss_cons, ss_nil, s_asg, s_ret, s_ite, s_ex, s_for, s_whl, e_non, e_bl, e_int, e_str, e_var, e_bin, e_neg, e_cmp, e_not, e_tup, e_lst, e_dic0, e_sub, e_call, e_bi, e_mt, kindG_same, e_isi, e_inv, e_lrg, e_fld, e_mk, e_um, e_kcall, e_lgen, e_rpr, s_sfld, s_augF, e_lc, e_dc, wipeP, new, evEs, evT, evTs, evP, evI, evG, bnd_ok, sbnd_ok, seq_nx, seq_rt, to_nx, go_nx, go_ct, rt_rt, ok_ok, slot, item0, item1, item2, item3, sub_t, i_int, i_abs, i_lenT, c_eqI, c_neI, c_eqS, c_neS, c_lt, c_le, c_gt, c_ge, asB_bl, iteC_t, iteC_f, iteC_d, b_add, b_sub, b_mul, b_mod, Bool.true_and, List.getElem?_cons_succ, List.getElem?_cons_zero]
    congr 1
    rw [Bool.eq_iff_iff, decide_eq_true_eq, decide_eq_true_eq]
    omega
  · simp only [e, decide_false, Bool.false_eq_true, if_false, Bool.false_and]
theorem turn_ok (G : GF bs w vars) (P : PR bs w h r pb pv pm pw fuel R c h0) (hk : 9 ≤ k) (hf : c.fin = none) (hl : c.acc.length < fuel) (h60 : fuel ≤ 100) : (evCall Lw.T k "Runner.block" [.ref r] h0).Ok fun _ h' => PR bs w h r pb pv pm pw fuel R (stepC bs w c) h' ∧ (stepC bs w c).acc = c.acc ++ [c.l] := by
  obtain ⟨b, hb, e, es, I2, ea⟩ := ci_step G P.I
  obtain ⟨g1, g2⟩ := G.ss b hb
  have z := P.I.z
  refine (block_ok hk G.nd hb e P.H P.I.K g2 (G.en b hb) hf (by omega) P.lo P.F).mono fun v h' ⟨H2, F2⟩ => ?_
  rw [es]
  refine ⟨⟨H2, I2, F2, P.lo, ?_, by rw [ea, List.length_append, List.length_singleton]; omega⟩, ea⟩
  rw [ea, List.length_append, List.length_singleton, ← es]
  have := P.run
  rw [show fuel - c.acc.length = (fuel - (c.acc.length + 1)) + 1 by omega] at this
  unfold runC at this
  rw [hf] at this
  exact this
theorem end_ok (P : PR bs w h r pb pv pm pw fuel R c h0) (e : (decide (c.fin = none) && decide (c.acc.length < fuel)) = false) : c = R := by
  have := P.run
  by_cases q : c.fin = none
  · have l : ¬c.acc.length < fuel := by simpa [q] using e
    rw [show fuel - c.acc.length = 0 by omega] at this
    exact this
  · cases hn : fuel - c.acc.length with
    | zero => rw [hn] at this; exact this
    | succ n =>
      rw [hn] at this
      unfold runC at this
      rw [if_pos (by cases hc : c.fin <;> simp_all)] at this
      exact this
theorem start_ok (G : GF bs w vars) (h0 : bs[0]? = some b0) (hi : ins.length ≤ 6) (h1 : 1 ≤ w) (h2 : w ≤ 16) (hw : ∀ x ∈ ins, Wd w x) : CI bs w (c0 bs b0 ins) :=
  ⟨List.mem_map.mpr ⟨b0, List.mem_of_getElem? h0, rfl⟩, ok0 h1 h2 hw, by have := inL_len ins ins.length; show (inL ins ins.length).length + 0 ≤ _; omega⟩
theorem run_ok (G : GF bs w vars) (hk : 11 ≤ k) (h0 : bs[0]? = some b0) (hi : ins.length ≤ 6) (h1 : 1 ≤ w) (h2 : w ≤ 16) (hw : ∀ x ∈ ins, Wd w x) (h60 : fuel ≤ 100) :
    (evCall Lw.T k "run" [.tup [.int w, .int np, .tup (bs.map Bk.pv)], .tup (ins.map PV.int), .int fuel] h).Ok fun v h' => ∃ pw, v = .tup [.ref pw, enPv (runC bs w fuel (c0 bs b0 ins)).fin, .int (runC bs w fuel (c0 bs b0 ins)).acc.length] ∧ h'[pw]? = some (.lst ((runC bs w fuel (c0 bs b0 ins)).s.W.map PV.int)) ∧ Fk h h' := by
  obtain ⟨k, rfl⟩ : ∃ j, k = j + 1 := ⟨k - 1, by omega⟩
  have n6 := G.n
  have q3 : 3 ≤ sizeLine := by decide
  refine call_ok Lw.T_run rfl (by decide) ?_
  show (evSs (evCall Lw.T k) (.cons (.asg (.nm 3) (.mk "Runner" "Runner.__init__" (.cons (.var 0) (.cons (.var 1) .nil)))) (.cons (.whl tsT (.cons (.ex (.um "Runner" "Runner.block" "block" (.var 3) .nil)) .nil)) (.cons (.ret (.tup (.cons (.fld "Runner" (.var 3) "writes") (.cons (.fld "Runner" (.var 3) "ending") (.cons (.fld "Runner" (.var 3) "steps") .nil))))) .nil)))
    [some (.tup [.int w, .int np, .tup (bs.map Bk.pv)]), some (.tup (ins.map PV.int)), some (.int fuel), none] h).Rt _
  generalize hR : runC bs w fuel (c0 bs b0 ins) = R
  simp only [bnd_bnd, bnd_sbnd, sbnd_seq, seq_seq, seqC_ap, ss_cons, ss_nil, s_asg, s_ret, s_ite, s_ex, s_for, s_whl, e_non, e_bl, e_int, e_str, e_var, e_bin, e_neg, e_cmp, e_not, e_tup, e_lst, e_dic0, e_sub, e_call, e_bi, e_mt, kindG_same, e_isi, e_inv, e_lrg, e_fld, e_mk, e_um, e_kcall, e_lgen, e_rpr, s_sfld, s_augF, e_lc, e_dc, wipeP, new, evEs, evT, evTs, evP, evI, evG, bnd_ok, sbnd_ok, seq_nx, seq_rt, to_nx, go_nx, go_ct, rt_rt, ok_ok, slot, item0, item1, item2, item3, sub_t, i_int, i_abs, i_lenT, c_eqI, c_neI, c_eqS, c_neS, c_lt, c_le, c_gt, c_ge, asB_bl, iteC_t, iteC_f, iteC_d, b_add, b_sub, b_mul, b_mod, List.getElem?_cons_succ, List.getElem?_cons_zero]
  refine Out.Ok.rt (init_ok (by omega) G.nd (by omega) (by omega) h0) fun v h1' ⟨ev, H1, F1⟩ => ?_
  subst ev
  simp only [mkR, bnd_bnd, bnd_sbnd, sbnd_seq, seq_seq, seqC_ap, ss_cons, ss_nil, s_asg, s_ret, s_ite, s_ex, s_for, s_whl, e_non, e_bl, e_int, e_str, e_var, e_bin, e_neg, e_cmp, e_not, e_tup, e_lst, e_dic0, e_sub, e_call, e_bi, e_mt, kindG_same, e_isi, e_inv, e_lrg, e_fld, e_mk, e_um, e_kcall, e_lgen, e_rpr, s_sfld, s_augF, e_lc, e_dc, wipeP, new, evEs, evT, evTs, evP, evI, evG, bnd_ok, sbnd_ok, seq_nx, seq_rt, to_nx, go_nx, go_ct, rt_rt, ok_ok, slot, item0, item1, item2, item3, sub_t, i_int, i_abs, i_lenT, c_eqI, c_neI, c_eqS, c_neS, c_lt, c_le, c_gt, c_ge, asB_bl, iteC_t, iteC_f, iteC_d, b_add, b_sub, b_mul, b_mod, List.set_cons_succ, List.set_cons_zero]
  refine SO.To.rt (whl_ok (fun s' h' m => ∃ c, s' = [some (.tup [.int w, .int np, .tup (bs.map Bk.pv)]), some (.tup (ins.map PV.int)), some (.int fuel), some (.ref h.length)] ∧ PR bs w h h.length (h.length + 1) (h.length + 2) (h.length + 4) (h.length + 5) fuel R c h' ∧ m = fuel - c.acc.length)
    (fun s' h' => s' = [some (.tup [.int w, .int np, .tup (bs.map Bk.pv)]), some (.tup (ins.map PV.int)), some (.int fuel), some (.ref h.length)] ∧ PR bs w h h.length (h.length + 1) (h.length + 2) (h.length + 4) (h.length + 5) fuel R R h')
    fuel (Nat.lt_of_le_of_lt h60 (by decide)) ⟨c0 bs b0 ins, rfl, ⟨H1, start_ok G h0 hi h1 h2 hw, F1, Nat.le_refl _, hR, Nat.zero_le _⟩, rfl⟩ fun s' h' m ⟨c, es, P, em⟩ => ?_) fun s' h' ⟨es, P⟩ => ?_
  · subst es
    rw [test_ok P]
    show ite _ _ _
    by_cases e : (decide (c.fin = none) && decide (c.acc.length < fuel)) = true
    · rw [if_pos e]
      obtain ⟨e1, e2⟩ := (Bool.and_eq_true _ _).mp e
      have e1 := of_decide_eq_true e1
      have e2 := of_decide_eq_true e2
      have hu : umC (evCall Lw.T k) "Runner" "Runner.block" "block" .nil [some (.tup [.int w, .int np, .tup (bs.map Bk.pv)]), some (.tup (ins.map PV.int)), some (.int fuel), some (.ref h.length)] (.ref h.length) h' = (evEs (evCall Lw.T k) .nil _ h').bnd fun xs h2 => evCall Lw.T k "Runner.block" (.ref h.length :: xs) h2 := umC_at P.H.at_ look_no3
      simp only [bnd_bnd, bnd_sbnd, sbnd_seq, seq_seq, seqC_ap, ss_cons, ss_nil, s_asg, s_ret, s_ite, s_ex, s_for, s_whl, e_non, e_bl, e_int, e_str, e_var, e_bin, e_neg, e_cmp, e_not, e_tup, e_lst, e_dic0, e_sub, e_call, e_bi, e_mt, kindG_same, e_isi, e_inv, e_lrg, e_fld, e_mk, e_um, e_kcall, e_lgen, e_rpr, s_sfld, s_augF, e_lc, e_dc, wipeP, new, evEs, evT, evTs, evP, evI, evG, bnd_ok, sbnd_ok, seq_nx, seq_rt, to_nx, go_nx, go_ct, rt_rt, ok_ok, slot, item0, item1, item2, item3, sub_t, i_int, i_abs, i_lenT, c_eqI, c_neI, c_eqS, c_neS, c_lt, c_le, c_gt, c_ge, asB_bl, iteC_t, iteC_f, iteC_d, b_add, b_sub, b_mul, b_mod, List.getElem?_cons_succ, List.getElem?_cons_zero, hu]
      refine Out.Ok.go (turn_ok G P (by omega) e1 e2 h60) fun v h2 ⟨P2, ea⟩ => ?_
      simp only [bnd_bnd, bnd_sbnd, sbnd_seq, seq_seq, seqC_ap, ss_cons, ss_nil, s_asg, s_ret, s_ite, s_ex, s_for, s_whl, e_non, e_bl, e_int, e_str, e_var, e_bin, e_neg, e_cmp, e_not, e_tup, e_lst, e_dic0, e_sub, e_call, e_bi, e_mt, kindG_same, e_isi, e_inv, e_lrg, e_fld, e_mk, e_um, e_kcall, e_lgen, e_rpr, s_sfld, s_augF, e_lc, e_dc, wipeP, new, evEs, evT, evTs, evP, evI, evG, bnd_ok, sbnd_ok, seq_nx, seq_rt, to_nx, go_nx, go_ct, rt_rt, ok_ok, slot, item0, item1, item2, item3, sub_t, i_int, i_abs, i_lenT, c_eqI, c_neI, c_eqS, c_neS, c_lt, c_le, c_gt, c_ge, asB_bl, iteC_t, iteC_f, iteC_d, b_add, b_sub, b_mul, b_mod]
      refine ⟨_, ?_, _, trivial, P2, rfl⟩
      rw [ea, List.length_append, List.length_singleton]; omega
    · have e := Bool.not_eq_true _ |>.mp e
      rw [e, if_neg (by decide)]
      exact ⟨rfl, end_ok P e ▸ P⟩
  · subst es
    have f1 := fldF_at (f := "ending") P.H.at_ look_e
    have f2 := fldF_at (f := "steps") P.H.at_ look_n
    have f3 := fldF_at (f := "writes") P.H.at_ look_wr
    simp only [bnd_bnd, bnd_sbnd, sbnd_seq, seq_seq, seqC_ap, ss_cons, ss_nil, s_asg, s_ret, s_ite, s_ex, s_for, s_whl, e_non, e_bl, e_int, e_str, e_var, e_bin, e_neg, e_cmp, e_not, e_tup, e_lst, e_dic0, e_sub, e_call, e_bi, e_mt, kindG_same, e_isi, e_inv, e_lrg, e_fld, e_mk, e_um, e_kcall, e_lgen, e_rpr, s_sfld, s_augF, e_lc, e_dc, wipeP, new, evEs, evT, evTs, evP, evI, evG, bnd_ok, sbnd_ok, seq_nx, seq_rt, to_nx, go_nx, go_ct, rt_rt, ok_ok, slot, item0, item1, item2, item3, sub_t, i_int, i_abs, i_lenT, c_eqI, c_neI, c_eqS, c_neS, c_lt, c_le, c_gt, c_ge, asB_bl, iteC_t, iteC_f, iteC_d, b_add, b_sub, b_mul, b_mod, List.getElem?_cons_succ, List.getElem?_cons_zero, f1, f2, f3, List.length_cons, List.length_nil, q3, if_true]
    exact ⟨_, rfl, P.H.hw, P.F⟩
theorem trace_ok (G : GF bs w vars) (hk : 11 ≤ k) (h0 : bs[0]? = some b0) (hi : ins.length ≤ 6) (h1 : 1 ≤ w) (h2 : w ≤ 16) (hw : ∀ x ∈ ins, Wd w x) (h60 : fuel ≤ 100) :
    (evCall Lw.T k "trace" [.tup [.int w, .int np, .tup (bs.map Bk.pv)], .tup (ins.map PV.int), .int fuel] h).Ok fun v h' => v = .tup ((runC bs w fuel (c0 bs b0 ins)).acc.map PV.int) ∧ Fk h h' := by
  obtain ⟨k, rfl⟩ : ∃ j, k = j + 1 := ⟨k - 1, by omega⟩
  have n6 := G.n
  have hS : (1000 : Nat) ≤ sizeLine := by decide
  generalize hR : runC bs w fuel (c0 bs b0 ins) = R
  obtain ⟨v, h1', e1, ev, H1, F1⟩ := (init_ok (w := w) (np := np) (k := k) (h := h) (by omega) G.nd (by omega) (show ins.length ≤ 60 by omega) h0).ex
  subst ev
  have em : evS (evCall Lw.T k) (.asg (.nm 3) (.mk "Runner" "Runner.__init__" (.cons (.var 0) (.cons (.var 1) .nil)))) [some (.tup [.int w, .int np, .tup (bs.map Bk.pv)]), some (.tup (ins.map PV.int)), some (.int fuel), none] h = .nx [some (.tup [.int w, .int np, .tup (bs.map Bk.pv)]), some (.tup (ins.map PV.int)), some (.int fuel), some (.ref h.length)] h1' := by
    simp only [bnd_bnd, bnd_sbnd, sbnd_seq, seq_seq, seqC_ap, ss_cons, ss_nil, s_asg, s_ret, s_ite, s_ex, s_for, s_whl, e_non, e_bl, e_int, e_str, e_var, e_bin, e_neg, e_cmp, e_not, e_tup, e_lst, e_dic0, e_sub, e_call, e_bi, e_mt, kindG_same, e_isi, e_inv, e_lrg, e_fld, e_mk, e_um, e_kcall, e_lgen, e_rpr, s_sfld, s_augF, e_lc, e_dc, wipeP, new, evEs, evT, evTs, evP, evI, evG, bnd_ok, sbnd_ok, seq_nx, seq_rt, to_nx, go_nx, go_ct, rt_rt, ok_ok, slot, item0, item1, item2, item3, sub_t, i_int, i_abs, i_lenT, c_eqI, c_neI, c_eqS, c_neS, c_lt, c_le, c_gt, c_ge, asB_bl, iteC_t, iteC_f, iteC_d, b_add, b_sub, b_mul, b_mod, List.getElem?_cons_succ, List.getElem?_cons_zero, e1, mkR, List.set_cons_succ, List.set_cons_zero]
  obtain ⟨ys', s', h', e2, es, eY, P⟩ := ywhl_inv (c := evT (evCall Lw.T k) tsT) (b := evYs (evCall Lw.T k) (.cons (.yld (.fld "Runner" (.var 3) "label")) (.cons (.pl (.ex (.um "Runner" "Runner.block" "block" (.var 3) .nil))) .nil)))
    (fun ys s' h' m => ∃ c, s' = [some (.tup [.int w, .int np, .tup (bs.map Bk.pv)]), some (.tup (ins.map PV.int)), some (.int fuel), some (.ref h.length)] ∧ ys = c.acc.map PV.int ∧ PR bs w h h.length (h.length + 1) (h.length + 2) (h.length + 4) (h.length + 5) fuel R c h' ∧ m = fuel - c.acc.length)
    (fun ys s' h' => s' = [some (.tup [.int w, .int np, .tup (bs.map Bk.pv)]), some (.tup (ins.map PV.int)), some (.int fuel), some (.ref h.length)] ∧ ys = R.acc.map PV.int ∧ PR bs w h h.length (h.length + 1) (h.length + 2) (h.length + 4) (h.length + 5) fuel R R h')
    (fun ys s' h' m ⟨c, es, ey, P, em⟩ => by
      subst es ey
      rw [test_ok P]
      show ite _ _ _
      by_cases e : (decide (c.fin = none) && decide (c.acc.length < fuel)) = true
      · rw [if_pos e]
        obtain ⟨e1, e2⟩ := (Bool.and_eq_true _ _).mp e
        have e1 := of_decide_eq_true e1
        have e2 := of_decide_eq_true e2
        obtain ⟨v, h2, e3, P2, ea⟩ := (turn_ok G P (by omega : 9 ≤ k) e1 e2 h60).ex
        have hu : umC (evCall Lw.T k) "Runner" "Runner.block" "block" .nil [some (.tup [.int w, .int np, .tup (bs.map Bk.pv)]), some (.tup (ins.map PV.int)), some (.int fuel), some (.ref h.length)] (.ref h.length) h' = (evEs (evCall Lw.T k) .nil _ h').bnd fun xs h2 => evCall Lw.T k "Runner.block" (.ref h.length :: xs) h2 := umC_at P.H.at_ look_no3
        have f2 := fldF_at (f := "label") P.H.at_ look_l
        refine ⟨(c.acc ++ [c.l]).map PV.int, _, h2, fuel - (c.acc.length + 1), ?_, by omega, _, rfl, by rw [ea], P2, by rw [ea, List.length_append, List.length_singleton]⟩
        unfold evYs evY
        have hy : (c.acc.map PV.int).length < sizeLine := by rw [List.length_map]; omega
        have ey : evE (evCall Lw.T k) (.fld "Runner" (.var 3) "label") [some (.tup [.int w, .int np, .tup (bs.map Bk.pv)]), some (.tup (ins.map PV.int)), some (.int fuel), some (.ref h.length)] h' = ok (.int c.l) h' := by
          simp only [bnd_bnd, bnd_sbnd, sbnd_seq, seq_seq, seqC_ap, ss_cons, ss_nil, s_asg, s_ret, s_ite, s_ex, s_for, s_whl, e_non, e_bl, e_int, e_str, e_var, e_bin, e_neg, e_cmp, e_not, e_tup, e_lst, e_dic0, e_sub, e_call, e_bi, e_mt, kindG_same, e_isi, e_inv, e_lrg, e_fld, e_mk, e_um, e_kcall, e_lgen, e_rpr, s_sfld, s_augF, e_lc, e_dc, wipeP, new, evEs, evT, evTs, evP, evI, evG, bnd_ok, sbnd_ok, seq_nx, seq_rt, to_nx, go_nx, go_ct, rt_rt, ok_ok, slot, item0, item1, item2, item3, sub_t, i_int, i_abs, i_lenT, c_eqI, c_neI, c_eqS, c_neS, c_lt, c_le, c_gt, c_ge, asB_bl, iteC_t, iteC_f, iteC_d, b_add, b_sub, b_mul, b_mod, List.getElem?_cons_succ, List.getElem?_cons_zero, f2]
        rw [if_pos hy, ey]
        show evYs (evCall Lw.T k) (.cons (.pl (.ex (.um "Runner" "Runner.block" "block" (.var 3) .nil))) .nil) _ _ _ = _
        unfold evYs evY
        have ex : evS (evCall Lw.T k) (.ex (.um "Runner" "Runner.block" "block" (.var 3) .nil)) [some (.tup [.int w, .int np, .tup (bs.map Bk.pv)]), some (.tup (ins.map PV.int)), some (.int fuel), some (.ref h.length)] h' = .nx [some (.tup [.int w, .int np, .tup (bs.map Bk.pv)]), some (.tup (ins.map PV.int)), some (.int fuel), some (.ref h.length)] h2 := by
          simp only [bnd_bnd, bnd_sbnd, sbnd_seq, seq_seq, seqC_ap, ss_cons, ss_nil, s_asg, s_ret, s_ite, s_ex, s_for, s_whl, e_non, e_bl, e_int, e_str, e_var, e_bin, e_neg, e_cmp, e_not, e_tup, e_lst, e_dic0, e_sub, e_call, e_bi, e_mt, kindG_same, e_isi, e_inv, e_lrg, e_fld, e_mk, e_um, e_kcall, e_lgen, e_rpr, s_sfld, s_augF, e_lc, e_dc, wipeP, new, evEs, evT, evTs, evP, evI, evG, bnd_ok, sbnd_ok, seq_nx, seq_rt, to_nx, go_nx, go_ct, rt_rt, ok_ok, slot, item0, item1, item2, item3, sub_t, i_int, i_abs, i_lenT, c_eqI, c_neI, c_eqS, c_neS, c_lt, c_le, c_gt, c_ge, asB_bl, iteC_t, iteC_f, iteC_d, b_add, b_sub, b_mul, b_mod, List.getElem?_cons_succ, List.getElem?_cons_zero, hu, e3]
        rw [ex]
        unfold evYs
        rw [List.map_append]
        rfl
      · have e := Bool.not_eq_true _ |>.mp e
        rw [e, if_neg (by decide)]
        have := end_ok P e
        exact ⟨rfl, by rw [this], this ▸ P⟩)
    big fuel [] _ h1' (Nat.lt_of_le_of_lt h60 (by decide)) ⟨c0 bs b0 ins, rfl, rfl, ⟨H1, start_ok G h0 hi h1 h2 hw, F1, Nat.le_refl _, hR, Nat.zero_le _⟩, rfl⟩
  have q : evYs (evCall Lw.T k) Lw.b_trace [] [some (.tup [.int w, .int np, .tup (bs.map Bk.pv)]), some (.tup (ins.map PV.int)), some (.int fuel), none] h = .nx ys' s' h' := by
    unfold Lw.b_trace evYs evY
    rw [em]
    show evYs (evCall Lw.T k) (.cons (.whl tsT _) .nil) [] _ h1' = _
    unfold evYs evY
    rw [e2]
    unfold evYs
    rfl
  rw [call_gen Lw.T_trace rfl rfl (by decide) q]
  exact ⟨by rw [eY], P.F⟩
end
end
end K03

set_option Elab.async false
set_option linter.all false
set_option maxRecDepth 100000
set_option maxHeartbeats 4000000
namespace MP
open Out (ok bad)
def SO.Nr (o : SO) (N : PSt → PH → Prop) (R : PV → PH → Prop) : Prop :=
  match o with
  | .nx s h => N s h
  | .ct s h => N s h
  | .rt v h => R v h
  | _ => False
def SO.Nx (o : SO) (N : PSt → PH → Prop) (R : PV → PH → Prop) : Prop :=
  match o with
  | .nx s h => N s h
  | .rt v h => R v h
  | _ => False
theorem nr_nx {s : PSt} {h : PH} {N : PSt → PH → Prop} {R : PV → PH → Prop} : (SO.nx s h).Nr N R = N s h := rfl
theorem nr_rt {v : PV} {h : PH} {N : PSt → PH → Prop} {R : PV → PH → Prop} : (SO.rt v h).Nr N R = R v h := rfl
theorem SO.Nx.rt {o : SO} {N : PSt → PH → Prop} {R : PV → PH → Prop} {f : PSt → PH → SO} (e : o.Nx N R) (k : ∀ s h, N s h → (f s h).Rt R) : (o.seq f).Rt R := by
  cases o <;> first | exact k _ _ e | exact e | exact e.elim
theorem Out.Ok.nr {α : Type} {o : Out α} {Q : α → PH → Prop} {f : α → PH → SO} {N : PSt → PH → Prop} {R : PV → PH → Prop} (e : o.Ok Q) (k : ∀ v h, Q v h → (f v h).Nr N R) : (o.sbnd f).Nr N R := by
  obtain ⟨v, h, rfl, q⟩ := e.ex; exact k v h q
theorem SO.To.nr {o : SO} {Q : PSt → PH → Prop} {f : PSt → PH → SO} {N : PSt → PH → Prop} {R : PV → PH → Prop} (e : o.To Q) (k : ∀ s h, Q s h → (f s h).Nr N R) : (o.seq f).Nr N R := by
  obtain ⟨v, h, rfl, q⟩ := e.ex; exact k v h q
theorem whl_nr {c : PSt → PH → Out Bool} {b : PSt → PH → SO} (P : PSt → PH → Nat → Prop) (Q : PSt → PH → Prop) (Rr : PV → PH → Prop)
    (step : ∀ s h m, P s h m → (c s h).Ok fun k h1 => if k = true then (b s h1).Nr (fun s' h' => ∃ m', m' < m ∧ P s' h' m') Rr else Q s h1) :
    ∀ (n m : Nat) (s : PSt) (h : PH), m < n → P s h m → (whl c b n s h).Nx Q Rr := by
  intro n
  induction n with
  | zero => intro m s h e; omega
  | succ n ih =>
    intro m s h e p
    unfold whl
    obtain ⟨k, h1, e1, q⟩ := (step s h m p).ex
    rw [e1, sbnd_ok]
    cases k with
    | false => rw [if_neg Bool.false_ne_true] at q ⊢; exact q
    | true =>
      rw [if_pos rfl] at q ⊢
      cases eb : b s h1 with
      | nx s1 h1 => rw [eb] at q; obtain ⟨m', lt, p'⟩ := q; exact ih m' s1 h1 (by omega) p'
      | ct s1 h1 => rw [eb] at q; obtain ⟨m', lt, p'⟩ := q; exact ih m' s1 h1 (by omega) p'
      | bk _ _ => rw [eb] at q; exact q.elim
      | rt _ _ => rw [eb] at q; exact q
      | exc _ _ => rw [eb] at q; exact q.elim
      | bad => rw [eb] at q; exact q.elim
theorem whl_nr' {C : PySem.Str → List PV → PH → Out PV} {c : T} {b : Ss} {s : PSt} {h : PH} (P : PSt → PH → Nat → Prop) (Q : PSt → PH → Prop) (Rr : PV → PH → Prop) (m : Nat) (hm : m < big) (p : P s h m)
    (step : ∀ s h m, P s h m → (evT C c s h).Ok fun k h1 => if k = true then (evSs C b s h1).Nr (fun s' h' => ∃ m', m' < m ∧ P s' h' m') Rr else Q s h1) : (whlC C c b s h).Nx Q Rr := whl_nr P Q Rr step big m s h hm p
end MP
namespace K03
open PySem MP Ar
open Out (ok bad)
/-- the law's own places -/
structure LH (pv pm pw pl : Nat) (s : Sto) (acc : List Int) (h : PH) : Prop where
  hv : h[pv]? = some (.dic (dI s.L))
  hm : h[pm]? = some (.lst (s.M.map PV.int))
  hw : h[pw]? = some (.lst (s.W.map PV.int))
  hl : h[pl]? = some (.lst (acc.map PV.int))
  o2 : pv < pm
  o3 : pm < pw
  o4 : pw < pl
section
variable {bs : List Bk} {w np : Int} {vars ins acc : List Int} {c R : Cfg} {h h0 h' : PH} {k pv pm pw pl : Nat} {b b0 : Bk} {s : Sto}
theorem LH.fk (H : LH pv pm pw pl s acc h) (F : Fk h h') : LH pv pm pw pl s acc h' := ⟨F.at H.hv, F.at H.hm, F.at H.hw, F.at H.hl, H.o2, H.o3, H.o4⟩
theorem LH.setV (H : LH pv pm pw pl s acc h) (L : List (Int × Int)) : LH pv pm pw pl { s with L := L } acc (h.set pv (.dic (dI L))) := by
  obtain ⟨a, b, c, d, o2, o3, o4⟩ := H
  exact ⟨List.getElem?_set_self (lt_of_some a), by rw [List.getElem?_set_ne (by omega)]; exact b, by rw [List.getElem?_set_ne (by omega)]; exact c, by rw [List.getElem?_set_ne (by omega)]; exact d, o2, o3, o4⟩
theorem LH.setM (H : LH pv pm pw pl s acc h) (M : List Int) : LH pv pm pw pl { s with M := M } acc (h.set pm (.lst (M.map PV.int))) := by
  obtain ⟨a, b, c, d, o2, o3, o4⟩ := H
  exact ⟨by rw [List.getElem?_set_ne (by omega)]; exact a, List.getElem?_set_self (lt_of_some b), by rw [List.getElem?_set_ne (by omega)]; exact c, by rw [List.getElem?_set_ne (by omega)]; exact d, o2, o3, o4⟩
theorem LH.setW (H : LH pv pm pw pl s acc h) (W : List Int) : LH pv pm pw pl { s with W := W } acc (h.set pw (.lst (W.map PV.int))) := by
  obtain ⟨a, b, c, d, o2, o3, o4⟩ := H
  exact ⟨by rw [List.getElem?_set_ne (by omega)]; exact a, by rw [List.getElem?_set_ne (by omega)]; exact b, List.getElem?_set_self (lt_of_some c), by rw [List.getElem?_set_ne (by omega)]; exact d, o2, o3, o4⟩
theorem LH.setA (H : LH pv pm pw pl s acc h) (A : List Int) : LH pv pm pw pl s A (h.set pl (.lst (A.map PV.int))) := by
  obtain ⟨a, b, c, d, o2, o3, o4⟩ := H
  exact ⟨by rw [List.getElem?_set_ne (by omega)]; exact a, by rw [List.getElem?_set_ne (by omega)]; exact b, by rw [List.getElem?_set_ne (by omega)]; exact c, List.getElem?_set_self (lt_of_some d), o2, o3, o4⟩
def lsB : Ss := (.cons (.ite (.cmp .Eq (.sub (.var 11) (.int 0)) (.str "set")) (.cons (.asg (.sub (.var 4) (.sub (.var 11) (.int 1))) (.call "_law_value" (.cons (.var 3) (.cons (.sub (.var 11) (.int 2)) (.cons (.var 4) (.cons (.var 6) .nil))))))
    .nil) (.cons (.ite (.cmp .Eq (.sub (.var 11) (.int 0)) (.str "write")) (.cons (.ex (.mt .append (.var 7) (.cons (.call "_law_value" (.cons (.var 3) (.cons (.sub (.var 11) (.int 1)) (.cons (.var 4) (.cons (.var 6) .nil))))) .nil)))
    .nil) (.cons (.asg (.nm 12) (.call "_law_value" (.cons (.var 3) (.cons (.sub (.var 11) (.int 2)) (.cons (.var 4) (.cons (.var 6) .nil))))))
    (.cons (.asg (.sub (.var 6) (.bin .Mod (.call "_law_value" (.cons (.var 3) (.cons (.sub (.var 11) (.int 1)) (.cons (.var 4) (.cons (.var 6) .nil))))) (.int 16))) (.var 12))
    .nil)))
    .nil))
    .nil)
theorem lstmt_ok {st : Sm} {a0 a1 a2 a5 a9 a10 a12 a13 a14 : Option PV} (hk : 6 ≤ k) (H : LH pv pm pw pl s acc h) (K : Ok w s) (g : st.good w vars) (hz : sz s < 999) (hn : h0.length ≤ pv) (F : Fk h0 h) :
    (evSs (evCall Lw.T k) lsB [a0, a1, a2, some (.int w), some (.ref pv), a5, some (.ref pm), some (.ref pw), some (.ref pl), a9, a10, some st.pv, a12, a13, a14] h).To fun s' h' => ∃ a12, s' = [a0, a1, a2, some (.int w), some (.ref pv), a5, some (.ref pm), some (.ref pw), some (.ref pl), a9, a10, some st.pv, a12, a13, a14] ∧ LH pv pm pw pl (exS w s st) acc h' ∧ Fk h0 h' := by
  have hz2 : s.L.length + s.W.length < 999 := hz
  have q2 := H.o2; have q3 := H.o3; have q4 := H.o4
  unfold lsB
  cases st with
  | set v e =>
    simp only [Sm.pv, bnd_bnd, bnd_sbnd, sbnd_seq, seq_seq, seqC_ap, ss_cons, ss_nil, s_asg, s_ret, s_ite, s_ex, s_for, s_whl, e_non, e_bl, e_int, e_str, e_var, e_bin, e_neg, e_cmp, e_not, e_tup, e_lst, e_dic0, e_sub, e_call, e_bi, e_mt, kindG_same, e_isi, e_inv, e_lrg, e_fld, e_mk, e_um, e_kcall, e_lgen, e_rpr, s_sfld, s_augF, e_lc, e_dc, wipeP, new, evEs, evT, evTs, evP, evI, evG, bnd_ok, sbnd_ok, seq_nx, seq_rt, to_nx, go_nx, go_ct, rt_rt, ok_ok, slot, item0, item1, item2, item3, sub_t, i_int, i_abs, i_lenT, c_eqI, c_neI, c_eqS, c_neS, c_lt, c_le, c_gt, c_ge, asB_bl, iteC_t, iteC_f, iteC_d, b_add, b_sub, b_mul, b_mod, List.getElem?_cons_succ, List.getElem?_cons_zero, List.set_cons_succ, List.set_cons_zero, decide_true, if_true]
    refine Out.Ok.to (lvalue_ok 3 e k h g.2.2 (by omega) g.2.1 H.hv H.hm K) fun v2 h2 ⟨ev, F2⟩ => ?_
    subst ev
    have H2 := H.fk F2
    simp only [bnd_bnd, bnd_sbnd, sbnd_seq, seq_seq, seqC_ap, ss_cons, ss_nil, s_asg, s_ret, s_ite, s_ex, s_for, s_whl, e_non, e_bl, e_int, e_str, e_var, e_bin, e_neg, e_cmp, e_not, e_tup, e_lst, e_dic0, e_sub, e_call, e_bi, e_mt, kindG_same, e_isi, e_inv, e_lrg, e_fld, e_mk, e_um, e_kcall, e_lgen, e_rpr, s_sfld, s_augF, e_lc, e_dc, wipeP, new, evEs, evT, evTs, evP, evI, evG, bnd_ok, sbnd_ok, seq_nx, seq_rt, to_nx, go_nx, go_ct, rt_rt, ok_ok, slot, item0, item1, item2, item3, sub_t, i_int, i_abs, i_lenT, c_eqI, c_neI, c_eqS, c_neS, c_lt, c_le, c_gt, c_ge, asB_bl, iteC_t, iteC_f, iteC_d, b_add, b_sub, b_mul, b_mod, List.getElem?_cons_succ, List.getElem?_cons_zero, set_dI H2.hv (show s.L.length < 1000 by omega)]
    exact ⟨_, rfl, H2.setV _, fk_set (F.trans F2) hn⟩
  | write e =>
    simp only [Sm.pv, bnd_bnd, bnd_sbnd, sbnd_seq, seq_seq, seqC_ap, ss_cons, ss_nil, s_asg, s_ret, s_ite, s_ex, s_for, s_whl, e_non, e_bl, e_int, e_str, e_var, e_bin, e_neg, e_cmp, e_not, e_tup, e_lst, e_dic0, e_sub, e_call, e_bi, e_mt, kindG_same, e_isi, e_inv, e_lrg, e_fld, e_mk, e_um, e_kcall, e_lgen, e_rpr, s_sfld, s_augF, e_lc, e_dc, wipeP, new, evEs, evT, evTs, evP, evI, evG, bnd_ok, sbnd_ok, seq_nx, seq_rt, to_nx, go_nx, go_ct, rt_rt, ok_ok, slot, item0, item1, item2, item3, sub_t, i_int, i_abs, i_lenT, c_eqI, c_neI, c_eqS, c_neS, c_lt, c_le, c_gt, c_ge, asB_bl, iteC_t, iteC_f, iteC_d, b_add, b_sub, b_mul, b_mod, List.getElem?_cons_succ, List.getElem?_cons_zero, List.set_cons_succ, List.set_cons_zero, decide_true, if_true, decide_false, if_false, ne_write_add, ne_write_sub, ne_write_mul, ne_write_and, ne_write_or, ne_write_xor, ne_write_shl, ne_write_shr, ne_write_less, ne_write_equal, ne_write_not, ne_write_neg, ne_write_int, ne_write_var, ne_write_load, ne_write_set, ne_write_store, ne_write_go, ne_write_if, ne_write_return, ne_write_none]
    refine Out.Ok.to (lvalue_ok 3 e k h g.2 (by omega) g.1 H.hv H.hm K) fun v2 h2 ⟨ev, F2⟩ => ?_
    subst ev
    have H2 := H.fk F2
    have kk : kind (.ref pw) h = kind (.ref pw) h2 := by simp only [kind, H.hw, H2.hw]
    simp only [bnd_bnd, bnd_sbnd, sbnd_seq, seq_seq, seqC_ap, ss_cons, ss_nil, s_asg, s_ret, s_ite, s_ex, s_for, s_whl, e_non, e_bl, e_int, e_str, e_var, e_bin, e_neg, e_cmp, e_not, e_tup, e_lst, e_dic0, e_sub, e_call, e_bi, e_mt, kindG_same, e_isi, e_inv, e_lrg, e_fld, e_mk, e_um, e_kcall, e_lgen, e_rpr, s_sfld, s_augF, e_lc, e_dc, wipeP, new, evEs, evT, evTs, evP, evI, evG, bnd_ok, sbnd_ok, seq_nx, seq_rt, to_nx, go_nx, go_ct, rt_rt, ok_ok, slot, item0, item1, item2, item3, sub_t, i_int, i_abs, i_lenT, c_eqI, c_neI, c_eqS, c_neS, c_lt, c_le, c_gt, c_ge, asB_bl, iteC_t, iteC_f, iteC_d, b_add, b_sub, b_mul, b_mod, kindG_eq kk, app_w H2.hw (show s.W.length < 1000 by omega)]
    exact ⟨_, rfl, H2.setW _, fk_set (F.trans F2) (by omega)⟩
  | store a b =>
    simp only [Sm.pv, bnd_bnd, bnd_sbnd, sbnd_seq, seq_seq, seqC_ap, ss_cons, ss_nil, s_asg, s_ret, s_ite, s_ex, s_for, s_whl, e_non, e_bl, e_int, e_str, e_var, e_bin, e_neg, e_cmp, e_not, e_tup, e_lst, e_dic0, e_sub, e_call, e_bi, e_mt, kindG_same, e_isi, e_inv, e_lrg, e_fld, e_mk, e_um, e_kcall, e_lgen, e_rpr, s_sfld, s_augF, e_lc, e_dc, wipeP, new, evEs, evT, evTs, evP, evI, evG, bnd_ok, sbnd_ok, seq_nx, seq_rt, to_nx, go_nx, go_ct, rt_rt, ok_ok, slot, item0, item1, item2, item3, sub_t, i_int, i_abs, i_lenT, c_eqI, c_neI, c_eqS, c_neS, c_lt, c_le, c_gt, c_ge, asB_bl, iteC_t, iteC_f, iteC_d, b_add, b_sub, b_mul, b_mod, List.getElem?_cons_succ, List.getElem?_cons_zero, List.set_cons_succ, List.set_cons_zero, decide_true, if_true, decide_false, if_false, ne_store_add, ne_store_sub, ne_store_mul, ne_store_and, ne_store_or, ne_store_xor, ne_store_shl, ne_store_shr, ne_store_less, ne_store_equal, ne_store_not, ne_store_neg, ne_store_int, ne_store_var, ne_store_load, ne_store_set, ne_store_write, ne_store_go, ne_store_if, ne_store_return, ne_store_none]
    refine Out.Ok.to (lvalue_ok 3 b k h g.2.2 (by omega) g.2.1 H.hv H.hm K) fun v2 h2 ⟨ev, F2⟩ => ?_
    subst ev
    have H2 := H.fk F2
    refine Out.Ok.to (lvalue_ok 3 a k h2 g.1.2 (by omega) g.1.1 H2.hv H2.hm K) fun v2 h3 ⟨ev, F3⟩ => ?_
    subst ev
    have H3 := H2.fk F3
    simp only [bnd_bnd, bnd_sbnd, sbnd_seq, seq_seq, seqC_ap, ss_cons, ss_nil, s_asg, s_ret, s_ite, s_ex, s_for, s_whl, e_non, e_bl, e_int, e_str, e_var, e_bin, e_neg, e_cmp, e_not, e_tup, e_lst, e_dic0, e_sub, e_call, e_bi, e_mt, kindG_same, e_isi, e_inv, e_lrg, e_fld, e_mk, e_um, e_kcall, e_lgen, e_rpr, s_sfld, s_augF, e_lc, e_dc, wipeP, new, evEs, evT, evTs, evP, evI, evG, bnd_ok, sbnd_ok, seq_nx, seq_rt, to_nx, go_nx, go_ct, rt_rt, ok_ok, slot, item0, item1, item2, item3, sub_t, i_int, i_abs, i_lenT, c_eqI, c_neI, c_eqS, c_neS, c_lt, c_le, c_gt, c_ge, asB_bl, iteC_t, iteC_f, iteC_d, b_add, b_sub, b_mul, b_mod, b_mod (show (0 : Int) < 16 by decide), set_mem K H3.hm]
    exact ⟨_, rfl, H3.setM _, fk_set ((F.trans F2).trans F3) (by omega)⟩
theorem pick_ok {C : Str → List PV → PH → Out PV} {a1 a2 a3 a4 a5 a6 a7 a8 a10 a11 a12 a13 a14 : Option PV} (nd : (bs.map Bk.l).Nodup) (n6 : bs.length ≤ 6) (hb : b ∈ bs) :
    (evE C (.sub (.lc (.var 14) (.nm 14) (.ex (.sub (.var 0) (.int 2))) (.cons (.cmp .Eq (.sub (.var 14) (.int 0)) (.var 9)) .nil) [14]) (.int 0)) [some (.tup [.int w, .int np, .tup (bs.map Bk.pv)]), a1, a2, a3, a4, a5, a6, a7, a8, some (.int b.l), a10, a11, a12, a13, a14] h).Ok fun r h' => r = b.pv ∧ Fk h h' := by
  have hS : (64 : Nat) ≤ sizeLine := by decide
  simp only [bnd_bnd, bnd_sbnd, sbnd_seq, seq_seq, seqC_ap, ss_cons, ss_nil, s_asg, s_ret, s_ite, s_ex, s_for, s_whl, e_non, e_bl, e_int, e_str, e_var, e_bin, e_neg, e_cmp, e_not, e_tup, e_lst, e_dic0, e_sub, e_call, e_bi, e_mt, kindG_same, e_isi, e_inv, e_lrg, e_fld, e_mk, e_um, e_kcall, e_lgen, e_rpr, s_sfld, s_augF, e_lc, e_dc, wipeP, new, evEs, evT, evTs, evP, evI, evG, bnd_ok, sbnd_ok, seq_nx, seq_rt, to_nx, go_nx, go_ct, rt_rt, ok_ok, slot, item0, item1, item2, item3, sub_t, i_int, i_abs, i_lenT, c_eqI, c_neI, c_eqS, c_neS, c_lt, c_le, c_gt, c_ge, asB_bl, iteC_t, iteC_f, iteC_d, b_add, b_sub, b_mul, b_mod, List.getElem?_cons_succ, List.getElem?_cons_zero]
  refine Out.Ok.bnd (each_vals (fun i acc h' => acc = ((bs.take i).filter fun c => decide (c.l = b.l)).map Bk.pv ∧ h' = h) ⟨rfl, rfl⟩ fun i y acc h1 hy ⟨ea, eh⟩ => ?_) fun acc h1 ⟨ea, eh⟩ => ?_
  · subst ea eh
    rw [List.getElem?_map, Option.map_eq_some_iff] at hy
    obtain ⟨c, hc, rfl⟩ := hy
    have etk : bs.take (i + 1) = bs.take i ++ [c] := by rw [List.take_add_one, hc]; rfl
    have b2 := List.length_filter_le (fun c => decide (c.l = b.l)) (bs.take i)
    have b3 := List.length_take_le i bs
    have b4 := lt_of_some hc
    have e0 : ∀ hh : PH, subF c.pv (.int 0) hh = ok (.int c.l) hh := by
      intro hh; rw [show c.pv = .tup [.int c.l, .tup (c.ss.map Sm.pv), c.en.pv] from rfl]; simp only [sub_t, item0]
    unfold lcC
    simp only [bnd_bnd, bnd_sbnd, sbnd_seq, seq_seq, seqC_ap, ss_cons, ss_nil, s_asg, s_ret, s_ite, s_ex, s_for, s_whl, e_non, e_bl, e_int, e_str, e_var, e_bin, e_neg, e_cmp, e_not, e_tup, e_lst, e_dic0, e_sub, e_call, e_bi, e_mt, kindG_same, e_isi, e_inv, e_lrg, e_fld, e_mk, e_um, e_kcall, e_lgen, e_rpr, s_sfld, s_augF, e_lc, e_dc, wipeP, new, evEs, evT, evTs, evP, evI, evG, bnd_ok, sbnd_ok, seq_nx, seq_rt, to_nx, go_nx, go_ct, rt_rt, ok_ok, slot, item0, item1, item2, item3, sub_t, i_int, i_abs, i_lenT, c_eqI, c_neI, c_eqS, c_neS, c_lt, c_le, c_gt, c_ge, asB_bl, iteC_t, iteC_f, iteC_d, b_add, b_sub, b_mul, b_mod, List.getElem?_cons_succ, List.getElem?_cons_zero, List.set_cons_succ, List.set_cons_zero]
    rw [e0, bnd_ok, c_eqI, bnd_ok, asB_bl, bnd_ok]
    rw [etk, List.filter_append, List.map_append]
    by_cases e : c.l = b.l
    · rw [List.filter_cons_of_pos (by simpa using e)]
      simp only [e, decide_true, if_true, bnd_bnd, bnd_sbnd, sbnd_seq, seq_seq, seqC_ap, ss_cons, ss_nil, s_asg, s_ret, s_ite, s_ex, s_for, s_whl, e_non, e_bl, e_int, e_str, e_var, e_bin, e_neg, e_cmp, e_not, e_tup, e_lst, e_dic0, e_sub, e_call, e_bi, e_mt, kindG_same, e_isi, e_inv, e_lrg, e_fld, e_mk, e_um, e_kcall, e_lgen, e_rpr, s_sfld, s_augF, e_lc, e_dc, wipeP, new, evEs, evT, evTs, evP, evI, evG, bnd_ok, sbnd_ok, seq_nx, seq_rt, to_nx, go_nx, go_ct, rt_rt, ok_ok, slot, item0, item1, item2, item3, sub_t, i_int, i_abs, i_lenT, c_eqI, c_neI, c_eqS, c_neS, c_lt, c_le, c_gt, c_ge, asB_bl, iteC_t, iteC_f, iteC_d, b_add, b_sub, b_mul, b_mod]
      rw [if_pos (by rw [List.length_map]; omega), ok_ok]
      exact ⟨rfl, rfl⟩
    · rw [List.filter_cons_of_neg (by simpa using e)]
      simp only [e, decide_false, if_false, Bool.false_eq_true, bnd_bnd, bnd_sbnd, sbnd_seq, seq_seq, seqC_ap, ss_cons, ss_nil, s_asg, s_ret, s_ite, s_ex, s_for, s_whl, e_non, e_bl, e_int, e_str, e_var, e_bin, e_neg, e_cmp, e_not, e_tup, e_lst, e_dic0, e_sub, e_call, e_bi, e_mt, kindG_same, e_isi, e_inv, e_lrg, e_fld, e_mk, e_um, e_kcall, e_lgen, e_rpr, s_sfld, s_augF, e_lc, e_dc, wipeP, new, evEs, evT, evTs, evP, evI, evG, bnd_ok, sbnd_ok, seq_nx, seq_rt, to_nx, go_nx, go_ct, rt_rt, ok_ok, slot, item0, item1, item2, item3, sub_t, i_int, i_abs, i_lenT, c_eqI, c_neI, c_eqS, c_neS, c_lt, c_le, c_gt, c_ge, asB_bl, iteC_t, iteC_f, iteC_d, b_add, b_sub, b_mul, b_mod]
      exact ⟨by simp, trivial⟩
  · subst ea eh
    rw [List.length_map, List.take_length]
    obtain ⟨c, r, e⟩ : ∃ c r, (bs.filter fun c => decide (c.l = b.l)) = c :: r := by
      cases hf : bs.filter fun c => decide (c.l = b.l) with
      | nil =>
        have : b ∈ bs.filter fun c => decide (c.l = b.l) := List.mem_filter.mpr ⟨hb, by simp⟩
        rw [hf] at this; cases this
      | cons c r => exact ⟨c, r, rfl⟩
    have hc : c ∈ bs.filter fun c => decide (c.l = b.l) := by rw [e]; simp
    obtain ⟨c1, c2⟩ := List.mem_filter.mp hc
    have := bk_eq nd c1 hb (by simpa using c2)
    subst this
    rw [sub_l (at_new (h := h1)), e, List.map_cons, item0, ok_ok]
    exact ⟨rfl, Fk.new⟩
theorem run_fin {n : Nat} (e : c.fin.isSome = true) : runC bs w n c = c := by
  cases n with
  | zero => rfl
  | succ n => unfold runC; rw [if_pos e]
def QR (R : Cfg) (h : PH) (v : PV) (h' : PH) : Prop := ∃ pw pl, v = .tup [.ref pw, enPv R.fin, .int R.acc.length, .ref pl] ∧ h'[pw]? = some (.lst (R.s.W.map PV.int)) ∧ h'[pl]? = some (.lst (R.acc.map PV.int)) ∧ Fk h h'
/-- what holds while the law's own run goes -/
structure PL (bs : List Bk) (w : Int) (h : PH) (pv pm pw pl : Nat) (fuel : Nat) (R c : Cfg) (h' : PH) : Prop where
  H : LH pv pm pw pl c.s c.acc h'
  I : CI bs w c
  F : Fk h h'
  lo : h.length ≤ pv
  run : runC bs w (fuel - c.acc.length) c = R
  le : c.acc.length ≤ fuel
  fin : c.fin = none
def ltB : Ss := (.cons (.asg (.nm 10) (.sub (.lc (.var 14) (.nm 14) (.ex (.sub (.var 0) (.int 2))) (.cons (.cmp .Eq (.sub (.var 14) (.int 0)) (.var 9)) .nil) [14]) (.int 0)))
    (.cons (.ex (.mt .append (.var 8) (.cons (.var 9) .nil)))
    (.cons (.frr (.nm 11) (.ex (.sub (.var 10) (.int 1))) lsB)
    (.cons (.asg (.nm 13) (.sub (.var 10) (.int 2)))
    (.cons (.ite (.cmp .Eq (.sub (.var 13) (.int 0)) (.str "return")) (.cons (.ret (.tup (.cons (.var 7) (.cons (.tup (.cons (.str "return") (.cons (.call "_law_value" (.cons (.var 3) (.cons (.sub (.var 13) (.int 1)) (.cons (.var 4) (.cons (.var 6) .nil))))) .nil))) (.cons (.bi .len (.cons (.var 8) .nil)) (.cons (.var 8) .nil))))))
    .nil) .nil)
    (.cons (.asg (.nm 9) (.ite (.cmp .Eq (.sub (.var 13) (.int 0)) (.str "go")) (.sub (.var 13) (.int 1)) (.ite (.cmp .NotEq (.call "_law_value" (.cons (.var 3) (.cons (.sub (.var 13) (.int 1)) (.cons (.var 4) (.cons (.var 6) .nil))))) (.int 0)) (.sub (.var 13) (.int 2)) (.sub (.var 13) (.int 3)))))
    .nil))))))
theorem lturn_ok {fuel : Nat} {a1 a2 a5 a10 a11 a12 a13 a14 : Option PV} (G : GF bs w vars) (P : PL bs w h pv pm pw pl fuel R c h') (hk : 7 ≤ k) (hl : c.acc.length < fuel) (h60 : fuel ≤ 100) :
    (evSs (evCall Lw.T k) ltB [some (.tup [.int w, .int np, .tup (bs.map Bk.pv)]), a1, a2, some (.int w), some (.ref pv), a5, some (.ref pm), some (.ref pw), some (.ref pl), some (.int c.l), a10, a11, a12, a13, a14] h').Nr
      (fun s' h2 => ∃ a10 a11 a12 a13, s' = [some (.tup [.int w, .int np, .tup (bs.map Bk.pv)]), a1, a2, some (.int w), some (.ref pv), a5, some (.ref pm), some (.ref pw), some (.ref pl), some (.int (stepC bs w c).l), a10, a11, a12, a13, a14] ∧ PL bs w h pv pm pw pl fuel R (stepC bs w c) h2 ∧ (stepC bs w c).acc = c.acc ++ [c.l]) (QR R h) := by
  obtain ⟨b, hb, e, es, I2, ea⟩ := ci_step G P.I
  obtain ⟨g1, g2⟩ := G.ss b hb
  have z := P.I.z
  have qS : 4 ≤ sizeLine := by decide
  have qS2 : 2 ≤ sizeLine := by decide
  have lo := P.lo
  have q2 := P.H.o2; have q3 := P.H.o3; have q4 := P.H.o4
  have i1 : ∀ hh, subF b.pv (.int 1) hh = ok (.tup (b.ss.map Sm.pv)) hh := fun hh => by rw [show b.pv = .tup [.int b.l, .tup (b.ss.map Sm.pv), b.en.pv] from rfl]; simp only [sub_t, item1]
  have i2 : ∀ hh, subF b.pv (.int 2) hh = ok b.en.pv hh := fun hh => by rw [show b.pv = .tup [.int b.l, .tup (b.ss.map Sm.pv), b.en.pv] from rfl]; simp only [sub_t, item2]
  have rn : runC bs w (fuel - (c.acc.length + 1)) (stepB w c b) = R := by
    have := P.run
    rw [show fuel - c.acc.length = (fuel - (c.acc.length + 1)) + 1 by omega] at this
    unfold runC at this
    rw [P.fin, es] at this
    exact this
  unfold ltB
  rw [ss_cons, s_asg, sbnd_seq]
  rw [← e]
  refine Out.Ok.nr (pick_ok G.nd G.n hb) fun v h2 ⟨ev, F2⟩ => ?_
  subst ev
  have H2 := P.H.fk F2
  have F02 := P.F.trans F2
  simp only [evG, sbnd_ok, seq_nx, List.set_cons_succ, List.set_cons_zero]
  have hs : ((c.acc ++ [b.l]).map PV.int) = ((c.acc ++ [c.l]).map PV.int) := by rw [e]
  simp only [bnd_bnd, bnd_sbnd, sbnd_seq, seq_seq, seqC_ap, ss_cons, ss_nil, s_asg, s_ret, s_ite, s_ex, s_for, s_whl, e_non, e_bl, e_int, e_str, e_var, e_bin, e_neg, e_cmp, e_not, e_tup, e_lst, e_dic0, e_sub, e_call, e_bi, e_mt, kindG_same, e_isi, e_inv, e_lrg, e_fld, e_mk, e_um, e_kcall, e_lgen, e_rpr, s_sfld, s_augF, e_lc, e_dc, wipeP, new, evEs, evT, evTs, evP, evI, evG, bnd_ok, sbnd_ok, seq_nx, seq_rt, to_nx, go_nx, go_ct, rt_rt, ok_ok, slot, item0, item1, item2, item3, sub_t, i_int, i_abs, i_lenT, c_eqI, c_neI, c_eqS, c_neS, c_lt, c_le, c_gt, c_ge, asB_bl, iteC_t, iteC_f, iteC_d, b_add, b_sub, b_mul, b_mod, List.getElem?_cons_succ, List.getElem?_cons_zero, List.set_cons_succ, List.set_cons_zero, app_w H2.hl (show c.acc.length < 1000 by omega), i1]
  have H3 := H2.setA (c.acc ++ [b.l])
  have F3 : Fk h (h2.set pl (.lst ((c.acc ++ [b.l]).map PV.int))) := fk_set F02 (by omega)
  generalize h2.set pl (.lst ((c.acc ++ [b.l]).map PV.int)) = h3 at H3 F3 ⊢
  refine SO.To.nr (for_vals (fun i s' h' => ∃ a11 a12, s' = [some (.tup [.int w, .int np, .tup (bs.map Bk.pv)]), a1, a2, some (.int w), some (.ref pv), a5, some (.ref pm), some (.ref pw), some (.ref pl), some (.int b.l), some b.pv, a11, a12, a13, a14] ∧ LH pv pm pw pl ((b.ss.take i).foldl (exS w) c.s) (c.acc ++ [b.l]) h' ∧ Ok w ((b.ss.take i).foldl (exS w) c.s) ∧ sz ((b.ss.take i).foldl (exS w) c.s) ≤ sz c.s + i ∧ Fk h h')
    ⟨a11, a12, rfl, H3, P.I.K, Nat.le_refl _, F3⟩ fun i x s' h4 hx ⟨a11, a12, es', Hi, Ki, zi, Fi⟩ => ?_) fun s' h4 ⟨a11, a12, es', Hi, Ki, zi, Fi⟩ => ?_
  · subst es'
    have hi := lt_of_some hx
    rw [List.length_map] at hi
    rw [List.getElem?_map, Option.map_eq_some_iff] at hx
    obtain ⟨st, hst, rfl⟩ := hx
    have etk : b.ss.take (i + 1) = b.ss.take i ++ [st] := by rw [List.take_add_one, hst]; rfl
    have gs := g2 st (List.mem_of_getElem? hst)
    simp only [evG, sbnd_ok, List.set_cons_succ, List.set_cons_zero]
    obtain ⟨s5, h5, e5, b12, es5, H5, F5⟩ := (lstmt_ok (a0 := some (.tup [.int w, .int np, .tup (bs.map Bk.pv)])) (a1 := a1) (a2 := a2) (a5 := a5) (a9 := some (.int b.l)) (a10 := some b.pv) (a12 := a12) (a13 := a13) (a14 := a14) (show 6 ≤ k by omega) Hi Ki gs (by omega) lo Fi).ex
    rw [e5, go_nx, etk, List.foldl_append]
    have z2 := sz_step (w := w) (s := (b.ss.take i).foldl (exS w) c.s) (st := st)
    exact ⟨_, b12, es5, H5, ok_step Ki gs, by simp only [List.foldl_cons, List.foldl_nil]; omega, F5⟩
  · subst es'
    rw [List.length_map, List.take_length] at Hi Ki
    have ge := G.en b hb
    have eB : b.ss.foldl (exS w) c.s = exB w c.s b := rfl
    rw [eB] at Hi Ki
    have nx : ∀ l2 : Int, stepB w c b = ⟨l2, exB w c.s b, none, c.acc ++ [c.l]⟩ → ∀ h5, Fk h4 h5 → PL bs w h pv pm pw pl fuel R (stepC bs w c) h5 ∧ (stepC bs w c).acc = c.acc ++ [b.l] := by
      intro l2 el h5 F5
      rw [es]
      refine ⟨⟨?_, I2, Fi.trans F5, lo, by rw [ea, List.length_append, List.length_singleton]; exact rn, by rw [ea, List.length_append, List.length_singleton]; omega, by rw [el]⟩, by rw [ea, e]⟩
      rw [el]
      have := Hi.fk F5
      rw [e] at this
      exact this
    cases hen : b.en with
    | go l2 =>
      have el : stepB w c b = ⟨l2, exB w c.s b, none, c.acc ++ [c.l]⟩ := by unfold stepB; rw [hen]
      simp only [bnd_bnd, bnd_sbnd, sbnd_seq, seq_seq, seqC_ap, ss_cons, ss_nil, s_asg, s_ret, s_ite, s_ex, s_for, s_whl, e_non, e_bl, e_int, e_str, e_var, e_bin, e_neg, e_cmp, e_not, e_tup, e_lst, e_dic0, e_sub, e_call, e_bi, e_mt, kindG_same, e_isi, e_inv, e_lrg, e_fld, e_mk, e_um, e_kcall, e_lgen, e_rpr, s_sfld, s_augF, e_lc, e_dc, wipeP, new, evEs, evT, evTs, evP, evI, evG, bnd_ok, sbnd_ok, seq_nx, seq_rt, to_nx, go_nx, go_ct, rt_rt, ok_ok, slot, item0, item1, item2, item3, sub_t, i_int, i_abs, i_lenT, c_eqI, c_neI, c_eqS, c_neS, c_lt, c_le, c_gt, c_ge, asB_bl, iteC_t, iteC_f, iteC_d, b_add, b_sub, b_mul, b_mod, List.getElem?_cons_succ, List.getElem?_cons_zero, List.set_cons_succ, List.set_cons_zero, i2, hen, En.pv, decide_true, if_true, decide_false, if_false, ne_go_add, ne_go_sub, ne_go_mul, ne_go_and, ne_go_or, ne_go_xor, ne_go_shl, ne_go_shr, ne_go_less, ne_go_equal, ne_go_not, ne_go_neg, ne_go_int, ne_go_var, ne_go_load, ne_go_set, ne_go_write, ne_go_store, ne_go_if, ne_go_return, ne_go_none, e_ite]
      rw [nr_nx]
      exact ⟨_, _, _, _, by rw [es, el], nx l2 el h4 Fk.refl⟩
    | br e2 x y =>
      rw [hen] at ge
      simp only [bnd_bnd, bnd_sbnd, sbnd_seq, seq_seq, seqC_ap, ss_cons, ss_nil, s_asg, s_ret, s_ite, s_ex, s_for, s_whl, e_non, e_bl, e_int, e_str, e_var, e_bin, e_neg, e_cmp, e_not, e_tup, e_lst, e_dic0, e_sub, e_call, e_bi, e_mt, kindG_same, e_isi, e_inv, e_lrg, e_fld, e_mk, e_um, e_kcall, e_lgen, e_rpr, s_sfld, s_augF, e_lc, e_dc, wipeP, new, evEs, evT, evTs, evP, evI, evG, bnd_ok, sbnd_ok, seq_nx, seq_rt, to_nx, go_nx, go_ct, rt_rt, ok_ok, slot, item0, item1, item2, item3, sub_t, i_int, i_abs, i_lenT, c_eqI, c_neI, c_eqS, c_neS, c_lt, c_le, c_gt, c_ge, asB_bl, iteC_t, iteC_f, iteC_d, b_add, b_sub, b_mul, b_mod, List.getElem?_cons_succ, List.getElem?_cons_zero, List.set_cons_succ, List.set_cons_zero, i2, hen, En.pv, decide_true, if_true, decide_false, if_false, ne_if_add, ne_if_sub, ne_if_mul, ne_if_and, ne_if_or, ne_if_xor, ne_if_shl, ne_if_shr, ne_if_less, ne_if_equal, ne_if_not, ne_if_neg, ne_if_int, ne_if_var, ne_if_load, ne_if_set, ne_if_write, ne_if_store, ne_if_go, ne_if_return, ne_if_none, e_ite, Bool.false_eq_true]
      refine Out.Ok.nr (lvalue_ok 3 e2 k h4 ge.2 (by omega) ge.1 Hi.hv Hi.hm Ki) fun v h5 ⟨ev, F5⟩ => ?_
      subst ev
      by_cases cv : val w (exB w c.s b) e2 = 0
      · have el : stepB w c b = ⟨y, exB w c.s b, none, c.acc ++ [c.l]⟩ := by unfold stepB; rw [hen]; show (⟨if _ then y else x, _, _, _⟩ : Cfg) = _; rw [if_pos cv]
        simp only [bnd_bnd, bnd_sbnd, sbnd_seq, seq_seq, seqC_ap, ss_cons, ss_nil, s_asg, s_ret, s_ite, s_ex, s_for, s_whl, e_non, e_bl, e_int, e_str, e_var, e_bin, e_neg, e_cmp, e_not, e_tup, e_lst, e_dic0, e_sub, e_call, e_bi, e_mt, kindG_same, e_isi, e_inv, e_lrg, e_fld, e_mk, e_um, e_kcall, e_lgen, e_rpr, s_sfld, s_augF, e_lc, e_dc, wipeP, new, evEs, evT, evTs, evP, evI, evG, bnd_ok, sbnd_ok, seq_nx, seq_rt, to_nx, go_nx, go_ct, rt_rt, ok_ok, slot, item0, item1, item2, item3, sub_t, i_int, i_abs, i_lenT, c_eqI, c_neI, c_eqS, c_neS, c_lt, c_le, c_gt, c_ge, asB_bl, iteC_t, iteC_f, iteC_d, b_add, b_sub, b_mul, b_mod, cv, decide_true, Bool.not_true, Bool.false_eq_true, if_false, List.getElem?_cons_succ, List.getElem?_cons_zero, List.set_cons_succ, List.set_cons_zero]
        rw [nr_nx]
        exact ⟨_, _, _, _, by rw [es, el], nx y el h5 F5⟩
      · have el : stepB w c b = ⟨x, exB w c.s b, none, c.acc ++ [c.l]⟩ := by unfold stepB; rw [hen]; show (⟨if _ then y else x, _, _, _⟩ : Cfg) = _; rw [if_neg cv]
        simp only [bnd_bnd, bnd_sbnd, sbnd_seq, seq_seq, seqC_ap, ss_cons, ss_nil, s_asg, s_ret, s_ite, s_ex, s_for, s_whl, e_non, e_bl, e_int, e_str, e_var, e_bin, e_neg, e_cmp, e_not, e_tup, e_lst, e_dic0, e_sub, e_call, e_bi, e_mt, kindG_same, e_isi, e_inv, e_lrg, e_fld, e_mk, e_um, e_kcall, e_lgen, e_rpr, s_sfld, s_augF, e_lc, e_dc, wipeP, new, evEs, evT, evTs, evP, evI, evG, bnd_ok, sbnd_ok, seq_nx, seq_rt, to_nx, go_nx, go_ct, rt_rt, ok_ok, slot, item0, item1, item2, item3, sub_t, i_int, i_abs, i_lenT, c_eqI, c_neI, c_eqS, c_neS, c_lt, c_le, c_gt, c_ge, asB_bl, iteC_t, iteC_f, iteC_d, b_add, b_sub, b_mul, b_mod, cv, decide_false, Bool.not_false, if_true, List.getElem?_cons_succ, List.getElem?_cons_zero, List.set_cons_succ, List.set_cons_zero]
        rw [nr_nx]
        exact ⟨_, _, _, _, by rw [es, el], nx x el h5 F5⟩
    | ret e2 =>
      rw [hen] at ge
      have el : stepB w c b = ⟨c.l, exB w c.s b, some (val w (exB w c.s b) e2), c.acc ++ [c.l]⟩ := by unfold stepB; rw [hen]
      have eR : stepB w c b = R := by rw [← rn, run_fin (by rw [el]; rfl)]
      simp only [bnd_bnd, bnd_sbnd, sbnd_seq, seq_seq, seqC_ap, ss_cons, ss_nil, s_asg, s_ret, s_ite, s_ex, s_for, s_whl, e_non, e_bl, e_int, e_str, e_var, e_bin, e_neg, e_cmp, e_not, e_tup, e_lst, e_dic0, e_sub, e_call, e_bi, e_mt, kindG_same, e_isi, e_inv, e_lrg, e_fld, e_mk, e_um, e_kcall, e_lgen, e_rpr, s_sfld, s_augF, e_lc, e_dc, wipeP, new, evEs, evT, evTs, evP, evI, evG, bnd_ok, sbnd_ok, seq_nx, seq_rt, to_nx, go_nx, go_ct, rt_rt, ok_ok, slot, item0, item1, item2, item3, sub_t, i_int, i_abs, i_lenT, c_eqI, c_neI, c_eqS, c_neS, c_lt, c_le, c_gt, c_ge, asB_bl, iteC_t, iteC_f, iteC_d, b_add, b_sub, b_mul, b_mod, List.getElem?_cons_succ, List.getElem?_cons_zero, List.set_cons_succ, List.set_cons_zero, i2, hen, En.pv, decide_true, if_true, decide_false, if_false]
      refine Out.Ok.nr (lvalue_ok 3 e2 k h4 ge.2 (by omega) ge.1 Hi.hv Hi.hm Ki) fun v h5 ⟨ev, F5⟩ => ?_
      subst ev
      have H5 := Hi.fk F5
      simp only [bnd_bnd, bnd_sbnd, sbnd_seq, seq_seq, seqC_ap, ss_cons, ss_nil, s_asg, s_ret, s_ite, s_ex, s_for, s_whl, e_non, e_bl, e_int, e_str, e_var, e_bin, e_neg, e_cmp, e_not, e_tup, e_lst, e_dic0, e_sub, e_call, e_bi, e_mt, kindG_same, e_isi, e_inv, e_lrg, e_fld, e_mk, e_um, e_kcall, e_lgen, e_rpr, s_sfld, s_augF, e_lc, e_dc, wipeP, new, evEs, evT, evTs, evP, evI, evG, bnd_ok, sbnd_ok, seq_nx, seq_rt, to_nx, go_nx, go_ct, rt_rt, ok_ok, slot, item0, item1, item2, item3, sub_t, i_int, i_abs, i_lenT, c_eqI, c_neI, c_eqS, c_neS, c_lt, c_le, c_gt, c_ge, asB_bl, iteC_t, iteC_f, iteC_d, b_add, b_sub, b_mul, b_mod, List.length_cons, List.length_nil, qS, qS2, if_true, i_lenL H5.hl, List.length_map, List.getElem?_cons_succ, List.getElem?_cons_zero]
      rw [nr_rt]
      rw [← eR, el]
      exact ⟨pw, pl, by simp [enPv], H5.hw, by rw [← e]; exact H5.hl, Fi.trans F5⟩
theorem lrun_call {a b c : PV} {Q : PV → PH → Prop} (q : (evSs (evCall Lw.T k) Lw.b__law_run [some a, some b, some c, none, none, none, none, none, none, none, none, none, none, none, none] h).Rt Q) : (evCall Lw.T (k + 1) "_law_run" [a, b, c] h).Ok Q :=
  call_ok (d := ⟨3, 15, Lw.b__law_run, none⟩) Lw.T__law_run rfl (by decide) q
end
end K03

set_option Elab.async false
set_option linter.all false
set_option maxRecDepth 100000
set_option maxHeartbeats 4000000
namespace K03
open PySem MP Ar
open Out (ok bad)
section
variable {bs : List Bk} {w np : Int} {vars ins acc : List Int} {c R : Cfg} {h h0 h' : PH} {k pv pm pw pl : Nat} {b b0 : Bk} {s : Sto}
theorem lrun_body : Lw.b__law_run = (.cons (.asg (.nm 3) (.sub (.var 0) (.int 0)))
    (.cons (.asg (.nm 4) (.dic .nil))
    (.cons (.frr (.nm 5) (.rng (.cons (.bi .len (.cons (.var 1) .nil)) .nil)) (.cons (.asg (.sub (.var 4) (.var 5)) (.sub (.var 1) (.var 5)))
    .nil))
    (.cons (.asg (.nm 6) (.bin .Mult (.lst (.cons (.int 0) .nil)) (.int 16)))
    (.cons (.asg (.nm 7) (.lst .nil))
    (.cons (.asg (.nm 8) (.lst .nil))
    (.cons (.asg (.nm 9) (.sub (.sub (.sub (.var 0) (.int 2)) (.int 0)) (.int 0)))
    (.cons (.whl (.cmp .Lt (.bi .len (.cons (.var 8) .nil)) (.var 2)) ltB)
    (.cons (.ret (.tup (.cons (.var 7) (.cons (.tup (.cons (.str "none") .nil)) (.cons (.bi .len (.cons (.var 8) .nil)) (.cons (.var 8) .nil))))))
    .nil))))))))) := rfl
theorem lrun_core {fuel : Nat} (G : GF bs w vars) (hk : 7 ≤ k) (h0 : bs[0]? = some b0) (hi : ins.length ≤ 6) (h1 : 1 ≤ w) (h2 : w ≤ 16) (hw : ∀ x ∈ ins, Wd w x) (h60 : fuel ≤ 100) {iv : PV} (hiv : iv = .tup (ins.map PV.int)) :
    (evSs (evCall Lw.T k) Lw.b__law_run [some (.tup [.int w, .int np, .tup (bs.map Bk.pv)]), some iv, some (.int fuel), none, none, none, none, none, none, none, none, none, none, none, none] h).Rt (QR (runC bs w fuel (c0 bs b0 ins)) h) := by
  have hS : (1000 : Nat) ≤ sizeLine := by decide
  have qS : 4 ≤ sizeLine := by decide
  have q1 : 1 ≤ sizeLine := by decide
  generalize hR : runC bs w fuel (c0 bs b0 ins) = R
  rw [lrun_body]
  rw [ss_cons, s_asg]
  simp only [e_sub, e_var, e_int, slot, bnd_ok, sbnd_ok, List.getElem?_cons_succ, List.getElem?_cons_zero, sub_t, item0, evG, seq_nx, List.set_cons_succ, List.set_cons_zero]
  rw [ss_cons, s_asg]
  simp only [e_dic0, new, sbnd_ok, evG, seq_nx, List.set_cons_succ, List.set_cons_zero]
  rw [ss_cons, s_for]
  have ev0 : ∀ hh : PH, evEs (evCall Lw.T k) (.cons (.bi .len (.cons (.var 1) .nil)) .nil) [some (.tup [.int w, .int np, .tup (bs.map Bk.pv)]), some iv, some (.int fuel), some (.int w), some (.ref h.length), none, none, none, none, none, none, none, none, none, none] hh = ok [.int (ins.length : Int)] hh := fun hh => by
    simp only [evEs, e_bi, e_var, slot, List.getElem?_cons_succ, List.getElem?_cons_zero, bnd_ok, bnd_bnd, hiv, i_lenT, List.length_map]
  rw [rng_ev (ev0 _) (small_len (by omega)), sbnd_ok]
  refine SO.To.rt (for_vals (fun i s' h' => ∃ a5, s' = [some (.tup [.int w, .int np, .tup (bs.map Bk.pv)]), some iv, some (.int fuel), some (.int w), some (.ref h.length), a5, none, none, none, none, none, none, none, none, none] ∧ h' = h ++ [.dic (dI (inL ins i))]) ⟨none, rfl, rfl⟩
    fun i x s' h' hx ⟨a5, es, eh⟩ => ?_) fun s' h' ⟨a5, es, eh⟩ => ?_
  · subst es eh
    obtain ⟨hi2, rfl⟩ := rng_at hx
    rw [Int.toNat_natCast] at hi2
    have hN : ins[i]? = some ins[i] := List.getElem?_eq_getElem hi2
    have il := inL_len ins i
    have ei : ∀ hh, subF iv (.int ((i : Nat) : Int)) hh = ok (.int ins[i]) hh := fun hh => by
      rw [hiv, sub_t]
      exact itemF_at (by omega) (by rw [Int.toNat_natCast, List.getElem?_map, hN]; rfl)
    have e3 := set_dI (D := h.length) (L := inL ins i) (v := (i : Nat)) (x := ins[i]) (h := h ++ [.dic (dI (inL ins i))]) ap0 (by omega)
    rw [ap_set0] at e3
    simp only [Int.zero_add, bnd_bnd, bnd_sbnd, sbnd_seq, seq_seq, seqC_ap, ss_cons, ss_nil, s_asg, s_ret, s_ite, s_ex, s_for, s_whl, e_non, e_bl, e_int, e_str, e_var, e_bin, e_neg, e_cmp, e_not, e_tup, e_lst, e_dic0, e_sub, e_call, e_bi, e_mt, kindG_same, e_isi, e_inv, e_lrg, e_fld, e_mk, e_um, e_kcall, e_lgen, e_rpr, s_sfld, s_augF, e_lc, e_dc, wipeP, new, evEs, evT, evTs, evP, evI, evG, bnd_ok, sbnd_ok, seq_nx, seq_rt, to_nx, go_nx, go_ct, rt_rt, ok_ok, slot, item0, item1, item2, item3, sub_t, i_int, i_abs, i_lenT, c_eqI, c_neI, c_eqS, c_neS, c_lt, c_le, c_gt, c_ge, asB_bl, iteC_t, iteC_f, iteC_d, b_add, b_sub, b_mul, b_mod, List.getElem?_cons_succ, List.getElem?_cons_zero, List.set_cons_succ, List.set_cons_zero, ei, e3]
    refine ⟨_, rfl, ?_⟩
    conv => rhs; unfold inL
    rw [hN]
  · subst es eh
    rw [rng_len, Int.toNat_natCast]
    have i0 : ∀ hh, itemF (bs.map Bk.pv) (.int 0) hh = ok b0.pv hh := fun hh => itemF_at (by decide) (by rw [List.getElem?_map]; show (bs[0]?).map _ = _; rw [h0]; rfl)
    have hbv : ∀ hh, subF b0.pv (.int 0) hh = ok (.int b0.l) hh := fun hh => by
      rw [show b0.pv = .tup [.int b0.l, .tup (b0.ss.map Sm.pv), b0.en.pv] from rfl]; simp only [sub_t, item0]
    generalize hL : inL ins ins.length = L
    have e5 : ∀ st : PSt, evE (evCall Lw.T k) (.bin .Mult (.lst (.cons (.int 0) .nil)) (.int 16)) st (h ++ [.dic (dI L)]) = ok (.ref (h.length + 2)) (h ++ [.dic (dI L), .lst [.int 0], .lst (zeros.map PV.int)]) := by
      intro st
      rw [e_bin, e_lst]
      simp only [evEs, e_int, bnd_ok, List.length_cons, List.length_nil]
      rw [if_pos (by omega), new_ap, bnd_ok, rep_zero (by rw [ap_i]; rfl), List.length_append, List.append_assoc]
      rfl
    have e6 : ∀ (st : PSt) (xs : List PO), evE (evCall Lw.T k) (.lst .nil) st (h ++ xs) = ok (.ref (h.length + xs.length)) (h ++ (xs ++ [.lst []])) := by
      intro st xs
      rw [e_lst]
      simp only [evEs, bnd_ok, List.length_nil]
      rw [if_pos (Nat.zero_le _), new_ap]
    rw [ss_cons, s_asg, e5, sbnd_ok]
    simp only [evG, sbnd_ok, seq_nx, List.set_cons_succ, List.set_cons_zero]
    rw [ss_cons, s_asg, e6, sbnd_ok]
    simp only [evG, sbnd_ok, seq_nx, List.set_cons_succ, List.set_cons_zero]
    rw [ss_cons, s_asg, e6, sbnd_ok]
    simp only [evG, sbnd_ok, seq_nx, List.set_cons_succ, List.set_cons_zero]
    rw [ss_cons, s_asg]
    simp only [e_sub, e_var, e_int, slot, bnd_ok, sbnd_ok, List.getElem?_cons_succ, List.getElem?_cons_zero, sub_t, item2, bnd_sbnd, i0, hbv, evG, seq_nx, List.set_cons_succ, List.set_cons_zero]
    rw [ss_cons, s_whl]
    have Hs : LH h.length (h.length + 2) (h.length + 3) (h.length + 4) (s0 ins) [] (h ++ ([.dic (dI L), .lst [.int 0], .lst (zeros.map PV.int)] ++ [.lst []] ++ [.lst []])) := ⟨by rw [← hL]; exact ap0, by rw [ap_i]; rfl, by rw [ap_i]; rfl, by rw [ap_i]; rfl, by omega, by omega, by omega⟩
    have Fs : Fk h (h ++ ([.dic (dI L), .lst [.int 0], .lst (zeros.map PV.int)] ++ [.lst []] ++ [.lst []])) := ⟨by simp, fun i hi => List.getElem?_append_left hi⟩
    refine SO.Nx.rt (whl_nr' (fun s' h' m => ∃ c a10 a11 a12 a13, s' = [some (.tup [.int w, .int np, .tup (bs.map Bk.pv)]), some iv, some (.int fuel), some (.int w), some (.ref h.length), a5, some (.ref (h.length + 2)), some (.ref (h.length + 3)), some (.ref (h.length + 4)), some (.int c.l), a10, a11, a12, a13, none] ∧ PL bs w h h.length (h.length + 2) (h.length + 3) (h.length + 4) fuel R c h' ∧ m = fuel - c.acc.length)
      (fun s' h' => ∃ a9 a10 a11 a12 a13, s' = [some (.tup [.int w, .int np, .tup (bs.map Bk.pv)]), some iv, some (.int fuel), some (.int w), some (.ref h.length), a5, some (.ref (h.length + 2)), some (.ref (h.length + 3)), some (.ref (h.length + 4)), a9, a10, a11, a12, a13, none] ∧ PL bs w h h.length (h.length + 2) (h.length + 3) (h.length + 4) fuel R R h') (QR R h)
      fuel (Nat.lt_of_le_of_lt h60 (by decide)) ⟨c0 bs b0 ins, none, none, none, none, rfl, ⟨Hs, start_ok G h0 hi h1 h2 hw, Fs, Nat.le_refl _, hR, Nat.zero_le _, rfl⟩, rfl⟩ fun s' h' m ⟨c, a10, a11, a12, a13, es, P, em⟩ => ?_) fun s' h' ⟨a9, a10, a11, a12, a13, es, P⟩ => ?_
    · subst es
      have et : ∀ st : PSt, st[8]? = some (some (.ref (h.length + 4))) → st[2]? = some (some (.int fuel)) → evT (evCall Lw.T k) (.cmp .Lt (.bi .len (.cons (.var 8) .nil)) (.var 2)) st h' = ok (decide (c.acc.length < fuel)) h' := by
        intro st e8 e2
        simp only [bnd_bnd, bnd_sbnd, sbnd_seq, seq_seq, seqC_ap, ss_cons, ss_nil, s_asg, s_ret, s_ite, s_ex, s_for, s_whl, e_non, e_bl, e_int, e_str, e_var, e_bin, e_neg, e_cmp, e_not, e_tup, e_lst, e_dic0, e_sub, e_call, e_bi, e_mt, kindG_same, e_isi, e_inv, e_lrg, e_fld, e_mk, e_um, e_kcall, e_lgen, e_rpr, s_sfld, s_augF, e_lc, e_dc, wipeP, new, evEs, evT, evTs, evP, evI, evG, bnd_ok, sbnd_ok, seq_nx, seq_rt, to_nx, go_nx, go_ct, rt_rt, ok_ok, slot, item0, item1, item2, item3, sub_t, i_int, i_abs, i_lenT, c_eqI, c_neI, c_eqS, c_neS, c_lt, c_le, c_gt, c_ge, asB_bl, iteC_t, iteC_f, iteC_d, b_add, b_sub, b_mul, b_mod, e8, e2, i_lenL P.H.hl, List.length_map]
        congr 1
        rw [Bool.eq_iff_iff, decide_eq_true_eq, decide_eq_true_eq]
        omega
      rw [et _ rfl rfl]
      show ite _ _ _
      by_cases e : c.acc.length < fuel
      · rw [decide_eq_true e, if_pos rfl]
        have := lturn_ok (k := k) (np := np) (a1 := some iv) (a2 := some (.int fuel)) (a5 := a5) (a10 := a10) (a11 := a11) (a12 := a12) (a13 := a13) (a14 := none) G P (by omega) e h60
        revert this
        generalize evSs (evCall Lw.T k) ltB _ h' = o
        intro this
        cases o with
        | nx s2 h2 =>
          obtain ⟨b10, b11, b12, b13, es, P2, ea⟩ := this
          exact ⟨fuel - (c.acc.length + 1), by omega, _, b10, b11, b12, b13, es, P2, by rw [ea, List.length_append, List.length_singleton]⟩
        | ct s2 h2 =>
          obtain ⟨b10, b11, b12, b13, es, P2, ea⟩ := this
          exact ⟨fuel - (c.acc.length + 1), by omega, _, b10, b11, b12, b13, es, P2, by rw [ea, List.length_append, List.length_singleton]⟩
        | rt v2 h2 => exact this
        | bk _ _ => exact this.elim
        | exc _ _ => exact this.elim
        | bad => exact this.elim
      · rw [decide_eq_false e, if_neg (by decide)]
        have cR : c = R := by
          have := P.run
          rw [show fuel - c.acc.length = 0 by omega] at this
          exact this
        exact ⟨_, _, _, _, _, rfl, cR ▸ P⟩
    · subst es
      simp only [bnd_bnd, bnd_sbnd, sbnd_seq, seq_seq, seqC_ap, ss_cons, ss_nil, s_asg, s_ret, s_ite, s_ex, s_for, s_whl, e_non, e_bl, e_int, e_str, e_var, e_bin, e_neg, e_cmp, e_not, e_tup, e_lst, e_dic0, e_sub, e_call, e_bi, e_mt, kindG_same, e_isi, e_inv, e_lrg, e_fld, e_mk, e_um, e_kcall, e_lgen, e_rpr, s_sfld, s_augF, e_lc, e_dc, wipeP, new, evEs, evT, evTs, evP, evI, evG, bnd_ok, sbnd_ok, seq_nx, seq_rt, to_nx, go_nx, go_ct, rt_rt, ok_ok, slot, item0, item1, item2, item3, sub_t, i_int, i_abs, i_lenT, c_eqI, c_neI, c_eqS, c_neS, c_lt, c_le, c_gt, c_ge, asB_bl, iteC_t, iteC_f, iteC_d, b_add, b_sub, b_mul, b_mod, List.getElem?_cons_succ, List.getElem?_cons_zero, i_lenL P.H.hl, List.length_map, List.length_cons, List.length_nil, qS, q1, if_true]
      exact ⟨_, _, by rw [P.fin]; rfl, P.H.hw, P.H.hl, P.F⟩
theorem lrun_ok {fuel : Nat} (G : GF bs w vars) (hk : 7 ≤ k) (h0 : bs[0]? = some b0) (hi : ins.length ≤ 6) (h1 : 1 ≤ w) (h2 : w ≤ 16) (hw : ∀ x ∈ ins, Wd w x) (h60 : fuel ≤ 100) {iv : PV} (hiv : iv = .tup (ins.map PV.int)) :
    (evCall Lw.T (k + 1) "_law_run" [.tup [.int w, .int np, .tup (bs.map Bk.pv)], iv, .int fuel] h).Ok (QR (runC bs w fuel (c0 bs b0 ins)) h) :=
  lrun_call (lrun_core G hk h0 hi h1 h2 hw h60 hiv)
end
end K03

set_option Elab.async false
set_option linter.all false
set_option maxRecDepth 100000
set_option maxHeartbeats 4000000
namespace K03
open PySem MP Ar
open Out (ok bad)
section
variable {h h' : PH} {k : Nat} {f : Fn} {w np : Int} {vars : List Int}
def IsIns (w np : Int) (v : PV) : Prop := ∃ ins : List Int, v = .tup (ins.map PV.int) ∧ (ins.length : Int) = np ∧ ∀ x ∈ ins, Wd w x
theorem inputs_ok (G : Gen Lw.T) (hk : 3 ≤ k) (d : DW h) (w1 : 1 ≤ w) (w2 : w ≤ 16) (n0 : 0 ≤ np) (n1 : np ≤ 6) {bsv : PV} :
    (evCall Lw.T k "_law_inputs" [.ref 1, .tup [.int w, .int np, bsv]] h).Ok fun v h' => IsIns w np v ∧ Fr h h' := by
  obtain ⟨k, rfl⟩ : ∃ j, k = j + 2 + 1 := ⟨k - 3, by omega⟩
  have hS : (64 : Nat) ≤ sizeLine := by decide
  refine call_ok Lw.T__law_inputs rfl (by decide) ?_
  show (evSs (evCall Lw.T (k + 2)) Lw.b__law_inputs [some (.ref 1), some (.tup [.int w, .int np, bsv]), none] h).Rt _
  have hgw : ∀ {h : PH}, DW h → (evCall Lw.T (k + 2) "_law_word" [.ref 1, .int w] h).Ok fun v h' => (∃ n : Int, v = .int n ∧ 0 ≤ n ∧ n < 2 ^ w.toNat) ∧ Fr h h' := fun d => gen_word G d (by omega) (by omega)
  generalize evCall Lw.T (k + 2) = C at hgw
  unfold Lw.b__law_inputs
  rw [ss_cons, s_ret]
  have ev0 : ∀ hh : PH, evEs C (.cons (.sub (.var 1) (.int 1)) .nil) [some (.ref 1), some (.tup [.int w, .int np, bsv]), none] hh = ok [.int np] hh := fun hh => by
    simp only [bnd_bnd, bnd_sbnd, sbnd_seq, seq_seq, seqC_ap, ss_cons, ss_nil, s_asg, s_ret, s_ite, s_ex, s_for, s_whl, e_non, e_bl, e_int, e_str, e_var, e_bin, e_neg, e_cmp, e_not, e_tup, e_lst, e_dic0, e_sub, e_call, e_bi, e_mt, kindG_same, e_isi, e_inv, e_lrg, e_fld, e_mk, e_um, e_kcall, e_lgen, e_rpr, s_sfld, s_augF, e_lc, e_dc, wipeP, new, evEs, evT, evTs, evP, evI, evG, bnd_ok, sbnd_ok, seq_nx, seq_rt, to_nx, go_nx, go_ct, rt_rt, ok_ok, slot, item0, item1, item2, item3, sub_t, i_int, i_abs, i_lenT, c_eqI, c_neI, c_eqS, c_neS, c_lt, c_le, c_gt, c_ge, asB_bl, iteC_t, iteC_f, iteC_d, b_add, b_sub, b_mul, b_mod, List.getElem?_cons_succ, List.getElem?_cons_zero]
  have sm : small np = true := decide_eq_true ⟨by omega, by omega⟩
  simp only [e_bi, evEs, e_lc, rng_ev (ev0 _) sm, bnd_ok, bnd_bnd, bnd_sbnd, sbnd_ok, sbnd_seq]
  refine Out.Ok.rt (each_vals (fun i acc h' => ∃ l : List Int, acc = l.map PV.int ∧ l.length = i ∧ (∀ x ∈ l, Wd w x) ∧ Fr h h') ⟨[], rfl, rfl, by simp, Fr.refl d⟩ fun i x acc h1 hx ⟨l, ea, el, ew, F⟩ => ?_) fun acc h1 ⟨l, ea, el, ew, F⟩ => ?_
  · subst ea
    obtain ⟨hi, rfl⟩ := rng_at hx
    unfold lcC
    simp only [bnd_bnd, bnd_sbnd, sbnd_seq, seq_seq, seqC_ap, ss_cons, ss_nil, s_asg, s_ret, s_ite, s_ex, s_for, s_whl, e_non, e_bl, e_int, e_str, e_var, e_bin, e_neg, e_cmp, e_not, e_tup, e_lst, e_dic0, e_sub, e_call, e_bi, e_mt, kindG_same, e_isi, e_inv, e_lrg, e_fld, e_mk, e_um, e_kcall, e_lgen, e_rpr, s_sfld, s_augF, e_lc, e_dc, wipeP, new, evEs, evT, evTs, evP, evI, evG, bnd_ok, sbnd_ok, seq_nx, seq_rt, to_nx, go_nx, go_ct, rt_rt, ok_ok, slot, item0, item1, item2, item3, sub_t, i_int, i_abs, i_lenT, c_eqI, c_neI, c_eqS, c_neS, c_lt, c_le, c_gt, c_ge, asB_bl, iteC_t, iteC_f, iteC_d, b_add, b_sub, b_mul, b_mod, List.getElem?_cons_succ, List.getElem?_cons_zero, List.set_cons_succ, List.set_cons_zero]
    refine Out.Ok.bnd (hgw F.dw) fun v h2 ⟨⟨n, ev, p0, p1⟩, F2⟩ => ?_
    subst ev
    rw [if_pos (by rw [List.length_map]; omega)]
    refine ⟨l ++ [n], by rw [List.map_append]; rfl, by rw [List.length_append, el]; rfl, fun y hy => ?_, F.trans F2⟩
    rcases List.mem_append.mp hy with z | z
    · exact ew y z
    · have : y = n := by simpa using z
      subst this; exact ⟨p0, p1⟩
  · subst ea
    rw [rng_len] at el
    simp only [new, bnd_ok, bnd_sbnd, sbnd_ok, tuple_at at_new, rt_rt, bnd_bnd, bnd_sbnd, sbnd_seq, seq_seq, seqC_ap, ss_cons, ss_nil, s_asg, s_ret, s_ite, s_ex, s_for, s_whl, e_non, e_bl, e_int, e_str, e_var, e_bin, e_neg, e_cmp, e_not, e_tup, e_lst, e_dic0, e_sub, e_call, e_bi, e_mt, kindG_same, e_isi, e_inv, e_lrg, e_fld, e_mk, e_um, e_kcall, e_lgen, e_rpr, s_sfld, s_augF, e_lc, e_dc, wipeP, new, evEs, evT, evTs, evP, evI, evG, bnd_ok, sbnd_ok, seq_nx, seq_rt, to_nx, go_nx, go_ct, rt_rt, ok_ok, slot, item0, item1, item2, item3, sub_t, i_int, i_abs, i_lenT, c_eqI, c_neI, c_eqS, c_neS, c_lt, c_le, c_gt, c_ge, asB_bl, iteC_t, iteC_f, iteC_d, b_add, b_sub, b_mul, b_mod]
    exact ⟨⟨l, rfl, by omega, ew⟩, F.trans (Fr.new F.dw _)⟩
/-- the law's one turn -/
def lawB : Ss := (.cons (.asg (.nm 5) (.call "_law_inputs" (.cons (.var 1) (.cons (.var 2) .nil))))
    (.cons (.asg (.nm 6) (.sub (.lst (.cons (.int 60) (.cons (.int 60) (.cons (.int 0) (.cons (.int 1) (.cons (.call "_law_take" (.cons (.var 1) (.cons (.int 9) .nil))) .nil)))))) (.call "_law_take" (.cons (.var 1) (.cons (.int 5) .nil)))))
    (.cons (.asg (.nm 7) (.call "_law_run" (.cons (.var 2) (.cons (.var 5) (.cons (.var 6) .nil)))))
    (.cons (.ite (.or (.cmp .NotEq (.kcall "run" (.cons (.var 2) (.cons (.var 5) .nil)) (.cons (.var 6) .nil)) (.slc (.var 7) .none (.some (.int 3)))) (.cmp .NotEq (.lgen "trace" (.cons (.var 2) (.cons (.var 5) .nil)) (.cons (.var 6) .nil)) (.sub (.var 7) (.int 3)))) (.cons (.ret (.bl false))
    .nil) .nil)
    .nil))))
theorem eq_run {a b : Nat} {W : List Int} {fin : Option Int} {n : Int} (e1 : h[a]? = some (.lst (W.map PV.int))) (e2 : h[b]? = some (.lst (W.map PV.int))) :
    eqB (.tup [.ref a, enPv fin, .int n]) (.tup [.ref b, enPv fin, .int n]) h = ok true h := by
  have kW : dataL (datum h 62) (W.map PV.int) = some (W.map PyData.int) := dl_map fun x _ => d_int
  have kE : datum h 63 (enPv fin) = some (enD fin) := en_datum fin 61
  have lE : (enD fin).canLay0 = true ∧ (enD fin).depth ≤ 1 := ⟨en_lay fin, en_depth fin⟩
  have qE : PyData.eqv (enD fin) (enD fin) = true := by rw [en_eqv]; exact decide_eq_true rfl
  have d1 : ∀ {l : Nat}, h[l]? = some (.lst (W.map PV.int)) → datum h 64 (.tup [.ref l, enPv fin, .int n]) = some (.tuple [.list (W.map PyData.int), enD fin, .int n]) := fun q => d_tup (dl_cons (d_lst q kW) (dl_cons kE (dl_cons d_int dl_nil)))
  have dW := deep_ints (l := W)
  have sh : SeqAt.shaped (.tuple [.list (W.map PyData.int), enD fin, .int n]) = true := by
    refine shaped_tuple (m := 2) ?_ ?_ (by decide)
    · simp [PyData.canLayAll0, PyData.canLay0, lE.1, lay_ints]
    · have := lE.2
      simp [PyData.depthAll, PyData.depth]
      omega
  rw [eq_data (.inr ⟨_, rfl⟩) (d1 e1) (d1 e2) sh sh, eqv_tuple]
  congr 1
  have : PyData.eqvAll (W.map PyData.int) (W.map PyData.int) = true := (eqv_map fun x _ y _ => eqv_int).mpr rfl
  simp only [PyData.eqvAll, eqv_list, this, qE, Bool.true_and, Bool.and_true]
  exact eqv_int.mpr rfl
structure TC (C : Str → List PV → PH → Out PV) (f : Fn) (b0 : Bk) : Prop where
  ins : ∀ h, DW h → (C "_law_inputs" [.ref 1, f.pv] h).Ok fun v h' => IsIns f.w f.np v ∧ Fr h h'
  take : ∀ h (m : Int), DW h → 0 < m → m < 1073741824 → (C "_law_take" [.ref 1, .int m] h).Ok fun v h' => (∃ r : Int, v = .int r ∧ 0 ≤ r ∧ r < m) ∧ Fr h h'
  lrun : ∀ h ins (fu : Nat) iv, iv = .tup (ins.map PV.int) → (ins.length : Int) = f.np → (∀ x ∈ ins, Wd f.w x) → fu ≤ 100 → (C "_law_run" [f.pv, iv, .int fu] h).Ok (QR (runC f.bs f.w fu (c0 f.bs b0 ins)) h)
  run : ∀ h ins (fu : Nat), (ins.length : Int) = f.np → (∀ x ∈ ins, Wd f.w x) → fu ≤ 100 → (C "run" [f.pv, .tup (ins.map PV.int), .int fu] h).Ok fun v h' => ∃ pw, v = .tup [.ref pw, enPv (runC f.bs f.w fu (c0 f.bs b0 ins)).fin, .int (runC f.bs f.w fu (c0 f.bs b0 ins)).acc.length] ∧ h'[pw]? = some (.lst ((runC f.bs f.w fu (c0 f.bs b0 ins)).s.W.map PV.int)) ∧ Fk h h'
  trace : ∀ h ins (fu : Nat), (ins.length : Int) = f.np → (∀ x ∈ ins, Wd f.w x) → fu ≤ 100 → (C "trace" [f.pv, .tup (ins.map PV.int), .int fu] h).Ok fun v h' => v = .tup ((runC f.bs f.w fu (c0 f.bs b0 ins)).acc.map PV.int) ∧ Fk h h'
theorem fk_dw {h h' : PH} (F : Fk h h') (d : DW h) : DW h' := by
  obtain ⟨cs, o, e1, e2, e3⟩ := d
  exact ⟨cs, o, F.at e1, F.at e2, e3⟩
theorem cut3 {a b c d : PV} : cutP [a, b, c, d] none (some 3) = [a, b, c] := by
  rw [cut_to (α := Nat) (by decide)]; rfl
theorem lawturn_ok {C : Str → List PV → PH → Out PV} {b0 : Bk} (c : TC C f b0) (d : DW h) {a0 a3 a4 a5 a6 a7 : Option PV} :
    (evSs C lawB [a0, some (.ref 1), some f.pv, a3, a4, a5, a6, a7] h).To fun s' h' => ∃ a5 a6 a7, s' = [a0, some (.ref 1), some f.pv, a3, a4, a5, a6, a7] ∧ DW h' := by
  have q5 : 5 ≤ sizeLine := by decide
  have q3 : 3 ≤ sizeLine := by decide
  generalize hP : f.pv = P at c
  have ci := c.ins
  rw [hP] at ci
  unfold lawB
  rw [ss_cons, s_asg, sbnd_seq]
  simp only [e_call, evEs, e_var, slot, bnd_sbnd, bnd_ok, sbnd_ok, List.getElem?_cons_succ, List.getElem?_cons_zero]
  refine Out.Ok.to (ci h d) fun iv h1 ⟨⟨ins, hiv, hn, hw⟩, F1⟩ => ?_
  simp only [evG, sbnd_ok, seq_nx, List.set_cons_succ, List.set_cons_zero]
  rw [ss_cons, s_asg]
  simp only [bnd_bnd, bnd_sbnd, sbnd_seq, seq_seq, seqC_ap, ss_cons, ss_nil, s_asg, s_ret, s_ite, s_ex, s_for, s_whl, e_non, e_bl, e_int, e_str, e_var, e_bin, e_neg, e_cmp, e_not, e_tup, e_lst, e_dic0, e_sub, e_call, e_bi, e_mt, kindG_same, e_isi, e_inv, e_lrg, e_fld, e_mk, e_um, e_kcall, e_lgen, e_rpr, s_sfld, s_augF, e_lc, e_dc, wipeP, new, evEs, evT, evTs, evP, evI, evG, bnd_ok, sbnd_ok, seq_nx, seq_rt, to_nx, go_nx, go_ct, rt_rt, ok_ok, slot, item0, item1, item2, item3, sub_t, i_int, i_abs, i_lenT, c_eqI, c_neI, c_eqS, c_neS, c_lt, c_le, c_gt, c_ge, asB_bl, iteC_t, iteC_f, iteC_d, b_add, b_sub, b_mul, b_mod, List.getElem?_cons_succ, List.getElem?_cons_zero, List.set_cons_succ, List.set_cons_zero]
  refine Out.Ok.to (c.take _ _ F1.dw (by decide) (by decide)) fun v h2 ⟨⟨r1, ev, r10, r11⟩, F2⟩ => ?_
  subst ev
  have n1 := Fr.new F2.dw (.lst (([60, 60, 0, 1, r1] : List Int).map PV.int))
  simp only [bnd_bnd, bnd_sbnd, sbnd_seq, seq_seq, seqC_ap, ss_cons, ss_nil, s_asg, s_ret, s_ite, s_ex, s_for, s_whl, e_non, e_bl, e_int, e_str, e_var, e_bin, e_neg, e_cmp, e_not, e_tup, e_lst, e_dic0, e_sub, e_call, e_bi, e_mt, kindG_same, e_isi, e_inv, e_lrg, e_fld, e_mk, e_um, e_kcall, e_lgen, e_rpr, s_sfld, s_augF, e_lc, e_dc, wipeP, new, evEs, evT, evTs, evP, evI, evG, bnd_ok, sbnd_ok, seq_nx, seq_rt, to_nx, go_nx, go_ct, rt_rt, ok_ok, slot, item0, item1, item2, item3, sub_t, i_int, i_abs, i_lenT, c_eqI, c_neI, c_eqS, c_neS, c_lt, c_le, c_gt, c_ge, asB_bl, iteC_t, iteC_f, iteC_d, b_add, b_sub, b_mul, b_mod, List.length_cons, List.length_nil, q5, if_true, List.getElem?_cons_succ, List.getElem?_cons_zero, List.set_cons_succ, List.set_cons_zero]
  refine Out.Ok.to (c.take _ _ n1.dw (by decide) (by decide)) fun v h3 ⟨⟨r2, ev, r20, r21⟩, F3⟩ => ?_
  subst ev
  have e2 : h3[h2.length]? = some (.lst (([60, 60, 0, 1, r1] : List Int).map PV.int)) := F3.at at_new (by have := F2.dw.two; omega)
  obtain ⟨fu, hfu, efu⟩ := item_int (xs := [60, 60, 0, 1, r1]) r20 (by simpa using r21)
  have hfu2 : 0 ≤ fu ∧ fu ≤ 100 := by
    simp only [List.mem_cons, List.not_mem_nil, or_false] at hfu
    omega
  obtain ⟨fn, rfl⟩ : ∃ n : Nat, fu = (n : Int) := ⟨fu.toNat, by omega⟩
  have hf : fn ≤ 100 := by omega
  have lr := fun h => c.lrun h ins fn iv hiv hn hw hf
  have rr := fun h => c.run h ins fn hn hw hf
  have tr := fun h => c.trace h ins fn hn hw hf
  rw [hP] at lr
  rw [hP, ← hiv] at rr tr
  generalize (fn : Int) = fz at lr rr tr efu
  generalize runC f.bs f.w fn (c0 f.bs b0 ins) = R at lr rr tr
  simp only [sub_l e2, efu, evG, sbnd_ok, bnd_ok, seq_nx, List.set_cons_succ, List.set_cons_zero]
  refine Out.Ok.to (lr _) fun v h4 ⟨pw, pl, ev, ew, el, F4⟩ => ?_
  subst ev
  refine Out.Ok.to (rr _) fun v h5 ⟨pw2, ev, ew2, F5⟩ => ?_
  subst ev
  have ne1 := c_ne (eq_run (fin := R.fin) (n := R.acc.length) ew2 (F5.at ew))
  simp only [slcF, cut3, bnd_bnd, bnd_sbnd, sbnd_seq, seq_seq, seqC_ap, ss_cons, ss_nil, s_asg, s_ret, s_ite, s_ex, s_for, s_whl, e_non, e_bl, e_int, e_str, e_var, e_bin, e_neg, e_cmp, e_not, e_tup, e_lst, e_dic0, e_sub, e_call, e_bi, e_mt, kindG_same, e_isi, e_inv, e_lrg, e_fld, e_mk, e_um, e_kcall, e_lgen, e_rpr, s_sfld, s_augF, e_lc, e_dc, wipeP, new, evEs, evT, evTs, evP, evI, evG, bnd_ok, sbnd_ok, seq_nx, seq_rt, to_nx, go_nx, go_ct, rt_rt, ok_ok, slot, item0, item1, item2, item3, sub_t, i_int, i_abs, i_lenT, c_eqI, c_neI, c_eqS, c_neS, c_lt, c_le, c_gt, c_ge, asB_bl, iteC_t, iteC_f, iteC_d, b_add, b_sub, b_mul, b_mod, ne1, Bool.not_true, Bool.false_eq_true, if_false, e_slice, List.getElem?_cons_succ, List.getElem?_cons_zero]
  refine Out.Ok.to (tr _) fun v h6 ⟨ev, F6⟩ => ?_
  subst ev
  have ne2 := c_ne (h := h6 ++ [.lst (R.acc.map PV.int)]) (eq_ints (xs := R.acc) (ys := R.acc) at_new (F6.trans Fk.new |>.at (F5.at el)))
  simp only [lgenR, bnd_bnd, bnd_sbnd, sbnd_seq, seq_seq, seqC_ap, ss_cons, ss_nil, s_asg, s_ret, s_ite, s_ex, s_for, s_whl, e_non, e_bl, e_int, e_str, e_var, e_bin, e_neg, e_cmp, e_not, e_tup, e_lst, e_dic0, e_sub, e_call, e_bi, e_mt, kindG_same, e_isi, e_inv, e_lrg, e_fld, e_mk, e_um, e_kcall, e_lgen, e_rpr, s_sfld, s_augF, e_lc, e_dc, wipeP, new, evEs, evT, evTs, evP, evI, evG, bnd_ok, sbnd_ok, seq_nx, seq_rt, to_nx, go_nx, go_ct, rt_rt, ok_ok, slot, item0, item1, item2, item3, sub_t, i_int, i_abs, i_lenT, c_eqI, c_neI, c_eqS, c_neS, c_lt, c_le, c_gt, c_ge, asB_bl, iteC_t, iteC_f, iteC_d, b_add, b_sub, b_mul, b_mod, ne2, decide_true, Bool.not_true, Bool.false_eq_true, if_false, List.getElem?_cons_succ, List.getElem?_cons_zero]
  exact ⟨_, _, _, rfl, fk_dw (((F4.trans F5).trans F6).trans Fk.new) F3.dw⟩
end
end K03

set_option Elab.async false
set_option linter.all false
set_option maxRecDepth 100000
set_option maxHeartbeats 4000000
namespace K03
open PySem MP Ar
open Out (ok bad)
section
variable {h h' : PH} {k : Nat} {f : Fn} {vars : List Int}
theorem tc_of (G : Gen Lw.T) (g : f.Good vars 6 5) {b0 : Bk} (h0 : f.bs[0]? = some b0) (hk : 11 ≤ k) : TC (evCall Lw.T (k + 1)) f b0 := by
  have gf := gf_of g
  have n1 := g.n1
  have efp : f.pv = .tup [.int f.w, .int f.np, .tup (f.bs.map Bk.pv)] := rfl
  refine ⟨fun h d => ?_, fun h m d p q => ?_, fun h ins fu iv hiv hn hw hf => ?_, fun h ins fu hn hw hf => ?_, fun h ins fu hn hw hf => ?_⟩
  · rw [efp]; exact inputs_ok G (by omega) d g.w1 g.w2 g.n0 g.n1
  · exact gen_take' G (by omega) d p q
  · rw [efp]
    exact lrun_ok gf (by omega) h0 (by omega) g.w1 g.w2 hw hf hiv
  · rw [efp]
    exact run_ok gf (by omega) h0 (by omega) g.w1 g.w2 hw hf
  · rw [efp]
    exact trace_ok gf (by omega) h0 (by omega) g.w1 g.w2 hw hf
theorem law_body : Lw.d_law.body = (.cons (.asg (.nm 1) (.call "_law_draw" (.cons (.var 0) .nil)))
    (.cons (.asg (.nm 2) (.call "_law_function" (.cons (.var 1) (.cons (.int 6) (.cons (.int 5) .nil)))))
    (.cons (.asg (.nm 3) (.rpr (.var 2)))
    (.cons (.frr (.nm 4) (.rng (.cons (.int 3) .nil)) lawB)
    (.cons (.ret (.cmp .Eq (.rpr (.var 2)) (.var 3)))
    .nil))))) := rfl
theorem law_ok {ns : List Int} (G : Gen Lw.T) (hz : ns.length ≤ 63) : (evSs (evCall Lw.T 12) Lw.d_law.body [some (.fro (ns.map PV.int)), none, none, none, none, none, none, none] []).Rt fun v _ => v = .bl true := by
  rw [law_body]
  have hD : (evCall Lw.T 12 "_law_draw" [.fro (ns.map PV.int)] []).Ok fun v h => v = .ref 1 ∧ ∃ (cs : List Int) (o : PO), DrawO 0 o ∧ h = [.lst (cs.map PV.int), o] := call_ok G.draw rfl (by decide) (draw_ok (C := evCall Lw.T 11) ns hz)
  have hG : ∀ h, DW h → (evCall Lw.T 12 "_law_function" [.ref 1, .int 6, .int 5] h).Ok fun v h' => (∃ (f : Fn) (vars : List Int), v = f.pv ∧ f.Good vars 6 5) ∧ Fr h h' := fun h d => gen_function G (by decide) d (by decide) (by decide) (by decide) (by decide)
  have hT : ∀ (f : Fn) vars b0, f.Good vars 6 5 → f.bs[0]? = some b0 → TC (evCall Lw.T 12) f b0 := fun f vars b0 g h0 => tc_of (k := 11) G g h0 (by decide)
  generalize evCall Lw.T 12 = C at hD hG hT
  rw [ss_cons, s_asg, sbnd_seq]
  simp only [e_call, evEs, e_var, slot, bnd_sbnd, bnd_ok, sbnd_ok, List.getElem?_cons_succ, List.getElem?_cons_zero]
  refine Out.Ok.rt hD fun v h1 ⟨ev, cs, o, hd, eh⟩ => ?_
  subst ev
  have dw : DW h1 := ⟨cs, o, by rw [eh]; rfl, by rw [eh]; rfl, hd⟩
  simp only [evG, sbnd_ok, seq_nx, List.set_cons_succ, List.set_cons_zero]
  rw [ss_cons, s_asg, sbnd_seq]
  simp only [e_call, evEs, e_var, e_int, slot, bnd_sbnd, bnd_ok, sbnd_ok, List.getElem?_cons_succ, List.getElem?_cons_zero]
  refine Out.Ok.rt (hG _ dw) fun v h2 ⟨⟨f, vars, ev, g⟩, F2⟩ => ?_
  subst ev
  have rp := fn_repr g (by decide) (by decide)
  obtain ⟨b0, h0⟩ : ∃ b, f.bs[0]? = some b := ⟨f.bs[0]'(by have := g.one; omega), List.getElem?_eq_getElem _⟩
  have tc := hT f vars b0 g h0
  simp only [evG, sbnd_ok, seq_nx, List.set_cons_succ, List.set_cons_zero]
  rw [ss_cons, s_asg]
  simp only [e_rpr, e_var, slot, bnd_ok, List.getElem?_cons_succ, List.getElem?_cons_zero, rp, sbnd_ok, evG, seq_nx, List.set_cons_succ, List.set_cons_zero]
  generalize f.dat.shown = t at rp
  rw [ss_cons, s_for]
  have ev0 : ∀ (st : PSt) (hh : PH), evEs C (.cons (.int 3) .nil) st hh = ok [.int 3] hh := fun st hh => by
    simp only [evEs, e_int, bnd_ok]
  rw [rng_ev (ev0 _ _) (by decide), sbnd_ok]
  refine SO.To.rt (for_vals (fun i s' h' => ∃ a4 a5 a6 a7, s' = [some (.fro (ns.map PV.int)), some (.ref 1), some f.pv, some (.str t), a4, a5, a6, a7] ∧ DW h') ⟨none, none, none, none, rfl, F2.dw⟩
    fun i x s' h1 hx ⟨a4, a5, a6, a7, es, d⟩ => ?_) fun s' h1 ⟨a4, a5, a6, a7, es, d⟩ => ?_
  · subst es
    simp only [evG, sbnd_ok, List.set_cons_succ, List.set_cons_zero]
    obtain ⟨s2, h3, e, b5, b6, b7, es2, d2⟩ := (lawturn_ok (a0 := some (.fro (ns.map PV.int))) (a3 := some (.str t)) (a4 := some x) (a5 := a5) (a6 := a6) (a7 := a7) tc d).ex
    rw [e, go_nx]
    exact ⟨_, b5, b6, b7, es2, d2⟩
  · subst es
    simp only [bnd_bnd, bnd_sbnd, sbnd_seq, seq_seq, seqC_ap, ss_cons, ss_nil, s_asg, s_ret, s_ite, s_ex, s_for, s_whl, e_non, e_bl, e_int, e_str, e_var, e_bin, e_neg, e_cmp, e_not, e_tup, e_lst, e_dic0, e_sub, e_call, e_bi, e_mt, kindG_same, e_isi, e_inv, e_lrg, e_fld, e_mk, e_um, e_kcall, e_lgen, e_rpr, s_sfld, s_augF, e_lc, e_dc, wipeP, new, evEs, evT, evTs, evP, evI, evG, bnd_ok, sbnd_ok, seq_nx, seq_rt, to_nx, go_nx, go_ct, rt_rt, ok_ok, slot, item0, item1, item2, item3, sub_t, i_int, i_abs, i_lenT, c_eqI, c_neI, c_eqS, c_neS, c_lt, c_le, c_gt, c_ge, asB_bl, iteC_t, iteC_f, iteC_d, b_add, b_sub, b_mul, b_mod, rp, List.getElem?_cons_succ, List.getElem?_cons_zero, decide_true]
end
theorem gen : Gen Lw.T := ⟨Lw.T__law_take, Lw.T__law_draw, Lw.T__law_top, Lw.T__law_pairs, Lw.T__law_word, Lw.T__law_expression, Lw.T__law_statement, Lw.T__law_function⟩
theorem holds (ns : List Int) (hz : ns.length ≤ 63) : ∃ h, evSs (evCall Lw.T 12) Lw.d_law.body (some (.fro (ns.map PV.int)) :: List.replicate (Lw.d_law.ns - 1) none) [] = .rt (.bl true) h := by
  obtain ⟨v, h, e, rfl⟩ := (law_ok gen hz).ex
  exact ⟨h, e⟩
end K03
theorem PySem.Challenge.cw_leasttiles_k03_runs_of_functions_holds : PySem.Challenge.rw_leasttiles_k03_runs_of_functions.Holds :=
  Lw.holds_of K03.holds

