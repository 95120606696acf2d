import PyProof.Rows.All
import Wide.All
import OpenK.AllK
import Wide.FinOn
import HandS.ForMost
import HandS.TupAny
import HandS.Deep
import HandS.DictComp
import HandS.Conv
import HandS.More
import HandS.Flow
import HandS.SortInts
import HandS.TupSets
import HandS.HeadEnd
import HandS.HeadHook2
import HandS.HeadHook1
import HandS.Head0
import HandS.Head1
import HandS.Head2
import HandS.IsInst
import PyProof.DictValues
import PySem.Challenge.RW_leasttiles_k42_moves_at_once
set_option Elab.async false
set_option linter.all false
/-! A small machine over plain values: what the walk of a def computes. -/
namespace MP
open PySem

/-- plain values: tuples are data, lists, dicts and instances stand at places -/
inductive PV where
  | non | bl (b : Bool) | int (i : Int) | str (s : Str) | tup (xs : List PV) | ref (l : Nat)
  | fro (xs : List PV)
  deriving Inhabited

/-- what stands at a place -/
inductive PO where
  | lst (xs : List PV)
  | dic (kvs : List (PV × PV))
  | lck (kvs : List (PV × PV))
  | ins (c : Str) (fs : List (Str × PV))
  deriving Inhabited

abbrev PH := List PO
abbrev PSt := List (Option PV)

/-- an exception: its class, its fields -/
structure PX where
  cls : Str
  fs : List (Str × PV)

inductive Out (α : Type) where
  | ok (v : α) (h : PH)
  | exc (e : PX) (h : PH)
  | bad

def Out.bnd {α β : Type} (o : Out α) (f : α → PH → Out β) : Out β :=
  match o with
  | .ok v h => f v h
  | .exc e h => .exc e h
  | .bad => .bad

inductive SO where
  | nx (s : PSt) (h : PH) | rt (v : PV) (h : PH) | bk (s : PSt) (h : PH) | ct (s : PSt) (h : PH) | exc (e : PX) (h : PH) | bad

def Out.sbnd {α : Type} (o : Out α) (f : α → PH → SO) : SO :=
  match o with
  | .ok v h => f v h
  | .exc e h => .exc e h
  | .bad => .bad

/-! ### the text -/
inductive Bi where
  | len | abs | int | bool | max | min | list | tuple | sorted | sum | any | all | dict | isList | isInt | isStr | isTuple | isBool
  deriving DecidableEq
inductive Mt where
  | append | extend | pop | get | values | items | keys | index | insert | setdefault
  deriving DecidableEq
mutual
inductive E where
  | non | bl (b : Bool) | int (i : Int) | str (s : Str)
  | var (i : Nat)
  | cst (x : Str) (v : PV)
  | bin (op : Operator) (a b : E)
  | neg (a : E)
  | cmp (op : CmpOp) (a b : E)
  | cmp2 (op op' : CmpOp) (a b c : E)
  | and (a b : E) | or (a b : E) | not (a : E)
  | ite (c : T) (a b : E)
  | tup (es : Es) | lst (es : Es) | dic (ks : Ks)
  | sub (a i : E)
  | slc (a : E) (lo hi : Pt)
  | call (f : Str) (es : Es)
  | bi (f : Bi) (es : Es)
  | mt (m : Mt) (o : E) (es : Es)
  | fld (o : E) (f : Str)
  | mk (c : Str) (es : Es)
  | um (m : Str) (o : E) (es : Es)
  | lc (elt : E) (tg : Tg) (it : It) (ifs : Ts) (own : List Nat)
  | dc (k v : E) (tg : Tg) (it : It) (ifs : Ts) (own : List Nat)
  | isi (f : Bi) (e : E)
  | lock (i : Nat) (e : E)
  | inv (neg : Bool) (a d : E)
  | lrg (tup : Bool) (es : Es)
inductive Es where
  | nil | cons (e : E) (r : Es)
/-- a display's pairs -/
inductive Ks where
  | nil | cons (k v : E) (r : Ks)
/-- tests -/
inductive T where
  | e (e : E) | and (a b : T) | or (a b : T) | not (a : T) | ite (c a b : T)
  | cmp (op : CmpOp) (a b : E) | cmp2 (op op' : CmpOp) (a b c : E) | inv (neg : Bool) (a d : E)
/-- a part of a slice -/
inductive Pt where
  | none | some (e : E)
inductive Ts where
  | nil | cons (t : T) (r : Ts)
/-- what is walked -/
inductive It where
  | ex (e : E) | rng (es : Es) | enu (e : E) | rev (e : E) | keys (e : E) | vals (e : E) | items (e : E)
/-- targets -/
inductive Tg where
  | nm (i : Nat) | tup (is : List Nat) | sub (o i : E) | fld (o : E) (f : Str)
end

mutual
inductive S where
  | pass | brk | cont | retN
  | ret (e : E) | ex (e : E)
  | asg (t : Tg) (e : E)
  | par (i j : Nat) (a b : E)
  | aug (i : Nat) (op : Operator) (e : E)
  | augF (o : E) (f : Str) (op : Operator) (e : E)
  | augS (o i : E) (op : Operator) (e : E)
  | ite (c : T) (a b : Ss)
  | whl (c : T) (b : Ss)
  | frr (t : Tg) (it : It) (b : Ss)
  | never
inductive Ss where
  | nil | cons (s : S) (r : Ss)
end

/-! ### operators by values -/
open Out

def truth (x : PV) (h : PH) : Out Bool :=
  match x with
  | .fro _ => bad
  | .non => ok false h
  | .bl b => ok b h
  | .int i => ok (i != 0) h
  | .str s => if s.length ≤ sizeLine then ok (s.length != 0) h else bad
  | .tup xs => ok (!xs.isEmpty) h
  | .ref l => match h[l]? with
    | some (.lst xs) => ok (!xs.isEmpty) h
    | some (.dic kvs) => ok (!kvs.isEmpty) h
    | _ => bad

/-- a new object -/
def new (o : PO) (h : PH) : Out PV := ok (.ref h.length) (h ++ [o])

def binF (op : Operator) (x y : PV) (h : PH) : Out PV :=
  match op, x, y with
  | .Add, .int i, .int j => ok (.int (i + j)) h
  | .Add, .str a, .str b => if a.length + b.length ≤ sizeLine then ok (.str (a ++ b)) h else bad
  | .Add, .tup a, .tup b => if a.length + b.length ≤ sizeLine then ok (.tup (a ++ b)) h else bad
  | .Add, .ref a, .ref b => match h[a]?, h[b]? with
    | some (.lst xs), some (.lst ys) => if xs.length + ys.length ≤ sizeLine then new (.lst (xs ++ ys)) h else bad
    | _, _ => bad
  | .Sub, .int i, .int j => ok (.int (i - j)) h
  | .Mult, .int i, .int j => if i.natAbs < 2 ^ 64 ∨ j.natAbs < 2 ^ 64 then ok (.int (i * j)) h else bad
  | .Mult, .ref a, .int j => match h[a]? with
    | some (.lst xs) => if -(2 ^ 63) ≤ j ∧ j < 2 ^ 63 ∧ xs.length * j.toNat ≤ sizeLine then new (.lst (List.flatten (List.replicate j.toNat xs))) h else bad
    | _ => bad
  | .FloorDiv, .int i, .int j => if 0 < j ∧ j < 1073741824 then ok (.int (i / j)) h else bad
  | .Mod, .int i, .int j => if 0 < j then ok (.int (i % j)) h else bad
  | .LShift, .int i, .int j => if 0 ≤ j ∧ j ≤ 1000000 ∧ i.natAbs < 2 ^ 64 then ok (.int (i * 2 ^ j.toNat)) h else bad
  | .RShift, .int i, .int j => if 0 ≤ j then ok (.int (i / 2 ^ j.toNat)) h else bad
  | .Pow, .int i, .int j => if 0 ≤ j ∧ j ≤ 1000000 ∧ i.natAbs < 2 ^ 64 then ok (.int (i ^ j.toNat)) h else bad
  | .BitAnd, .int i, .int j => ok (.int (Builtin.bitAnd i j)) h
  | .BitOr, .int i, .int j => ok (.int (Builtin.bitOr i j)) h
  | .BitXor, .int i, .int j => ok (.int (Builtin.bitXor i j)) h
  | _, _, _ => bad

/-! data, for == -/
def dataL (f : PV → Option PyData) : List PV → Option (List PyData)
  | [] => some []
  | x :: r => match f x, dataL f r with
    | some d, some ds => some (d :: ds)
    | _, _ => none
def datum (h : PH) : Nat → PV → Option PyData
  | 0, _ => none
  | _ + 1, .non => some .none
  | _ + 1, .bl b => some (.bool b)
  | _ + 1, .int i => some (.int i)
  | _ + 1, .str s => some (.str s)
  | n + 1, .tup xs => (dataL (datum h n) xs).map PyData.tuple
  | _ + 1, .fro _ => none
  | n + 1, .ref l => match h[l]? with
    | some (.lst xs) => (dataL (datum h n) xs).map PyData.list
    | _ => none

def eqB (x y : PV) (h : PH) : Out Bool :=
  match x, y with
  | .non, .non => ok true h
  | .bl a, .bl b => ok (decide (a = b)) h
  | .int a, .int b => ok (decide (a = b)) h
  | .str a, .str b => ok (decide (a = b)) h
  | x, y => match datum h 64 x, datum h 64 y with
    | some d, some e => if SeqAt.shaped d = true ∧ SeqAt.shaped e = true then ok (PyData.eqv d e) h else bad
    | _, _ => bad

/-! dicts -/
def isKey : PV → Bool
  | .int _ => true
  | .str _ => true
  | _ => false
/-- the key's word, where it is an int or a text -/
def keyOf : PV → Option L2.Key
  | .int i => some (.inl i)
  | .str s => some (.inr s)
  | _ => none
def keyEq (x y : PV) : Bool :=
  match x, y with
  | .int a, .int b => decide (a = b)
  | .str a, .str b => decide (a = b)
  | _, _ => false
def dGet (kvs : List (PV × PV)) (k : PV) : Option PV :=
  match kvs with
  | [] => none
  | (a, v) :: r => if keyEq a k then some v else dGet r k
def dPut (kvs : List (PV × PV)) (k v : PV) : List (PV × PV) :=
  if (kvs.any fun p => keyEq p.1 k) = true then kvs.map (fun p => if keyEq p.1 k = true then (p.1, v) else p) else kvs ++ [(k, v)]
def dDrop (kvs : List (PV × PV)) (k : PV) : List (PV × PV) := kvs.filter fun p => !keyEq p.1 k
/-- the dict at a place, read -/
def dAt (h : PH) (l : Nat) : Option (List (PV × PV)) :=
  match h[l]? with
  | some (.dic kvs) => some kvs
  | some (.lck kvs) => some kvs
  | _ => none

def flatP : PV → Bool
  | .non => true
  | .bl _ => true
  | .int _ => true
  | .str _ => true
  | _ => false
def flatEq : PV → PV → Bool
  | .non, .non => true
  | .bl a, .bl b => a == b
  | .bl a, .int b => (if a then 1 else 0) == b
  | .int a, .bl b => a == (if b then 1 else 0)
  | .int a, .int b => decide (a = b)
  | .str a, .str b => decide (a = b)
  | _, _ => false
/-- in a list or tuple of any data -/
def inDeep (x : PV) (ys : List PV) (h : PH) : Out Bool :=
  match datum h 63 x, dataL (datum h 62) ys with
  | some d, some ds => if SeqAt.shaped d = true ∧ SeqAt.shaped (.list ds) = true then ok (ds.any fun z => PyData.eqv z d) h else bad
  | _, _ => bad
def inB (x y : PV) (h : PH) : Out Bool :=
  match y with
  | .str b => match x with
    | .str a => if a.length = 1 then ok (decide (a.cps.toList.head? ∈ b.cps.toList.map some)) h else bad
    | _ => bad
  | .tup ys => inL x ys h
  | .ref l => match h[l]? with
    | some (.lst ys) => if flatP x = true ∧ ys.all flatP = true then ok (ys.any fun y => flatEq y x) h else inDeep x ys h
    | some (.dic kvs) => if isKey x then ok (dGet kvs x).isSome h else bad
    | some (.lck kvs) => if isKey x then ok (dGet kvs x).isSome h else bad
    | _ => bad
  | _ => bad
where inL (x : PV) (ys : List PV) (h : PH) : Out Bool :=
  if flatP x = true ∧ ys.all flatP = true then ok (ys.any fun y => flatEq y x) h else bad

def cmpF (op : CmpOp) (x y : PV) (h : PH) : Out PV :=
  match op with
  | .Eq => (eqB x y h).bnd fun b h => ok (.bl b) h
  | .NotEq => (eqB x y h).bnd fun b h => ok (.bl (!b)) h
  | .In => (inB x y h).bnd fun b h => ok (.bl b) h
  | .NotIn => (inB x y h).bnd fun b h => ok (.bl (!b)) h
  | .Is => match y with
    | .non => match x with
      | .non => ok (.bl true) h
      | _ => ok (.bl false) h
    | _ => bad
  | .IsNot => match y with
    | .non => match x with
      | .non => ok (.bl false) h
      | _ => ok (.bl true) h
    | _ => bad
  | .Lt => match x, y with
    | .int i, .int j => ok (.bl (decide (i < j))) h
    | _, _ => bad
  | .LtE => match x, y with
    | .int i, .int j => ok (.bl (decide (i ≤ j))) h
    | _, _ => bad
  | .Gt => match x, y with
    | .int i, .int j => ok (.bl (decide (j < i))) h
    | _, _ => bad
  | .GtE => match x, y with
    | .int i, .int j => ok (.bl (decide (j ≤ i))) h
    | _, _ => bad

/-! places of sequences -/
/-- the place that an index names -/
abbrev pix (n : Nat) (i : Int) : Option Nat := L2.ixN n i
def itemF (xs : List PV) (y : PV) (h : PH) : Out PV :=
  match y with
  | .int i => (match (pix xs.length i).bind fun j => xs[j]? with
    | some v => ok v h
    | none => bad)
  | _ => bad
def lookF (kvs : List (PV × PV)) (k : PV) (h : PH) : Out PV :=
  if isKey k = true then (match dGet kvs k with
    | some v => ok v h
    | none => bad) else bad
def subF (x y : PV) (h : PH) : Out PV :=
  match x with
  | .tup xs => itemF xs y h
  | .str s => (match y with
    | .int i => if s.length ≤ sizeLine then (match (pix s.length i).bind fun j => s.cps.toList[j]? with
      | some c => ok (.str ⟨#[c]⟩) h
      | none => bad) else bad
    | _ => bad)
  | .ref l => match h[l]? with
    | some (.lst xs) => itemF xs y h
    | some (.dic kvs) => lookF kvs y h
    | some (.lck kvs) => lookF kvs y h
    | _ => bad
  | _ => bad
def cut {α : Type} (xs : List α) (lo hi : Nat) : List α := (xs.drop lo).take (hi - lo)
def cutP (xs : List PV) (lo hi : Option Int) : List PV := cut xs (HT.sIx xs.length 0 lo) (HT.sIx xs.length xs.length hi)
def slcF (x : PV) (a b : Option Int) (h : PH) : Out PV :=
  match x with
  | .tup xs => ok (.tup (cutP xs a b)) h
  | .ref l => (match h[l]? with
    | some (.lst xs) => new (.lst (cutP xs a b)) h
    | _ => bad)
  | _ => bad
/-- o[i] = v -/
def setF (o i v : PV) (h : PH) : Out Unit :=
  match o with
  | .ref l => match h[l]? with
    | some (.lst xs) => (match i with
      | .int k => (match pix xs.length k with
        | some j => ok () (h.set l (.lst (xs.set j v)))
        | none => bad)
      | _ => bad)
    | some (.dic kvs) => if isKey i ∧ kvs.length < sizeLine then ok () (h.set l (.dic (dPut kvs i v))) else bad
    | _ => bad
  | _ => bad

/-! built-in functions -/
def intsOf : List PV → Option (List Int)
  | [] => some []
  | .int i :: r => (intsOf r).map fun l => i :: l
  | _ :: _ => none
def boolsOf : List PV → Option (List Bool)
  | [] => some []
  | .bl i :: r => (boolsOf r).map fun l => i :: l
  | _ :: _ => none
def insI (x : Int) : List Int → List Int
  | [] => [x]
  | y :: r => if x ≤ y then x :: y :: r else y :: insI x r
def sortI : List Int → List Int
  | [] => []
  | x :: r => insI x (sortI r)
def minI : List Int → Int → Int
  | [], m => m
  | x :: r, m => minI r (if x < m then x else m)
def maxI : List Int → Int → Int
  | [], m => m
  | x :: r, m => maxI r (if m < x then x else m)
def seqAt (h : PH) (x : PV) : Option (List PV) :=
  match x with
  | .tup xs => some xs
  | .ref l => match h[l]? with
    | some (.lst xs) => some xs
    | _ => none
  | _ => none
def lstAt (h : PH) (x : PV) : Option (List PV) :=
  match x with
  | .ref l => match h[l]? with
    | some (.lst xs) => some xs
    | _ => none
  | _ => none
def rngI (lo : Int) (n : Nat) : List PV := (List.range n).map fun i => .int (lo + (i : Nat))
def small (i : Int) : Bool := decide (-(2 ^ 62) ≤ i ∧ i < 2 ^ 62)


def biF (f : Bi) (xs : List PV) (h : PH) : Out PV :=
  match f with
  | .len => match xs with
    | [.str s] => if s.length ≤ sizeLine then ok (.int s.length) h else bad
    | [.tup ys] => ok (.int ys.length) h
    | [.ref l] => match h[l]? with
      | some (.lst ys) => ok (.int ys.length) h
      | some (.dic kvs) => ok (.int kvs.length) h
      | _ => bad
    | _ => bad
  | .abs => match xs with
    | [.int i] => ok (.int (if i < 0 then -i else i)) h
    | _ => bad
  | .int => match xs with
    | [.int i] => ok (.int i) h
    | [.bl b] => ok (.int (if b then 1 else 0)) h
    | _ => bad
  | .bool => match xs with
    | [.int i] => ok (.bl (i != 0)) h
    | [.bl b] => ok (.bl b) h
    | _ => bad
  | .max => match xs with
    | [.int i, .int j] => ok (.int (if j > i then j else i)) h
    | [x] => match (lstAt h x).bind intsOf with
      | some (a :: r) => ok (.int (maxI r a)) h
      | _ => bad
    | _ => bad
  | .min => match xs with
    | [.int i, .int j] => ok (.int (if j < i then j else i)) h
    | [.ref l] => match h[l]? with
      | some (.lst ys) => (match intsOf ys with
        | some (a :: r) => ok (.int (minI r a)) h
        | _ => bad)
      | some (.dic kvs) => (match intsOf (kvs.map (·.1)) with
        | some (a :: r) => ok (.int (minI r a)) h
        | _ => bad)
      | _ => bad
    | _ => bad
  | .list => match xs with
    | [.tup ys] => new (.lst ys) h
    | [.ref l] => match h[l]? with
      | some (.lst ys) => new (.lst ys) h
      | some (.dic kvs) => new (.lst (kvs.map (·.1))) h
      | _ => bad
    | _ => bad
  | .tuple => match xs with
    | [.tup ys] => ok (.tup ys) h
    | [.ref l] => match h[l]? with
      | some (.lst ys) => ok (.tup ys) h
      | _ => bad
    | _ => bad
  | .sorted => match xs with
    | [x] => match (lstAt h x).bind intsOf with
      | some ns => new (.lst ((sortI ns).map PV.int)) h
      | _ => bad
    | _ => bad
  | .sum => match xs with
    | [x] => match (lstAt h x).bind intsOf with
      | some ns => ok (.int ns.sum) h
      | _ => bad
    | _ => bad
  | .any => match xs with
    | [x] => match (lstAt h x).bind boolsOf with
      | some bs => ok (.bl (bs.any id)) h
      | _ => bad
    | _ => bad
  | .all => match xs with
    | [x] => match (lstAt h x).bind boolsOf with
      | some bs => ok (.bl (bs.all id)) h
      | _ => bad
    | _ => bad
  | .dict => match xs with
    | [.ref l] => match dAt h l with
      | some kvs => new (.dic kvs) h
      | _ => bad
    | _ => bad
  | _ => bad

/-! methods of lists, dicts, texts -/
/-- what kind of thing a method is asked of -/
def kind (x : PV) (h : PH) : Nat :=
  match x with
  | .ref l => match h[l]? with
    | some (.lst _) => 1
    | some (.dic _) => 2
    | some (.lck _) => 2
    | _ => 0
  | .str _ => 3
  | _ => 0
def lstM (m : Mt) (l : Nat) (ys xs : List PV) (h : PH) : Out PV :=
  match m with
  | .append => (match xs with
    | [x] => if ys.length < sizeLine then ok .non (h.set l (.lst (ys ++ [x]))) else bad
    | _ => bad)
  | .extend => (match xs with
    | [.ref k] => (match h[k]? with
      | some (.lst zs) => if ys.length + zs.length ≤ sizeLine then ok .non (h.set l (.lst (ys ++ zs))) else bad
      | _ => bad)
    | _ => bad)
  | .pop => (match xs with
    | [] => (match ys[ys.length - 1]? with
      | some y => ok y (h.set l (.lst ys.dropLast))
      | none => bad)
    | [.int i] => if small i then (match seqIndex? i ys.length with
      | some j => (match ys[j]? with
        | some y => ok y (h.set l (.lst (ys.eraseIdx j)))
        | none => bad)
      | none => bad) else bad
    | _ => bad)
  | .insert => (match xs with
    | [.int i, y] => if ys.length < sizeLine ∧ 0 ≤ i ∧ small i then ok .non (h.set l (.lst (ys.take i.toNat ++ [y] ++ ys.drop i.toNat))) else bad
    | _ => bad)
  | _ => bad
def dicR (m : Mt) (kvs : List (PV × PV)) (xs : List PV) (h : PH) : Out PV :=
  match m with
  | .get => (match xs with
    | [k] => if isKey k then ok ((dGet kvs k).getD .non) h else bad
    | [k, d] => if isKey k then ok ((dGet kvs k).getD d) h else bad
    | _ => bad)
  | _ => bad
def dicM (m : Mt) (l : Nat) (kvs : List (PV × PV)) (xs : List PV) (h : PH) : Out PV :=
  match m with
  | .pop => (match xs with
    | [k] => if isKey k then (match dGet kvs k with
      | some v => ok v (h.set l (.dic (dDrop kvs k)))
      | none => bad) else bad
    | _ => bad)
  | m => dicR m kvs xs h
def mtF (m : Mt) (o : PV) (xs : List PV) (h : PH) : Out PV :=
  match o with
  | .ref l => match h[l]? with
    | some (.lst ys) => lstM m l ys xs h
    | some (.dic kvs) => dicM m l kvs xs h
    | some (.lck kvs) => dicR m kvs xs h
    | _ => bad
  | _ => bad
/-- the names of the types -/
def Bi.ty : Bi → Option String
  | .int => some "int" | .bool => some "bool" | .list => some "list" | .tuple => some "tuple" | .dict => some "dict" | .isStr => some "str" | _ => none
def tyP (x : PV) (h : PH) : Option String :=
  match x with
  | .non => some "NoneType"
  | .bl _ => some "bool"
  | .int _ => some "int"
  | .str _ => some "str"
  | .tup _ => some "tuple"
  | .fro _ => some "list"
  | .ref l => match h[l]? with
    | some (.lst _) => some "list"
    | some (.dic _) => some "dict"
    | some (.lck _) => some "dict"
    | _ => none
/-- list(range(..)), tuple(range(..)) -/
def lrgF (tup : Bool) (xs : List PV) (h : PH) : Out PV :=
  match xs with
  | [.int n] => if small n = true ∧ n.toNat ≤ 2 ^ 24 then (if tup = true then ok (.tup (rngI 0 n.toNat)) h else new (.lst (rngI 0 n.toNat)) h) else bad
  | [.int a, .int b] => if small a = true ∧ small b = true ∧ (b - a).toNat ≤ 2 ^ 24 then (if tup = true then ok (.tup (rngI a (b - a).toNat)) h else new (.lst (rngI a (b - a).toNat)) h) else bad
  | _ => bad
def isiF (f : Bi) (x : PV) (h : PH) : Out PV :=
  match tyP x h, f.ty with
  | some a, some b => (match L2.kitB a b with
    | some r => ok (.bl r) h
    | none => bad)
  | _, _ => bad
/-- x in d.values(), d locked -/
def invF (neg : Bool) (x d : PV) (h : PH) : Out PV :=
  match x, d with
  | .int i, .ref l => (match h[l]? with
    | some (.lck kvs) => (match intsOf (kvs.map (·.2)) with
      | some ns => ok (.bl (neg != decide (i ∈ ns))) h
      | none => bad)
    | _ => bad)
  | _, _ => bad
end MP

set_option Elab.async false
set_option linter.all false
namespace MP
open PySem
open Out

/-- what an iterable has come to -/
inductive Itr where
  | vals (xs : List PV) | lst (l : Nat)

/-- the pairs of a display, the later ones win -/
def dAll (ps : List (PV × PV)) : List (PV × PV) := ps.foldl (fun a p => dPut a p.1 p.2) []
def asB (x : PV) (h : PH) : Out Bool :=
  match x with
  | .bl b => ok b h
  | _ => bad
def slot (s : PSt) (i : Nat) (h : PH) : Out PV :=
  match s[i]? with
  | some (some v) => ok v h
  | _ => bad
def wipeP (s : PSt) : List Nat → PSt
  | [] => s
  | v :: vs => (wipeP s vs).set v none
/-- the names of a tuple's target, from the left -/
def setAll (s : PSt) : List Nat → List PV → Option PSt
  | [], [] => some s
  | i :: is, v :: vs => setAll (s.set i (some v)) is vs
  | _, _ => none

/-- the i-th step of a walk: none: it cannot be; some none: it is through -/
def itStep (it : Itr) (i : Nat) (h : PH) : Option (Option PV) :=
  match it with
  | .vals xs => some xs[i]?
  | .lst l => match h[l]? with
    | some (.lst xs) => some xs[i]?
    | _ => none
def Itr.fuel : Itr → Nat
  | .vals xs => xs.length + 1
  | .lst _ => sizeLine + 2
/-- a walk that carries something -/
def eachI {α : Type} (f : α → PV → PH → Out α) (it : Itr) : Nat → Nat → α → PH → Out α
  | 0, _, _, _ => bad
  | n + 1, i, a, h => match itStep it i h with
    | none => bad
    | some none => ok a h
    | some (some x) => (f a x h).bnd fun a h => eachI f it n (i + 1) a h
def each {α : Type} (f : α → PV → PH → Out α) (it : Itr) (a : α) (h : PH) : Out α := eachI f it it.fuel 0 a h

section
variable (C : Str → List PV → PH → Out PV)
mutual
def evE : E → PSt → PH → Out PV
  | .non, _, h => ok .non h
  | .bl b, _, h => ok (.bl b) h
  | .int i, _, h => ok (.int i) h
  | .str x, _, h => ok (.str x) h
  | .var i, s, h => slot s i h
  | .cst _ v, _, h => ok v h
  | .bin op a b, s, h => (evE a s h).bnd fun x h => (evE b s h).bnd fun y h => binF op x y h
  | .neg a, s, h => (evE a s h).bnd fun x h => match x with
    | .int i => ok (.int (-i)) h
    | _ => bad
  | .cmp op a b, s, h => (evE a s h).bnd fun x h => (evE b s h).bnd fun y h => cmpF op x y h
  | .cmp2 op op' a b c, s, h => (evE a s h).bnd fun x h => (evE b s h).bnd fun y h => (cmpF op x y h).bnd fun z h => (asB z h).bnd fun k h =>
      if k = true then (evE c s h).bnd fun w h => cmpF op' y w h else ok (.bl false) h
  | .and a b, s, h => (evE a s h).bnd fun x h => (truth x h).bnd fun k h => if k = true then evE b s h else ok x h
  | .or a b, s, h => (evE a s h).bnd fun x h => (truth x h).bnd fun k h => if k = true then ok x h else evE b s h
  | .not a, s, h => (evE a s h).bnd fun x h => (truth x h).bnd fun k h => ok (.bl (!k)) h
  | .ite c a b, s, h => (evT c s h).bnd fun k h => if k = true then evE a s h else evE b s h
  | .tup es, s, h => (evEs es s h).bnd fun xs h => if xs.length ≤ sizeLine then ok (.tup xs) h else bad
  | .lst es, s, h => (evEs es s h).bnd fun xs h => if xs.length ≤ sizeLine then new (.lst xs) h else bad
  | .dic ks, s, h => (evD ks s h).bnd fun ps h => if (ps.all fun p => isKey p.1) = true ∧ ps.length ≤ 15 then new (.dic (dAll ps)) h else bad
  | .sub a i, s, h => (evE a s h).bnd fun x h => (evE i s h).bnd fun y h => subF x y h
  | .slc a lo hi, s, h => (evE a s h).bnd fun x h => (evP lo s h).bnd fun y h => (evP hi s h).bnd fun z h => slcF x y z h
  | .call f es, s, h => (evEs es s h).bnd fun xs h => C f xs h
  | .bi f es, s, h => (evEs es s h).bnd fun xs h => biF f xs h
  | .mt m o es, s, h => (evE o s h).bnd fun x h1 => (evEs es s h1).bnd fun xs h => if kind x h1 = kind x h then mtF m x xs h else bad
  | .fld o f, s, h => (evE o s h).bnd fun x h => match x with
    | .ref l => (match h[l]? with
      | some (.ins _ fs) => (match fs.lookup f with
        | some v => ok v h
        | none => bad)
      | _ => bad)
    | _ => bad
  | .mk c es, s, h => (evEs es s h).bnd fun xs h => bad
  | .um m o es, s, h => (evE o s h).bnd fun x h => (evEs es s h).bnd fun xs h => bad
  | .lc elt tg it ifs own, s, h => (evI it s h).bnd fun r h =>
      (each (fun (acc : List PV) x h => (evG tg x (wipeP s own) h).bnd fun s2 h => (evTs ifs s2 h).bnd fun k h =>
        if k = true then (evE elt s2 h).bnd fun y h => if acc.length < sizeLine then ok (acc ++ [y]) h else bad else ok acc h) r [] h).bnd fun acc h => new (.lst acc) h
  | .dc kx vx tg it ifs own, s, h => (evI it s h).bnd fun r h =>
      (each (fun (acc : List (PV × PV)) x h => (evG tg x (wipeP s own) h).bnd fun s2 h => (evTs ifs s2 h).bnd fun k h =>
        if k = true then (evE kx s2 h).bnd fun y h => (evE vx s2 h).bnd fun z h => if isKey y ∧ acc.length < sizeLine then ok (dPut acc y z) h else bad else ok acc h) r [] h).bnd fun acc h => new (.dic acc) h
  | .isi f e, s, h => (evE e s h).bnd fun x h => isiF f x h
  | .lock i e, s, h => (slot s i h).bnd fun x h => match x with
    | .ref l => (match h[l]? with
      | some (.dic kvs) => (evE e s (h.set l (.lck kvs))).bnd fun v h => (match h[l]? with
        | some (.lck kvs) => ok v (h.set l (.dic kvs))
        | _ => bad)
      | _ => bad)
    | _ => bad
  | .inv neg a d, s, h => (evE a s h).bnd fun x h => (evE d s h).bnd fun y h => invF neg x y h
  | .lrg t es, s, h => (evEs es s h).bnd fun xs h => lrgF t xs h
def evEs : Es → PSt → PH → Out (List PV)
  | .nil, _, h => ok [] h
  | .cons e r, s, h => (evE e s h).bnd fun x h => (evEs r s h).bnd fun xs h => ok (x :: xs) h
/-- a display of pairs -/
def evD : Ks → PSt → PH → Out (List (PV × PV))
  | .nil, _, h => ok [] h
  | .cons k v r, s, h => (evE k s h).bnd fun x h => (evE v s h).bnd fun y h => (evD r s h).bnd fun ps h => ok ((x, y) :: ps) h
/-- a test -/
def evT : T → PSt → PH → Out Bool
  | .and a b, s, h => (evT a s h).bnd fun k h => if k = true then evT b s h else ok false h
  | .or a b, s, h => (evT a s h).bnd fun k h => if k = true then ok true h else evT b s h
  | .not a, s, h => (evT a s h).bnd fun k h => ok (!k) h
  | .ite c a b, s, h => (evT c s h).bnd fun k h => if k = true then evT a s h else evT b s h
  | .cmp op a b, s, h => (evE a s h).bnd fun x h => (evE b s h).bnd fun y h => (cmpF op x y h).bnd asB
  | .cmp2 op op' a b c, s, h => (evE a s h).bnd fun x h => (evE b s h).bnd fun y h => (cmpF op x y h).bnd fun z h => (asB z h).bnd fun k h =>
      if k = true then (evE c s h).bnd fun w h => (cmpF op' y w h).bnd asB else ok false h
  | .e e, s, h => (evE e s h).bnd truth
  | .inv neg a d, s, h => (evE a s h).bnd fun x h => (evE d s h).bnd fun y h => (invF neg x y h).bnd asB
def evP : Pt → PSt → PH → Out (Option Int)
  | .none, _, h => ok none h
  | .some e, s, h => (evE e s h).bnd fun x h => match x with
    | .int i => ok (some i) h
    | _ => bad
/-- tests, all of them -/
def evTs : Ts → PSt → PH → Out Bool
  | .nil, _, h => ok true h
  | .cons e r, s, h => (evT e s h).bnd fun k h => if k = true then evTs r s h else ok false h
def evI : It → PSt → PH → Out Itr
  | .ex e, s, h => (evE e s h).bnd fun x h => match x with
    | .tup xs => ok (.vals xs) h
    | .fro xs => ok (.vals xs) h
    | .ref l => (match h[l]? with
      | some (.lst _) => ok (.lst l) h
      | _ => bad)
    | .str x => ok (.vals (x.cps.toList.map fun c => .str ⟨#[c]⟩)) h
    | _ => bad
  | .rng es, s, h => (evEs es s h).bnd fun xs h => match xs with
    | [.int n] => if small n then ok (.vals (rngI 0 n.toNat)) h else bad
    | [.int a, .int b] => if small a ∧ small b then ok (.vals (rngI a (b - a).toNat)) h else bad
    | _ => bad
  | .keys e, s, h => (evE e s h).bnd fun x h => match x with
    | .ref l => (match h[l]? with
      | some (.lck kvs) => ok (.vals (kvs.map (·.1))) h
      | _ => bad)
    | _ => bad
  | _, _, _ => bad
def evG : Tg → PV → PSt → PH → Out PSt
  | .nm i, v, s, h => ok (s.set i (some v)) h
  | .tup is, v, s, h => match v with
    | .tup vs => (match setAll s is vs with
      | some s => ok s h
      | none => bad)
    | _ => bad
  | .sub o i, v, s, h => (evE o s h).bnd fun x h => (evE i s h).bnd fun y h => (setF x y v h).bnd fun _ h => ok s h
  | .fld o f, v, s, h => bad
end

def whl (c : PSt → PH → Out Bool) (b : PSt → PH → SO) : Nat → PSt → PH → SO
  | 0, _, _ => .bad
  | n + 1, s, h => (c s h).sbnd fun k h => if k = true then (match b s h with
      | .nx s h => whl c b n s h
      | .ct s h => whl c b n s h
      | .bk s h => .nx s h
      | .rt v h => .rt v h
      | .exc e h => .exc e h
      | .bad => .bad) else .nx s h
def forI (g : PV → PSt → PH → Out PSt) (b : PSt → PH → SO) (it : Itr) : Nat → Nat → PSt → PH → SO
  | 0, _, _, _ => .bad
  | n + 1, i, s, h => match itStep it i h with
    | none => .bad
    | some none => .nx s h
    | some (some x) => (g x s h).sbnd fun s h => match b s h with
      | .nx s h => forI g b it n (i + 1) s h
      | .ct s h => forI g b it n (i + 1) s h
      | .bk s h => .nx s h
      | .rt v h => .rt v h
      | .exc e h => .exc e h
      | .bad => .bad
def big : Nat := 1000000000
mutual
def evS : S → PSt → PH → SO
  | .pass, s, h => .nx s h
  | .brk, s, h => .bk s h
  | .cont, s, h => .ct s h
  | .retN, _, h => .rt .non h
  | .ret e, s, h => (evE C e s h).sbnd fun v h => .rt v h
  | .ex e, s, h => (evE C e s h).sbnd fun _ h => .nx s h
  | .asg t e, s, h => (evE C e s h).sbnd fun v h => (evG C t v s h).sbnd fun s h => .nx s h
  | .par i j a b, s, h => (evE C a s h).sbnd fun x h => (evE C b s h).sbnd fun y h => .nx ((s.set i (some x)).set j (some y)) h
  | .aug i op e, s, h => (slot s i h).sbnd fun x h => (evE C e s h).sbnd fun y h => (match x, y with
      | .int _, .int _ => binF op x y h
      | .str _, .str _ => binF op x y h
      | _, _ => bad).sbnd fun z h => .nx (s.set i (some z)) h
  | .augF o f op e, s, h => .bad
  | .augS o i op e, s, h => .bad
  | .ite c a b, s, h => (evT C c s h).sbnd fun k h => if k = true then evSs a s h else evSs b s h
  | .whl c b, s, h => whl (evT C c) (evSs b) big s h
  | .frr t it b, s, h => (evI C it s h).sbnd fun r h => forI (evG C t) (evSs b) r r.fuel 0 s h
  | .never, _, _ => .bad
def evSs : Ss → PSt → PH → SO
  | .nil, s, h => .nx s h
  | .cons a r, s, h => match evS a s h with
    | .nx s h => evSs r s h
    | o => o
end
end

structure Df where
  np : Nat
  ns : Nat
  body : Ss
def evCall (T : Str → Option Df) : Nat → Str → List PV → PH → Out PV
  | 0, _, _, _ => bad
  | k + 1, f, xs, h => match T f with
    | none => bad
    | some d => if xs.length = d.np ∧ d.np ≤ d.ns then (match evSs (evCall T k) d.body (xs.map some ++ List.replicate (d.ns - d.np) none) h with
      | .rt v h => ok v h
      | .nx _ h => ok .non h
      | .exc e h => exc e h
      | _ => bad) else bad
end MP

set_option Elab.async false
set_option linter.all false
set_option maxRecDepth 100000
namespace MP
open PySem PySem.Spec PyProof.Rows L2

abbrev Fg := PySem.W.Frag

/-- a list that stands still -/
def FrL (K : Fg) (H : Hp) (a : Addr) (xs : List V) : Prop := (∃ o, H a = some (.frz o (.lst xs))) ∨
  ∃ (o : Obj) (its : Array Value) (n : Nat), K.lookup a = some o ∧ o.cls = .type "list" ∧ o.dict = none ∧ o.data = .seq its n ∧ its.size ≤ sizeLine ∧ Vals xs its.toList
theorem FrL.sq {K : Fg} {H : Hp} {a : Addr} {xs : List V} (h : FrL K H a xs) : SqL K H a xs := h.imp (fun ⟨o, e⟩ => .inr ⟨o, e⟩) id
/-- a tuple, or a list that stands still -/
def SqI (K : Fg) (H : Hp) (a : Addr) (t : Bool × List V) : Prop := match t.1 with
  | true => SqT K H a t.2
  | false => FrL K H a t.2
mutual
/-- the plain value p is the value v -/
inductive RepV (K : Fg) (ρ : List Addr) (H : Hp) : PV → V → Prop
  | non : RepV K ρ H .non .non
  | bl (b : Bool) : RepV K ρ H (.bl b) (.bl b)
  | int (i : Int) : RepV K ρ H (.int i) (.int i)
  | str (x : Str) : RepV K ρ H (.str x) (.str x)
  | tup {a : Addr} {xs : List V} {ps : List PV} : SqT K H a xs → RepVs K ρ H ps xs → RepV K ρ H (.tup ps) (.ref a)
  | ref {l : Nat} {a : Addr} : ρ[l]? = some a → RepV K ρ H (.ref l) (.ref a)
  | fro {a : Addr} {xs : List V} {ps : List PV} : FrL K H a xs → RepVs K ρ H ps xs → RepV K ρ H (.fro ps) (.ref a)
inductive RepVs (K : Fg) (ρ : List Addr) (H : Hp) : List PV → List V → Prop
  | nil : RepVs K ρ H [] []
  | cons {p : PV} {v : V} {ps : List PV} {vs : List V} : RepV K ρ H p v → RepVs K ρ H ps vs → RepVs K ρ H (p :: ps) (v :: vs)
end
inductive RepKs (K : Fg) (ρ : List Addr) (H : Hp) : List (PV × PV) → List (L2.Key × V) → Prop
  | nil : RepKs K ρ H [] []
  | cons {k : PV} {kk : L2.Key} {p : PV} {v : V} {r : List (PV × PV)} {rs : List (L2.Key × V)} : keyOf k = some kk → RepV K ρ H p v → RepKs K ρ H r rs → RepKs K ρ H ((k, p) :: r) ((kk, v) :: rs)
def RepO (K : Fg) (ρ : List Addr) (H : Hp) : PO → Addr → Prop
  | .lst ps, a => ∃ xs, H a = some (.lst xs) ∧ RepVs K ρ H ps xs
  | .dic kvs, a => ∃ ks, H a = some (.dK ks) ∧ RepKs K ρ H kvs ks
  | .lck kvs, a => ∃ o ks, H a = some (.frz o (.dK ks)) ∧ RepKs K ρ H kvs ks
  | .ins _ _, _ => False

structure Sim (K : Fg) (ρ : List Addr) (h : PH) (H : Hp) : Prop where
  len : ρ.length = h.length
  nd : ρ.Nodup
  ob : ∀ (l : Nat) o a, h[l]? = some o → ρ[l]? = some a → RepO K ρ H o a
structure Ext (K : Fg) (ρ : List Addr) (H : Hp) (ρ' : List Addr) (H' : Hp) : Prop where
  pre : ∀ (l : Nat) a, ρ[l]? = some a → ρ'[l]? = some a
  tup : ∀ a xs, SqI K H a xs → SqI K H' a xs
  frm : ∀ a o, H a = some o → a ∉ ρ → H' a = some o
  new : ∀ a, a ∈ ρ' → a ∈ ρ ∨ H a = none
  lck : ∀ a o ks, H a = some (.frz o (.dK ks)) → H' a = some (.frz o (.dK ks))
def RepSt (K : Fg) (ρ : List Addr) (H : Hp) (s : PSt) (σ : L2.St) : Prop :=
  s.length = σ.length ∧ ∀ (i : Nat) v, s[i]? = some (some v) → ∃ u, σ[i]? = some (some u) ∧ RepV K ρ H v u

section
variable {K : Fg} {ρ ρ' ρ2 : List Addr} {H H' H2 : Hp} {h h' : PH}
mutual
theorem RepV.mono (hp : ∀ (l : Nat) a, ρ[l]? = some a → ρ'[l]? = some a) (ht : ∀ a xs, SqI K H a xs → SqI K H' a xs) : ∀ {p : PV} {v : V}, RepV K ρ H p v → RepV K ρ' H' p v
  | _, _, .non => .non
  | _, _, .bl b => .bl b
  | _, _, .int i => .int i
  | _, _, .str x => .str x
  | _, _, .tup (xs := xs) q r => .tup (ht _ (true, xs) q) (RepVs.mono hp ht r)
  | _, _, .fro (xs := xs) q r => .fro (ht _ (false, xs) q) (RepVs.mono hp ht r)
  | _, _, .ref e => .ref (hp _ _ e)
theorem RepVs.mono (hp : ∀ (l : Nat) a, ρ[l]? = some a → ρ'[l]? = some a) (ht : ∀ a xs, SqI K H a xs → SqI K H' a xs) : ∀ {p : List PV} {v : List V}, RepVs K ρ H p v → RepVs K ρ' H' p v
  | _, _, .nil => .nil
  | _, _, .cons q r => .cons (RepV.mono hp ht q) (RepVs.mono hp ht r)
end
theorem RepKs.mono (hp : ∀ (l : Nat) a, ρ[l]? = some a → ρ'[l]? = some a) (ht : ∀ a xs, SqI K H a xs → SqI K H' a xs) : ∀ {p : List (PV × PV)} {v : List (L2.Key × V)}, RepKs K ρ H p v → RepKs K ρ' H' p v
  | _, _, .nil => .nil
  | _, _, .cons e q r => .cons e (q.mono hp ht) (RepKs.mono hp ht r)
theorem Ext.refl : Ext K ρ H ρ H := ⟨fun _ _ e => e, fun _ _ e => e, fun _ _ e _ => e, fun _ e => .inl e, fun _ _ _ e => e⟩
theorem mem_of_get {l : Nat} {a : Addr} (e : ρ[l]? = some a) : a ∈ ρ := List.mem_of_getElem? e
theorem get_of_mem {a : Addr} (e : a ∈ ρ) : ∃ l : Nat, ρ[l]? = some a := List.mem_iff_getElem?.mp e
theorem Ext.mem (x : Ext K ρ H ρ' H') {a : Addr} (e : a ∈ ρ) : a ∈ ρ' := by
  obtain ⟨l, e⟩ := get_of_mem e
  exact mem_of_get (x.pre l a e)
theorem Ext.trans (x : Ext K ρ H ρ' H') (y : Ext K ρ' H' ρ2 H2) : Ext K ρ H ρ2 H2 where
  pre := fun l a e => y.pre l a (x.pre l a e)
  tup := fun a xs e => y.tup a xs (x.tup a xs e)
  lck := fun a o ks e => y.lck a o ks (x.lck a o ks e)
  frm := fun a o e n => by
    refine y.frm a o (x.frm a o e n) fun z => ?_
    rcases x.new a z with q | q
    · exact n q
    · rw [e] at q; cases q
  new := fun a e => by
    rcases y.new a e with q | q
    · exact x.new a q
    · cases e2 : H a with
      | none => exact .inr rfl
      | some o =>
        by_cases m : a ∈ ρ
        · exact .inl m
        · rw [x.frm a o e2 m] at q; cases q
theorem RepV.ext (x : Ext K ρ H ρ' H') {p : PV} {v : V} (r : RepV K ρ H p v) : RepV K ρ' H' p v := r.mono x.pre x.tup
theorem RepVs.ext (x : Ext K ρ H ρ' H') {p : List PV} {v : List V} (r : RepVs K ρ H p v) : RepVs K ρ' H' p v := r.mono x.pre x.tup
theorem RepKs.ext (x : Ext K ρ H ρ' H') {p : List (PV × PV)} {v : List (L2.Key × V)} (r : RepKs K ρ H p v) : RepKs K ρ' H' p v := r.mono x.pre x.tup
theorem RepSt.ext (x : Ext K ρ H ρ' H') {s : PSt} {σ : L2.St} (r : RepSt K ρ H s σ) : RepSt K ρ' H' s σ := ⟨r.1, fun i v e => let ⟨u, a, b⟩ := r.2 i v e; ⟨u, a, b.ext x⟩⟩
theorem RepO.mono {o : PO} {a : Addr} (hp : ∀ (l : Nat) a, ρ[l]? = some a → ρ'[l]? = some a) (ht : ∀ a xs, SqI K H a xs → SqI K H' a xs) (e : H' a = H a) (r : RepO K ρ H o a) : RepO K ρ' H' o a := by
  cases o with
  | lst ps => obtain ⟨xs, h1, h2⟩ := r; exact ⟨xs, e.trans h1, h2.mono hp ht⟩
  | dic ps => obtain ⟨xs, h1, h2⟩ := r; exact ⟨xs, e.trans h1, h2.mono hp ht⟩
  | lck ps => obtain ⟨o, xs, h1, h2⟩ := r; exact ⟨o, xs, e.trans h1, h2.mono hp ht⟩
  | ins _ _ => exact r
/-- what stands at a place is tracked, and no tuple -/
theorem RepO.some {o : PO} {a : Addr} (r : RepO K ρ H o a) : ∃ u, H a = some u ∧ (∀ xs, u ≠ .tup xs) ∧ ∀ ob xs, u ≠ .frz ob (.tup xs) ∧ u ≠ .frz ob (.lst xs) := by
  cases o with
  | lst ps => obtain ⟨xs, h1, h2⟩ := r; exact ⟨_, h1, fun _ => nofun, fun _ _ => ⟨nofun, nofun⟩⟩
  | dic ps => obtain ⟨xs, h1, h2⟩ := r; exact ⟨_, h1, fun _ => nofun, fun _ _ => ⟨nofun, nofun⟩⟩
  | lck ps => obtain ⟨o, xs, h1, h2⟩ := r; exact ⟨_, h1, fun _ => nofun, fun _ _ => ⟨nofun, nofun⟩⟩
  | ins _ _ => exact r.elim
theorem Sim.at (S : Sim K ρ h H) {l : Nat} {o : PO} (e : h[l]? = some o) : ∃ a, ρ[l]? = some a ∧ RepO K ρ H o a := by
  have lt : l < ρ.length := by rw [S.len]; exact (List.getElem?_eq_some_iff.mp e).1
  exact ⟨ρ[l], List.getElem?_eq_getElem lt, S.ob l o _ e (List.getElem?_eq_getElem lt)⟩
theorem Sim.mem (S : Sim K ρ h H) {a : Addr} (e : a ∈ ρ) : ∃ (l : Nat) (o : PO), ρ[l]? = some a ∧ h[l]? = some o ∧ RepO K ρ H o a := by
  obtain ⟨l, e⟩ := get_of_mem e
  have lt : l < h.length := by rw [← S.len]; exact (List.getElem?_eq_some_iff.mp e).1
  exact ⟨l, h[l], e, List.getElem?_eq_getElem lt, S.ob l _ a (List.getElem?_eq_getElem lt) e⟩
theorem Sim.tracked (S : Sim K ρ h H) {a : Addr} (e : a ∈ ρ) : ∃ u, H a = some u ∧ (∀ xs, u ≠ .tup xs) ∧ ∀ ob xs, u ≠ .frz ob (.tup xs) ∧ u ≠ .frz ob (.lst xs) := let ⟨_, _, _, _, r⟩ := S.mem e; r.some
theorem Sim.inj (S : Sim K ρ h H) {i j : Nat} {a : Addr} (e : ρ[i]? = some a) (f : ρ[j]? = some a) : i = j := by
  obtain ⟨h1, e1⟩ := List.getElem?_eq_some_iff.mp e
  obtain ⟨h2, e2⟩ := List.getElem?_eq_some_iff.mp f
  exact (List.getElem_inj S.nd).mp (e1.trans e2.symm)
theorem SqI.upd_new {a p : Addr} {xs : Bool × List V} {o : HO} (hp : H p = none) (q : SqI K H a xs) : SqI K (upd H p o) a xs := by
  obtain ⟨b, xs⟩ := xs
  cases b with
  | true =>
    rcases (show SqT K H a xs from q) with (q | ⟨ob, q⟩) | q
    · exact .inl (.inl (by rw [upd_ne (ne_of_none q hp)]; exact q))
    · exact .inl (.inr ⟨ob, by rw [upd_ne (ne_of_none q hp)]; exact q⟩)
    · exact .inr q
  | false =>
    rcases (show FrL K H a xs from q) with ⟨ob, q⟩ | q
    · exact .inl ⟨ob, by rw [upd_ne (ne_of_none q hp)]; exact q⟩
    · exact .inr q
theorem SqI.upd_old {a p : Addr} {xs : Bool × List V} {o u : HO} (hu : H p = some u) (h1 : ∀ xs, u ≠ .tup xs) (h2 : ∀ ob xs, u ≠ .frz ob (.tup xs) ∧ u ≠ .frz ob (.lst xs)) (q : SqI K H a xs) : SqI K (upd H p o) a xs := by
  obtain ⟨b, xs⟩ := xs
  cases b with
  | true =>
    rcases (show SqT K H a xs from q) with (q | ⟨ob, q⟩) | q
    · refine .inl (.inl ?_)
      rw [upd_ne]
      · exact q
      · intro e; subst e; rw [hu] at q; exact h1 _ (Option.some.inj q)
    · refine .inl (.inr ⟨ob, ?_⟩)
      rw [upd_ne]
      · exact q
      · intro e; subst e; rw [hu] at q; exact (h2 _ _).1 (Option.some.inj q)
    · exact .inr q
  | false =>
    rcases (show FrL K H a xs from q) with ⟨ob, q⟩ | q
    · refine .inl ⟨ob, ?_⟩
      rw [upd_ne]
      · exact q
      · intro e; subst e; rw [hu] at q; exact (h2 _ _).2 (Option.some.inj q)
    · exact .inr q
/-- a new thing that stands at no place -/
theorem Ext.tuple {p : Addr} {o : HO} (hp : H p = none) : Ext K ρ H ρ (upd H p o) :=
  ⟨fun _ _ e => e, fun _ _ q => SqI.upd_new hp q, fun a o e _ => by rw [upd_ne (ne_of_none e hp)]; exact e, fun _ e => .inl e, fun _ _ _ e => by rw [upd_ne (ne_of_none e hp)]; exact e⟩
theorem Sim.tuple {p : Addr} {o : HO} (S : Sim K ρ h H) (hp : H p = none) : Sim K ρ h (upd H p o) :=
  ⟨S.len, S.nd, fun l ob a e f => (S.ob l ob a e f).mono (fun _ _ e => e) (fun _ _ q => SqI.upd_new hp q) (by
    obtain ⟨u, hu, _⟩ := S.tracked (mem_of_get f)
    rw [upd_ne (ne_of_none hu hp)])⟩
/-- a new place -/
theorem Ext.push {p : Addr} {o : HO} (hp : H p = none) : Ext K ρ H (ρ ++ [p]) (upd H p o) :=
  ⟨fun l a e => by rw [List.getElem?_append_left (List.getElem?_eq_some_iff.mp e).1]; exact e, fun _ _ q => SqI.upd_new hp q, fun a o e _ => by rw [upd_ne (ne_of_none e hp)]; exact e, fun a e => by
    rcases List.mem_append.mp e with e | e
    · exact .inl e
    · have : a = p := by simpa using e
      subst this
      exact .inr hp, fun _ _ _ e => by rw [upd_ne (ne_of_none e hp)]; exact e⟩
theorem Sim.push {p : Addr} {o : HO} {po : PO} (S : Sim K ρ h H) (hp : H p = none) (r : RepO K (ρ ++ [p]) (upd H p o) po p) : Sim K (ρ ++ [p]) (h ++ [po]) (upd H p o) := by
  have X : Ext K ρ H (ρ ++ [p]) (upd H p o) := Ext.push hp
  refine ⟨by simp [S.len], ?_, fun l ob a e f => ?_⟩
  · refine List.nodup_append.mpr ⟨S.nd, by simp, fun a ha b hb e => ?_⟩
    have : b = p := by simpa using hb
    subst this e
    obtain ⟨u, hu, _⟩ := S.tracked ha
    rw [hp] at hu; cases hu
  · by_cases lt : l < h.length
    · rw [List.getElem?_append_left lt] at e
      rw [List.getElem?_append_left (by rw [S.len]; exact lt)] at f
      refine (S.ob l ob a e f).mono X.pre X.tup ?_
      obtain ⟨u, hu, _⟩ := S.tracked (mem_of_get f)
      rw [upd_ne (ne_of_none hu hp)]
    · have e2 : l = h.length := by
        have := (List.getElem?_eq_some_iff.mp e).1
        simp at this; omega
      subst e2
      rw [List.getElem?_append_right (Nat.le_refl _)] at e
      rw [List.getElem?_append_right (by rw [S.len]; exact Nat.le_refl _)] at f
      simp [S.len] at e f
      subst e f
      exact r
theorem push_at (S : Sim K ρ h H) (p : Addr) : (ρ ++ [p])[h.length]? = some p := by
  rw [List.getElem?_append_right (by rw [S.len]; exact Nat.le_refl _), S.len]
  simp
/-- a place is written -/
theorem set_tup {l : Nat} {p : Addr} {o : HO} (S : Sim K ρ h H) (e : ρ[l]? = some p) : ∀ a xs, SqI K H a xs → SqI K (upd H p o) a xs := by
  obtain ⟨u, hu, h1, h2⟩ := S.tracked (mem_of_get e)
  exact fun _ _ q => SqI.upd_old hu h1 h2 q
theorem Ext.set {l : Nat} {p : Addr} {o : HO} (S : Sim K ρ h H) (e : ρ[l]? = some p) (hm : ∀ ob w, H p ≠ some (.frz ob w)) : Ext K ρ H ρ (upd H p o) :=
  ⟨fun _ _ e => e, set_tup S e, fun a o e' n => by rw [upd_ne]; exact e'; intro z; exact n (z ▸ mem_of_get e), fun _ e => .inl e, fun a o ks e' => by rw [upd_ne]; exact e'; intro z; subst z; exact hm _ _ e'⟩
theorem nfL {p : Addr} {xs : List V} (e : H p = some (.lst xs)) : ∀ ob w, H p ≠ some (.frz ob w) := fun _ _ z => by rw [e] at z; cases z
theorem nfD {p : Addr} {xs : List (L2.Key × V)} (e : H p = some (.dK xs)) : ∀ ob w, H p ≠ some (.frz ob w) := fun _ _ z => by rw [e] at z; cases z
theorem Sim.set {l : Nat} {p : Addr} {o : HO} {po : PO} (S : Sim K ρ h H) (e : ρ[l]? = some p) (r : RepO K ρ (upd H p o) po p) : Sim K ρ (h.set l po) (upd H p o) := by
  refine ⟨by simp [S.len], S.nd, fun j ob a e' f => ?_⟩
  by_cases hj : j = l
  · subst hj
    rw [e] at f; cases f
    have lt : j < h.length := by rw [← S.len]; exact (List.getElem?_eq_some_iff.mp e).1
    rw [List.getElem?_set_self lt] at e'
    cases e'
    exact r
  · rw [List.getElem?_set_ne (Ne.symm hj)] at e'
    refine (S.ob j ob a e' f).mono (fun _ _ e => e) (set_tup S e) ?_
    rw [upd_ne]
    intro z
    subst z
    exact hj (S.inj f e)
theorem RepVs.length : ∀ {p : List PV} {v : List V}, RepVs K ρ H p v → p.length = v.length
  | _, _, .nil => rfl
  | _, _, .cons _ r => by simp [RepVs.length r]
theorem RepVs.get : ∀ {p : List PV} {v : List V} {i : Nat} {x : PV}, RepVs K ρ H p v → p[i]? = some x → ∃ u, v[i]? = some u ∧ RepV K ρ H x u
  | _, _, _, _, .nil, e => by simp at e
  | _, _, 0, _, .cons r _, e => by simp at e; subst e; exact ⟨_, rfl, r⟩
  | _, _, i + 1, x, .cons _ t, e => by
    obtain ⟨u, h1, h2⟩ := RepVs.get (i := i) (x := x) t (by simpa using e)
    exact ⟨u, by simpa using h1, h2⟩
theorem RepVs.get' : ∀ {p : List PV} {v : List V} {i : Nat} {u : V}, RepVs K ρ H p v → v[i]? = some u → ∃ x, p[i]? = some x ∧ RepV K ρ H x u
  | _, _, _, _, .nil, e => by simp at e
  | _, _, 0, _, .cons r _, e => by simp at e; subst e; exact ⟨_, rfl, r⟩
  | _, _, i + 1, x, .cons _ t, e => by
    obtain ⟨u, h1, h2⟩ := RepVs.get' (i := i) (u := x) t (by simpa using e)
    exact ⟨u, by simpa using h1, h2⟩
theorem RepVs.append : ∀ {p q : List PV} {v w : List V}, RepVs K ρ H p v → RepVs K ρ H q w → RepVs K ρ H (p ++ q) (v ++ w)
  | _, _, _, _, .nil, s => s
  | _, _, _, _, .cons r t, s => .cons r (RepVs.append t s)
theorem RepVs.take : ∀ {p : List PV} {v : List V} (n : Nat), RepVs K ρ H p v → RepVs K ρ H (p.take n) (v.take n)
  | _, _, 0, _ => .nil
  | _, _, _ + 1, .nil => .nil
  | _, _, n + 1, .cons r t => .cons r (RepVs.take n t)
theorem RepVs.drop : ∀ {p : List PV} {v : List V} (n : Nat), RepVs K ρ H p v → RepVs K ρ H (p.drop n) (v.drop n)
  | _, _, 0, r => r
  | _, _, _ + 1, .nil => .nil
  | _, _, n + 1, .cons _ t => RepVs.drop n t
theorem RepVs.set {x : PV} {u : V} (r : RepV K ρ H x u) : ∀ {p : List PV} {v : List V} (i : Nat), RepVs K ρ H p v → RepVs K ρ H (p.set i x) (v.set i u)
  | _, _, _, .nil => .nil
  | _, _, 0, .cons _ t => .cons r t
  | _, _, i + 1, .cons q t => .cons q (RepVs.set r i t)
theorem RepVs.erase : ∀ {p : List PV} {v : List V} (i : Nat), RepVs K ρ H p v → RepVs K ρ H (p.eraseIdx i) (v.eraseIdx i)
  | _, _, _, .nil => .nil
  | _, _, 0, .cons _ t => t
  | _, _, i + 1, .cons q t => .cons q (RepVs.erase i t)
theorem RepVs.flatRep {p : List PV} {v : List V} (r : RepVs K ρ H p v) : ∀ n : Nat, RepVs K ρ H (List.flatten (List.replicate n p)) (List.flatten (List.replicate n v))
  | 0 => .nil
  | n + 1 => by
    rw [List.replicate_succ, List.replicate_succ, List.flatten_cons, List.flatten_cons]
    exact r.append (RepVs.flatRep r n)
theorem RepVs.dropLast : ∀ {p : List PV} {v : List V}, RepVs K ρ H p v → RepVs K ρ H p.dropLast v.dropLast
  | _, _, .nil => .nil
  | _, _, .cons _ .nil => .nil
  | _, _, .cons q (.cons q' t) => .cons q (RepVs.dropLast (.cons q' t))
theorem RepVs.isEmpty {p : List PV} {v : List V} (r : RepVs K ρ H p v) : p.isEmpty = v.isEmpty := by
  cases r <;> rfl
theorem RepKs.isEmpty {p : List (PV × PV)} {v : List (L2.Key × V)} (r : RepKs K ρ H p v) : p.isEmpty = v.isEmpty := by
  cases r <;> rfl
theorem RepKs.length : ∀ {p : List (PV × PV)} {v : List (L2.Key × V)}, RepKs K ρ H p v → p.length = v.length
  | _, _, .nil => rfl
  | _, _, .cons _ _ r => by simp [RepKs.length r]
theorem RepV.intV {i : Int} {v : V} (r : RepV K ρ H (.int i) v) : v = .int i := by cases r; rfl
theorem RepV.strV {i : Str} {v : V} (r : RepV K ρ H (.str i) v) : v = .str i := by cases r; rfl
theorem RepV.blV {i : Bool} {v : V} (r : RepV K ρ H (.bl i) v) : v = .bl i := by cases r; rfl
theorem RepV.nonV {v : V} (r : RepV K ρ H .non v) : v = .non := by cases r; rfl
theorem RepVs.ints : ∀ {ps : List PV} {ns : List Int} {vs : List V}, intsOf ps = some ns → RepVs K ρ H ps vs → vs = ns.map V.int
  | [], ns, _, e, .nil => by simp [intsOf] at e; subst e; rfl
  | .int i :: r, ns, _, e, .cons q t => by
    simp only [intsOf, Option.map_eq_some_iff] at e
    obtain ⟨l, e1, e2⟩ := e
    subst e2
    rw [q.intV, RepVs.ints e1 t]
    rfl
  | .non :: _, _, _, e, _ => by simp [intsOf] at e
  | .bl _ :: _, _, _, e, _ => by simp [intsOf] at e
  | .str _ :: _, _, _, e, _ => by simp [intsOf] at e
  | .tup _ :: _, _, _, e, _ => by simp [intsOf] at e
  | .ref _ :: _, _, _, e, _ => by simp [intsOf] at e
  | .fro _ :: _, _, _, e, _ => by simp [intsOf] at e
theorem RepVs.bools : ∀ {ps : List PV} {ns : List Bool} {vs : List V}, boolsOf ps = some ns → RepVs K ρ H ps vs → vs = ns.map V.bl
  | [], ns, _, e, .nil => by simp [boolsOf] at e; subst e; rfl
  | .bl i :: r, ns, _, e, .cons q t => by
    simp only [boolsOf, Option.map_eq_some_iff] at e
    obtain ⟨l, e1, e2⟩ := e
    subst e2
    rw [q.blV, RepVs.bools e1 t]
    rfl
  | .non :: _, _, _, e, _ => by simp [boolsOf] at e
  | .int _ :: _, _, _, e, _ => by simp [boolsOf] at e
  | .str _ :: _, _, _, e, _ => by simp [boolsOf] at e
  | .tup _ :: _, _, _, e, _ => by simp [boolsOf] at e
  | .ref _ :: _, _, _, e, _ => by simp [boolsOf] at e
  | .fro _ :: _, _, _, e, _ => by simp [boolsOf] at e
theorem RepVs.ofInts : ∀ (ns : List Int), RepVs K ρ H (ns.map PV.int) (ns.map V.int)
  | [] => .nil
  | n :: r => .cons (.int n) (RepVs.ofInts r)
end
end MP

set_option Elab.async false
set_option linter.all false
set_option maxRecDepth 100000
set_option maxHeartbeats 1000000
namespace MP
open PySem PySem.Spec PyProof.Rows L2

/-- what is wanted behind an outcome -/
def PostG {α : Type} (K : Fg) (ρ : List Addr) (H : Hp) (o : Out α) (R : α → List Addr → Hp → Prop) : Prop :=
  match o with
  | .ok v h' => ∀ ρ' H', Ext K ρ H ρ' H' → Sim K ρ' h' H' → R v ρ' H'
  | _ => False
abbrev PostV (K : Fg) (ρ : List Addr) (H : Hp) (o : Out PV) (Q : VK) : Prop := PostG K ρ H o fun v ρ' H' => ∀ V, RepV K ρ' H' v V → Q V H'

section
variable {K : Fg} {ρ ρ1 : List Addr} {H H1 : Hp} {h : PH}
theorem PostG.mono {α : Type} {o : Out α} {R R' : α → List Addr → Hp → Prop} (p : PostG K ρ H o R) (f : ∀ v ρ' H', Ext K ρ H ρ' H' → R v ρ' H' → R' v ρ' H') : PostG K ρ H o R' := by
  cases o with
  | ok v h' => exact fun ρ' H' x s => f v ρ' H' x (p ρ' H' x s)
  | exc e h' => exact p
  | bad => exact p
theorem PostG.ext {α : Type} {o : Out α} {R : α → List Addr → Hp → Prop} (p : PostG K ρ H o R) (x : Ext K ρ H ρ1 H1) : PostG K ρ1 H1 o R := by
  cases o with
  | ok v h' => exact fun ρ' H' y s => p ρ' H' (x.trans y) s
  | exc e h' => exact p
  | bad => exact p
theorem PostG.bnd {α β : Type} {o : Out α} {f : α → PH → Out β} {R : β → List Addr → Hp → Prop} (p : PostG K ρ H (o.bnd f) R) :
    PostG K ρ H o fun v ρ' H' => ∃ h', Sim K ρ' h' H' ∧ PostG K ρ' H' (f v h') R := by
  cases o with
  | ok v h' => exact fun ρ' H' x s => ⟨h', s, PostG.ext (o := f v h') p x⟩
  | exc e h' => exact p
  | bad => exact p
theorem PostG.now {α : Type} {v : α} {R : α → List Addr → Hp → Prop} (p : PostG K ρ H (.ok v h) R) (s : Sim K ρ h H) : R v ρ H := p ρ H .refl s
theorem PostV.now {v : PV} {V : V} {Q : VK} (p : PostV K ρ H (.ok v h) Q) (s : Sim K ρ h H) (r : RepV K ρ H v V) : Q V H := p ρ H .refl s V r
/-- a new tuple -/
theorem PostV.tup {ps : List PV} {xs : List V} {Q : VK} (p : PostV K ρ H (.ok (.tup ps) h) Q) (s : Sim K ρ h H) (r : RepVs K ρ H ps xs) : ∀ a, H a = none → Q (.ref a) (upd H a (.tup xs)) := fun a ha =>
  p ρ _ (Ext.tuple ha) (s.tuple ha) _ (.tup (SqT.of upd_same) (r.ext (Ext.tuple ha)))
theorem PostV.new {o : PO} {u : HO} {Q : VK} (p : PostV K ρ H (MP.new o h) Q) (s : Sim K ρ h H) (r : ∀ a, H a = none → RepO K (ρ ++ [a]) (upd H a u) o a) : ∀ a, H a = none → Q (.ref a) (upd H a u) := fun a ha =>
  p (ρ ++ [a]) _ (Ext.push ha) (s.push ha (r a ha)) _ (.ref (push_at s a))
theorem PostV.newL {ps : List PV} {xs : List V} {Q : VK} (p : PostV K ρ H (MP.new (.lst ps) h) Q) (s : Sim K ρ h H) (r : RepVs K ρ H ps xs) : ∀ a, H a = none → Q (.ref a) (upd H a (.lst xs)) :=
  p.new s fun a ha => ⟨xs, upd_same, r.ext (Ext.push ha)⟩
theorem Sim.lst (S : Sim K ρ h H) {l : Nat} {a : Addr} {ps : List PV} (e : h[l]? = some (.lst ps)) (f : ρ[l]? = some a) : ∃ xs, H a = some (.lst xs) ∧ RepVs K ρ H ps xs := S.ob l _ a e f
theorem Sim.dic (S : Sim K ρ h H) {l : Nat} {a : Addr} {ps : List (PV × PV)} (e : h[l]? = some (.dic ps)) (f : ρ[l]? = some a) : ∃ xs, H a = some (.dK xs) ∧ RepKs K ρ H ps xs := S.ob l _ a e f
theorem Sim.lck (S : Sim K ρ h H) {l : Nat} {a : Addr} {ps : List (PV × PV)} (e : h[l]? = some (.lck ps)) (f : ρ[l]? = some a) : ∃ o xs, H a = some (.frz o (.dK xs)) ∧ RepKs K ρ H ps xs := S.ob l _ a e f
end

/-- a two-place operation, by plain values -/
def r2 (K : Fg) (g : PV → PV → PH → Out PV) : R2 := fun x y H Q => ∃ ρ h p q, Sim K ρ h H ∧ RepV K ρ H p x ∧ RepV K ρ H q y ∧ PostV K ρ H (g p q h) Q

section
variable {X : Cx}
theorem op_bin (op : Operator) : OpR X (binaryOp op) (r2 X.K (binF op)) := by
  intro pins s σ H x y v u Q I rx ry h
  obtain ⟨ρ, h, p, q, S, rp, rq, po⟩ := h
  unfold binF at po
  split at po
  · cases rp; cases rq
    exact op_add pins s σ H _ _ v u Q I rx ry ⟨_, _, rfl, rfl, po.now S (.int _)⟩
  · cases rp; cases rq
    split at po
    · exact op_add_str pins s σ H _ _ v u Q I rx ry ⟨_, _, rfl, rfl, by assumption, po.now S (.str _)⟩
    · exact po.elim
  · split at po
    · rename_i hz
      cases rp with
      | tup q1 r1 =>
        cases rq with
        | tup q2 r2 =>
          rename_i a xs b ys
          refine op_catA pins s σ H _ _ v u Q I rx ry ⟨_, _, xs, ys, rfl, rfl, q1, q2, by rw [← r1.length, ← r2.length]; exact hz, fun e => ?_, fun e1 e => ?_, fun _ _ => po.tup S (r1.append r2)⟩
          · subst e
            cases r1
            exact po.now S (.tup q2 r2)
          · subst e
            cases r2
            refine po.now S (.tup q1 ?_)
            rw [List.append_nil]
            exact r1
    · exact po.elim
  · split at po
    · rename_i h1 h2
      split at po
      · rename_i hz
        cases rp with
        | ref ea =>
          cases rq with
          | ref eb =>
            obtain ⟨xs, e1, r1⟩ := S.lst h1 ea
            obtain ⟨ys, e2, r2⟩ := S.lst h2 eb
            exact op_cat pins s σ H _ _ v u Q I rx ry ⟨_, _, xs, ys, rfl, rfl, e1, e2, by rw [← r1.length, ← r2.length]; exact hz, po.newL S (r1.append r2)⟩
      · exact po.elim
    · exact po.elim
  · cases rp; cases rq
    exact op_sub pins s σ H _ _ v u Q I rx ry ⟨_, _, rfl, rfl, po.now S (.int _)⟩
  · cases rp; cases rq
    split at po
    · rename_i i j hz
      refine op_mul pins s σ H _ _ v u Q I rx ry ⟨_, _, rfl, rfl, ?_, po.now S (.int _)⟩
      rcases hz with hz | hz
      · exact .inl (by constructor <;> omega)
      · exact .inr (by constructor <;> omega)
    · exact po.elim
  · split at po
    · rename_i h1
      split at po
      · rename_i hz
        cases rp with
        | ref ea =>
          cases rq
          obtain ⟨xs, e1, r1⟩ := S.lst h1 ea
          exact op_rep pins s σ H _ _ v u Q I rx ry ⟨_, _, xs, rfl, rfl, e1, hz.1, hz.2.1, by rw [← r1.length]; exact hz.2.2, po.newL S (r1.flatRep _)⟩
      · exact po.elim
    · exact po.elim
  · cases rp; cases rq
    split at po
    · exact op_fdiv pins s σ H _ _ v u Q I rx ry ⟨_, _, rfl, rfl, by assumption, po.now S (.int _)⟩
    · exact po.elim
  · cases rp; cases rq
    split at po
    · exact op_mod pins s σ H _ _ v u Q I rx ry ⟨_, _, rfl, rfl, by assumption, po.now S (.int _)⟩
    · exact po.elim
  · cases rp; cases rq
    split at po
    · exact op_shl pins s σ H _ _ v u Q I rx ry ⟨_, _, rfl, rfl, by assumption, po.now S (.int _)⟩
    · exact po.elim
  · cases rp; cases rq
    split at po
    · exact op_shr pins s σ H _ _ v u Q I rx ry ⟨_, _, rfl, rfl, by assumption, po.now S (.int _)⟩
    · exact po.elim
  · cases rp; cases rq
    split at po
    · exact op_pow pins s σ H _ _ v u Q I rx ry ⟨_, _, rfl, rfl, by assumption, po.now S (.int _)⟩
    · exact po.elim
  · cases rp; cases rq
    exact op_and pins s σ H _ _ v u Q I rx ry ⟨_, _, rfl, rfl, po.now S (.int _)⟩
  · cases rp; cases rq
    exact op_or pins s σ H _ _ v u Q I rx ry ⟨_, _, rfl, rfl, po.now S (.int _)⟩
  · cases rp; cases rq
    exact op_xor pins s σ H _ _ v u Q I rx ry ⟨_, _, rfl, rfl, po.now S (.int _)⟩
  · exact po.elim
end

/-! ### data -/
section
variable {K : Fg} {ρ : List Addr} {H : Hp} {h : PH}
theorem dataL_all {f : PV → Option PyData} (ih : ∀ p v d, f p = some d → RepV K ρ H p v → Dp K H v d) : ∀ {ps : List PV} {vs : List V} {ds : List PyData}, dataL f ps = some ds → RepVs K ρ H ps vs → DpAll K H vs ds
  | [], _, ds, e, .nil => by
    simp [dataL] at e
    subst e
    exact .nil
  | p :: r, _, ds, e, .cons q t => by
    unfold dataL at e
    split at e
    · rename_i d ds' e1 e2
      cases e
      exact .cons (ih _ _ _ e1 q) (dataL_all ih e2 t)
    · cases e
theorem datum_ok (S : Sim K ρ h H) : ∀ (n : Nat) (p : PV) (v : V) (d : PyData), datum h n p = some d → RepV K ρ H p v → Dp K H v d
  | 0, p, v, d, e, r => by simp [datum] at e
  | n + 1, .non, v, d, e, r => by cases r; simp [datum] at e; subst e; exact .non
  | n + 1, .bl b, v, d, e, r => by cases r; simp [datum] at e; subst e; exact .bl _
  | n + 1, .int b, v, d, e, r => by cases r; simp [datum] at e; subst e; exact .int _
  | n + 1, .str b, v, d, e, r => by cases r; simp [datum] at e; subst e; exact .str _
  | n + 1, .tup ps, v, d, e, r => by
    simp only [datum, Option.map_eq_some_iff] at e
    obtain ⟨ds, e1, e2⟩ := e
    subst e2
    cases r with
    | tup q t => exact .tup q (dataL_all (fun p v d => datum_ok S n p v d) e1 t)
  | n + 1, .fro _, v, d, e, r => by simp [datum] at e
  | n + 1, .ref l, v, d, e, r => by
    cases r with
    | ref ea =>
      simp only [datum] at e
      split at e
      · rename_i h1
        simp only [Option.map_eq_some_iff] at e
        obtain ⟨ds, e1, e2⟩ := e
        subst e2
        obtain ⟨xs, e3, r1⟩ := S.lst h1 ea
        exact .lst (SqL.of e3) (dataL_all (fun p v d => datum_ok S n p v d) e1 r1)
      · cases e
end
section
variable {X : Cx}
def rB (K : Fg) (g : PV → PV → PH → Out Bool) (f : Bool → Bool) : R2 := fun x y H Q => ∃ ρ h p q, Sim K ρ h H ∧ RepV K ρ H p x ∧ RepV K ρ H q y ∧ PostG K ρ H (g p q h) fun b _ H' => Q (.bl (f b)) H'
theorem op_eqP (hu : X.A.units + 64 < cLine) : OpR X (compareOp .Eq) (rB X.K eqB id) := by
  intro pins s σ H x y v u Q I rx ry h
  obtain ⟨ρ, h, p, q, S, rp, rq, po⟩ := h
  unfold eqB at po
  split at po
  · cases rp; cases rq
    exact op_eq pins s σ H _ _ v u Q I rx ry ⟨rfl, by have := po.now S; simpa using this⟩
  · cases rp; cases rq
    exact op_eq pins s σ H _ _ v u Q I rx ry ⟨rfl, by have := po.now S; simpa using this⟩
  · cases rp; cases rq
    exact op_eq pins s σ H _ _ v u Q I rx ry ⟨rfl, by have := po.now S; simpa using this⟩
  · cases rp; cases rq
    exact op_eq pins s σ H _ _ v u Q I rx ry ⟨rfl, by have := po.now S; simpa using this⟩
  · split at po
    · rename_i d e e1 e2
      split at po
      · rename_i hs
        exact op_eqD hu pins s σ H _ _ v u Q I rx ry ⟨d, e, datum_ok S _ _ _ _ e1 rp, datum_ok S _ _ _ _ e2 rq, hs.1, hs.2, po.now S⟩
      · exact po.elim
    · exact po.elim
theorem op_neP (hu : X.A.units + 64 < cLine) : OpR X (compareOp .NotEq) (rB X.K eqB (!·)) := by
  intro pins s σ H x y v u Q I rx ry h
  obtain ⟨ρ, h, p, q, S, rp, rq, po⟩ := h
  unfold eqB at po
  split at po
  · cases rp; cases rq
    exact op_ne pins s σ H _ _ v u Q I rx ry ⟨rfl, by have := po.now S; simpa using this⟩
  · cases rp; cases rq
    exact op_ne pins s σ H _ _ v u Q I rx ry ⟨rfl, by have := po.now S; simpa using this⟩
  · cases rp; cases rq
    exact op_ne pins s σ H _ _ v u Q I rx ry ⟨rfl, by have := po.now S; simpa using this⟩
  · cases rp; cases rq
    exact op_ne pins s σ H _ _ v u Q I rx ry ⟨rfl, by have := po.now S; simpa using this⟩
  · split at po
    · rename_i d e e1 e2
      split at po
      · rename_i hs
        exact op_neD hu pins s σ H _ _ v u Q I rx ry ⟨d, e, datum_ok S _ _ _ _ e1 rp, datum_ok S _ _ _ _ e2 rq, hs.1, hs.2, po.now S⟩
      · exact po.elim
    · exact po.elim
end
end MP

set_option Elab.async false
set_option linter.all false
set_option maxRecDepth 100000
set_option maxHeartbeats 1000000
namespace MP
open PySem PySem.Spec PyProof.Rows L2

section
variable {K : Fg} {ρ : List Addr} {H : Hp} {h : PH}
theorem keyOf_V {k : PV} {kk : L2.Key} {v : V} (e : keyOf k = some kk) (r : RepV K ρ H k v) : v = kV kk := by
  cases r <;> simp [keyOf] at e <;> subst e <;> rfl
theorem keyOf_some {k : PV} (e : isKey k = true) : ∃ kk, keyOf k = some kk := by
  cases k <;> simp [isKey] at e <;> exact ⟨_, rfl⟩
theorem keyEq_iff {a b : PV} {x y : L2.Key} (ea : keyOf a = some x) (eb : keyOf b = some y) : keyEq a b = decide (x = y) := by
  cases a <;> simp [keyOf] at ea <;> subst ea <;> cases b <;> simp [keyOf] at eb <;> subst eb <;> simp [keyEq, key_ll, key_rr, key_lr, key_rl]
theorem RepKs.get {k : PV} {kk : L2.Key} (ek : keyOf k = some kk) : ∀ {kvs : List (PV × PV)} {ks : List (L2.Key × V)}, RepKs K ρ H kvs ks →
    (∀ v, dGet kvs k = some v → ∃ u, valV ks kk = some u ∧ RepV K ρ H v u) ∧ (dGet kvs k = none → valV ks kk = none)
  | _, _, .nil => ⟨fun v e => by simp [dGet] at e, fun _ => rfl⟩
  | _, _, .cons (k := a) (kk := ka) (v := u) e q r => by
    have ih := RepKs.get ek r
    simp only [dGet]
    rw [keyEq_iff e ek]
    by_cases hk : ka = kk
    · simp only [hk, decide_true, if_true]
      refine ⟨fun v e => ?_, fun e => by cases e⟩
      cases e
      exact ⟨u, valV_pos (p := (kk, u)) rfl, q⟩
    · simp only [hk, decide_false, Bool.false_eq_true, if_false]
      rw [valV_neg (p := (ka, u)) hk]
      exact ih
theorem RepKs.someK {k : PV} {kk : L2.Key} (ek : keyOf k = some kk) {kvs : List (PV × PV)} {ks : List (L2.Key × V)} (r : RepKs K ρ H kvs ks) : (valV ks kk).isSome = (dGet kvs k).isSome := by
  obtain ⟨h1, h2⟩ := r.get ek
  cases e : dGet kvs k with
  | none => rw [h2 e]; rfl
  | some v => obtain ⟨u, h3, _⟩ := h1 v e; rw [h3]; rfl
theorem RepKs.any {k : PV} {kk : L2.Key} (ek : keyOf k = some kk) : ∀ {kvs : List (PV × PV)} {ks : List (L2.Key × V)}, RepKs K ρ H kvs ks → (kvs.any fun p => keyEq p.1 k) = (ks.any fun kv => decide (kv.1 = kk))
  | _, _, .nil => rfl
  | _, _, .cons e _ r => by simp only [List.any_cons, RepKs.any ek r, keyEq_iff e ek]
theorem RepKs.append : ∀ {kvs lvs : List (PV × PV)} {ks ls : List (L2.Key × V)}, RepKs K ρ H kvs ks → RepKs K ρ H lvs ls → RepKs K ρ H (kvs ++ lvs) (ks ++ ls)
  | _, _, _, _, .nil, s => s
  | _, _, _, _, .cons e q r, s => .cons e q (RepKs.append r s)
theorem RepKs.put {k p : PV} {kk : L2.Key} {u : V} (ek : keyOf k = some kk) (ru : RepV K ρ H p u) {kvs : List (PV × PV)} {ks : List (L2.Key × V)} (r : RepKs K ρ H kvs ks) : RepKs K ρ H (dPut kvs k p) (putK ks kk u) := by
  unfold dPut putK
  rw [r.any ek]
  by_cases hc : (ks.any fun kv => decide (kv.1 = kk)) = true
  · rw [if_pos hc, if_pos hc]
    have go : ∀ {kvs : List (PV × PV)} {ks : List (L2.Key × V)}, RepKs K ρ H kvs ks → RepKs K ρ H (kvs.map (fun q => if keyEq q.1 k = true then (q.1, p) else q)) (ks.map (fun kv => if kv.1 = kk then (kv.1, u) else kv)) := by
      intro kvs ks r
      induction r with
      | nil => exact .nil
      | cons e q r ih =>
        simp only [List.map_cons]
        rw [keyEq_iff e ek]
        split
        · rename_i h1
          simp only [decide_eq_true_eq] at h1
          rw [if_pos h1]
          exact .cons e ru ih
        · rename_i h1
          simp only [decide_eq_true_eq] at h1
          rw [if_neg h1]
          exact .cons e q ih
    exact go r
  · rw [if_neg hc, if_neg hc]
    exact r.append (.cons ek ru .nil)
theorem RepKs.drop {k : PV} {kk : L2.Key} (ek : keyOf k = some kk) : ∀ {kvs : List (PV × PV)} {ks : List (L2.Key × V)}, RepKs K ρ H kvs ks → RepKs K ρ H (dDrop kvs k) (dropK ks kk)
  | _, _, .nil => .nil
  | _, _, .cons (k := a) (kk := ka) e q r => by
    have ih := RepKs.drop ek r
    unfold dDrop dropK at ih ⊢
    simp only [List.filter_cons]
    rw [keyEq_iff e ek]
    by_cases hk : ka = kk
    · simpa [hk] using ih
    · simp only [hk, decide_false, Bool.not_false, if_true, ne_eq, not_false_eq_true, decide_true]
      exact .cons e q ih
theorem RepKs.keys : ∀ {kvs : List (PV × PV)} {ks : List (L2.Key × V)}, RepKs K ρ H kvs ks → RepVs K ρ H (kvs.map (·.1)) (ks.map fun kv => kV kv.1)
  | _, _, .nil => .nil
  | _, _, .cons (k := k) e q r => by
    refine .cons ?_ (RepKs.keys r)
    cases k <;> simp [keyOf] at e <;> subst e
    · exact .int _
    · exact .str _
theorem RepKs.intKeys : ∀ {kvs : List (PV × PV)} {ks : List (L2.Key × V)} {is : List Int}, RepKs K ρ H kvs ks → intsOf (kvs.map (·.1)) = some is → ks.map (·.1) = is.map Sum.inl
  | _, _, is, .nil, e => by simp [intsOf] at e; subst e; rfl
  | _, _, is, .cons (k := k) e q r, e2 => by
    cases k <;> simp [keyOf] at e <;> simp [intsOf] at e2
    subst e
    obtain ⟨l, h1, h2⟩ := e2
    subst h2
    simp [RepKs.intKeys r h1]
theorem RepV.flat {p : PV} {v : V} (r : RepV K ρ H p v) (e : flatP p = true) : flatV v = true := by
  cases r <;> first | rfl | (simp [flatP] at e)
theorem RepVs.flat : ∀ {ps : List PV} {vs : List V}, RepVs K ρ H ps vs → ps.all flatP = true → vs.all flatV = true
  | _, _, .nil, _ => rfl
  | _, _, .cons q r, e => by
    simp only [List.all_cons, Bool.and_eq_true] at e ⊢
    exact ⟨q.flat e.1, r.flat e.2⟩
theorem flatEq_V {p q : PV} {v u : V} (r : RepV K ρ H p v) (t : RepV K ρ H q u) (e1 : flatP p = true) (e2 : flatP q = true) : eqV v u = flatEq p q := by
  cases r <;> simp [flatP] at e1 <;> cases t <;> simp [flatP] at e2 <;> simp [eqV, flatEq, Bool.beq_eq_decide_eq]
theorem flatAny {q : PV} {u : V} (t : RepV K ρ H q u) (e2 : flatP q = true) : ∀ {ps : List PV} {vs : List V}, RepVs K ρ H ps vs → ps.all flatP = true → inV u vs = ps.any fun y => flatEq y q
  | _, _, .nil, _ => rfl
  | _, _, .cons p r, e => by
    simp only [List.all_cons, Bool.and_eq_true] at e
    have ih := flatAny t e2 r e.2
    unfold inV at ih ⊢
    rw [List.any_cons, List.any_cons, flatEq_V p t e.1 e2, ih]
end

section
variable {X : Cx}
theorem sign_of {a : Str} (h : a.length = 1) : ∃ c, a = ⟨#[c]⟩ := by
  obtain ⟨l⟩ := a
  have h' : l.size = 1 := h
  refine ⟨l[0], ?_⟩
  congr 1
  apply Array.ext
  · simp [h']
  · intro i h1 h2
    have : i = 0 := by omega
    subst this
    simp
theorem op_inP (hu : X.A.units + 65 < cLine) : OpR X (compareOp .In) (rB X.K inB id) := by
  intro pins s σ H x y v u Q I rx ry h
  obtain ⟨ρ, h, p, q, S, rp, rq, po⟩ := h
  unfold inB at po
  split at po
  · rename_i b
    split at po
    · rename_i a
      split at po
      · rename_i hl
        cases rp; cases rq
        obtain ⟨c, rfl⟩ := sign_of hl
        refine op_in_sign pins s σ H _ _ v u Q I rx ry ⟨c, b, rfl, rfl, ?_⟩
        have := po.now S
        simpa using this
      · exact po.elim
    · exact po.elim
  · rename_i ys
    unfold inB.inL at po
    split at po
    · rename_i hf
      cases rq with
      | tup q1 r1 =>
        refine op_in_seq pins s σ H _ _ v u Q I rx ry ⟨_, _, rfl, .inr q1, rp.flat hf.1, r1.flat hf.2, ?_⟩
        rw [flatAny rp hf.1 r1 hf.2]
        exact po.now S
    · exact po.elim
  · rename_i l
    cases rq with
    | ref ea =>
      split at po
      · rename_i ys h1
        obtain ⟨xs, e1, r1⟩ := S.lst h1 ea
        split at po
        · rename_i hf
          refine op_in_seq pins s σ H _ _ v u Q I rx ry ⟨_, _, rfl, .inl (SqL.of e1), rp.flat hf.1, r1.flat hf.2, ?_⟩
          rw [flatAny rp hf.1 r1 hf.2]
          exact po.now S
        · unfold inDeep at po
          split at po
          · rename_i d ds e2 e3
            split at po
            · rename_i hs
              exact op_inD hu pins s σ H _ _ v u Q I rx ry ⟨d, ds, datum_ok S _ _ _ _ e2 rp, .lst (SqL.of e1) (dataL_all (fun p v d => datum_ok S _ p v d) e3 r1), hs.1, hs.2, po.now S⟩
            · exact po.elim
          · exact po.elim
      · rename_i kvs h1
        obtain ⟨xs, e1, r1⟩ := S.dic h1 ea
        split at po
        · rename_i hk
          obtain ⟨kk, ek⟩ := keyOf_some hk
          cases ry
          refine d_in (o := valV xs kk) (by omega) I (.inl ⟨xs, kk, .inl e1, keyOf_V ek rp, rfl⟩) rx fun s' I' => ⟨.bl _, H, I', rfl, ?_⟩
          rw [r1.someK ek]
          exact po.now S
        · exact po.elim
      · rename_i kvs h1
        obtain ⟨o, xs, e1, r1⟩ := S.lck h1 ea
        split at po
        · rename_i hk
          obtain ⟨kk, ek⟩ := keyOf_some hk
          cases ry
          refine d_in (o := valV xs kk) (by omega) I (.inl ⟨xs, kk, .inr ⟨o, e1⟩, keyOf_V ek rp, rfl⟩) rx fun s' I' => ⟨.bl _, H, I', rfl, ?_⟩
          rw [r1.someK ek]
          exact po.now S
        · exact po.elim
      · exact po.elim
  · exact po.elim
theorem op_notInP (hu : X.A.units + 65 < cLine) : OpR X (compareOp .NotIn) (rB X.K inB (!·)) := by
  intro pins s σ H x y v u Q I rx ry h
  obtain ⟨ρ, h, p, q, S, rp, rq, po⟩ := h
  unfold inB at po
  split at po
  · rename_i b
    split at po
    · rename_i a
      split at po
      · rename_i hl
        cases rp; cases rq
        obtain ⟨c, rfl⟩ := sign_of hl
        refine op_notIn_sign pins s σ H _ _ v u Q I rx ry ⟨c, b, rfl, rfl, ?_⟩
        have := po.now S
        simpa using this
      · exact po.elim
    · exact po.elim
  · rename_i ys
    unfold inB.inL at po
    split at po
    · rename_i hf
      cases rq with
      | tup q1 r1 =>
        refine op_notIn_seq pins s σ H _ _ v u Q I rx ry ⟨_, _, rfl, .inr q1, rp.flat hf.1, r1.flat hf.2, ?_⟩
        rw [flatAny rp hf.1 r1 hf.2]
        exact po.now S
    · exact po.elim
  · rename_i l
    cases rq with
    | ref ea =>
      split at po
      · rename_i ys h1
        obtain ⟨xs, e1, r1⟩ := S.lst h1 ea
        split at po
        · rename_i hf
          refine op_notIn_seq pins s σ H _ _ v u Q I rx ry ⟨_, _, rfl, .inl (SqL.of e1), rp.flat hf.1, r1.flat hf.2, ?_⟩
          rw [flatAny rp hf.1 r1 hf.2]
          exact po.now S
        · unfold inDeep at po
          split at po
          · rename_i d ds e2 e3
            split at po
            · rename_i hs
              exact op_notInD hu pins s σ H _ _ v u Q I rx ry ⟨d, ds, datum_ok S _ _ _ _ e2 rp, .lst (SqL.of e1) (dataL_all (fun p v d => datum_ok S _ p v d) e3 r1), hs.1, hs.2, po.now S⟩
            · exact po.elim
          · exact po.elim
      · rename_i kvs h1
        obtain ⟨xs, e1, r1⟩ := S.dic h1 ea
        split at po
        · rename_i hk
          obtain ⟨kk, ek⟩ := keyOf_some hk
          cases ry
          refine d_notIn (o := valV xs kk) (by omega) I (.inl ⟨xs, kk, .inl e1, keyOf_V ek rp, rfl⟩) rx fun s' I' => ⟨.bl _, H, I', rfl, ?_⟩
          rw [r1.someK ek]
          exact po.now S
        · exact po.elim
      · rename_i kvs h1
        obtain ⟨o, xs, e1, r1⟩ := S.lck h1 ea
        split at po
        · rename_i hk
          obtain ⟨kk, ek⟩ := keyOf_some hk
          cases ry
          refine d_notIn (o := valV xs kk) (by omega) I (.inl ⟨xs, kk, .inr ⟨o, e1⟩, keyOf_V ek rp, rfl⟩) rx fun s' I' => ⟨.bl _, H, I', rfl, ?_⟩
          rw [r1.someK ek]
          exact po.now S
        · exact po.elim
      · exact po.elim
  · exact po.elim

theorem rB_of {K : Fg} {ρ : List Addr} {H : Hp} {h : PH} {g : PV → PV → PH → Out Bool} {f : Bool → Bool} {p q : PV} {x y : V} {Q : VK} (S : Sim K ρ h H) (rp : RepV K ρ H p x) (rq : RepV K ρ H q y)
    (po : PostV K ρ H ((g p q h).bnd fun b h => .ok (.bl (f b)) h) Q) : rB K g f x y H Q := by
  refine ⟨ρ, h, p, q, S, rp, rq, (PostG.bnd po).mono fun b ρ' H' _ ⟨h', S', po'⟩ => ?_⟩
  exact PostV.now po' S' (.bl _)
/-- a comparison, by plain values -/
theorem op_cmp (hu : X.A.units + 65 < cLine) (op : CmpOp) : OpR X (compareOp op) (r2 X.K (cmpF op)) := by
  intro pins s σ H x y v u Q I rx ry h
  obtain ⟨ρ, h, p, q, S, rp, rq, po⟩ := h
  unfold cmpF at po
  split at po
  · exact op_eqP (by omega) pins s σ H x y v u Q I rx ry (rB_of (f := id) S rp rq po)
  · exact op_neP (by omega) pins s σ H x y v u Q I rx ry (rB_of (f := (!·)) S rp rq po)
  · exact op_inP (by omega) pins s σ H x y v u Q I rx ry (rB_of (f := id) S rp rq po)
  · exact op_notInP (by omega) pins s σ H x y v u Q I rx ry (rB_of (f := (!·)) S rp rq po)
  · split at po
    · cases rq
      refine op_isN pins s σ H _ _ v u Q I rx ry ⟨rfl, ?_⟩
      split at po
      · cases rp
        exact po.now S (.bl _)
      · have e : decide (x = .non) = false := by
          cases rp <;> first | rfl | (rename_i hn; exact absurd rfl hn)
        rw [e]
        exact po.now S (.bl _)
    · exact po.elim
  · split at po
    · cases rq
      refine op_notN pins s σ H _ _ v u Q I rx ry ⟨rfl, ?_⟩
      split at po
      · cases rp
        exact po.now S (.bl _)
      · have e : decide (x = .non) = false := by
          cases rp <;> first | rfl | (rename_i hn; exact absurd rfl hn)
        rw [e]
        exact po.now S (.bl _)
    · exact po.elim
  · split at po
    · cases rp; cases rq
      exact op_lt pins s σ H _ _ v u Q I rx ry ⟨_, _, rfl, rfl, po.now S (.bl _)⟩
    · exact po.elim
  · split at po
    · cases rp; cases rq
      exact op_le pins s σ H _ _ v u Q I rx ry ⟨_, _, rfl, rfl, po.now S (.bl _)⟩
    · exact po.elim
  · split at po
    · cases rp; cases rq
      exact op_gt pins s σ H _ _ v u Q I rx ry ⟨_, _, rfl, rfl, po.now S (.bl _)⟩
    · exact po.elim
  · split at po
    · cases rp; cases rq
      exact op_ge pins s σ H _ _ v u Q I rx ry ⟨_, _, rfl, rfl, po.now S (.bl _)⟩
    · exact po.elim
end
end MP

set_option Elab.async false
set_option linter.all false
set_option maxRecDepth 100000
set_option maxHeartbeats 1000000
namespace MP
open PySem PySem.Spec PyProof.Rows L2

/-- an expression's reading, by its plain function -/
def lE (K : Fg) (f : PSt → PH → Out PV) : TE := fun σ H Q => ∃ ρ s h, Sim K ρ h H ∧ RepSt K ρ H s σ ∧ PostV K ρ H (f s h) Q
def lB (K : Fg) (f : PSt → PH → Out Bool) : TT := fun σ H Q => ∃ ρ s h, Sim K ρ h H ∧ RepSt K ρ H s σ ∧ PostG K ρ H (f s h) fun b _ H' => Q b H'
def lA (K : Fg) (f : PSt → PH → Out (List PV)) : TA := fun σ H Q => ∃ ρ s h, Sim K ρ h H ∧ RepSt K ρ H s σ ∧ PostG K ρ H (f s h) fun vs ρ' H' => ∀ us, RepVs K ρ' H' vs us → Q us H'
def lP (K : Fg) (f : PSt → PH → Out (Option Int)) : TO := fun σ H Q => ∃ ρ s h, Sim K ρ h H ∧ RepSt K ρ H s σ ∧ PostG K ρ H (f s h) fun b _ H' => Q b H'
def lG (K : Fg) (f : PV → PSt → PH → Out PSt) : TG := fun v σ H Q => ∃ ρ s h p, Sim K ρ h H ∧ RepSt K ρ H s σ ∧ RepV K ρ H p v ∧ PostG K ρ H (f p s h) fun s' ρ' H' => ∀ σ', RepSt K ρ' H' s' σ' → Q σ' H'
def lC (K : Fg) (f : List PV → PH → Out PV) : List V → Hp → VK → Prop := fun xs H Q => ∃ ρ h ps, Sim K ρ h H ∧ RepVs K ρ H ps xs ∧ PostV K ρ H (f ps h) Q

section
variable {K : Fg} {ρ : List Addr} {H : Hp} {h : PH} {σ : L2.St} {s : PSt}
/-- the first part of a computation -/
theorem lE.first {α : Type} {f : PSt → PH → Out PV} {g : PV → PH → Out α} {R : α → List Addr → Hp → Prop} {Q : VK} (S : Sim K ρ h H) (Rs : RepSt K ρ H s σ) (po : PostG K ρ H ((f s h).bnd g) R)
    (k : ∀ v ρ' H' h' u, Ext K ρ H ρ' H' → Sim K ρ' h' H' → RepSt K ρ' H' s σ → f s h = .ok v h' → RepV K ρ' H' v u → PostG K ρ' H' (g v h') R → Q u H') : lE K f σ H Q := by
  refine ⟨ρ, s, h, S, Rs, ?_⟩
  cases e : f s h with
  | ok v h' =>
    rw [e] at po
    intro ρ' H' x S' u ru
    exact k v ρ' H' h' u x S' (Rs.ext x) e ru (PostG.ext (o := g v h') po x)
  | exc _ _ => rw [e] at po; exact po.elim
  | bad => rw [e] at po; exact po.elim
theorem lB.first {α : Type} {f : PSt → PH → Out Bool} {g : Bool → PH → Out α} {R : α → List Addr → Hp → Prop} {Q : Bool → Hp → Prop} (S : Sim K ρ h H) (Rs : RepSt K ρ H s σ) (po : PostG K ρ H ((f s h).bnd g) R)
    (k : ∀ v ρ' H' h', Ext K ρ H ρ' H' → Sim K ρ' h' H' → RepSt K ρ' H' s σ → f s h = .ok v h' → PostG K ρ' H' (g v h') R → Q v H') : lB K f σ H Q := by
  refine ⟨ρ, s, h, S, Rs, ?_⟩
  cases e : f s h with
  | ok v h' =>
    rw [e] at po
    intro ρ' H' x S'
    exact k v ρ' H' h' x S' (Rs.ext x) e (PostG.ext (o := g v h') po x)
  | exc _ _ => rw [e] at po; exact po.elim
  | bad => rw [e] at po; exact po.elim
theorem lP.first {α : Type} {f : PSt → PH → Out (Option Int)} {g : Option Int → PH → Out α} {R : α → List Addr → Hp → Prop} {Q : Option Int → Hp → Prop} (S : Sim K ρ h H) (Rs : RepSt K ρ H s σ) (po : PostG K ρ H ((f s h).bnd g) R)
    (k : ∀ v ρ' H' h', Ext K ρ H ρ' H' → Sim K ρ' h' H' → RepSt K ρ' H' s σ → f s h = .ok v h' → PostG K ρ' H' (g v h') R → Q v H') : lP K f σ H Q := by
  refine ⟨ρ, s, h, S, Rs, ?_⟩
  cases e : f s h with
  | ok v h' =>
    rw [e] at po
    intro ρ' H' x S'
    exact k v ρ' H' h' x S' (Rs.ext x) e (PostG.ext (o := g v h') po x)
  | exc _ _ => rw [e] at po; exact po.elim
  | bad => rw [e] at po; exact po.elim
theorem lA.first {α : Type} {f : PSt → PH → Out (List PV)} {g : List PV → PH → Out α} {R : α → List Addr → Hp → Prop} {Q : List V → Hp → Prop} (S : Sim K ρ h H) (Rs : RepSt K ρ H s σ) (po : PostG K ρ H ((f s h).bnd g) R)
    (k : ∀ v ρ' H' h' u, Ext K ρ H ρ' H' → Sim K ρ' h' H' → RepSt K ρ' H' s σ → f s h = .ok v h' → RepVs K ρ' H' v u → PostG K ρ' H' (g v h') R → Q u H') : lA K f σ H Q := by
  refine ⟨ρ, s, h, S, Rs, ?_⟩
  cases e : f s h with
  | ok v h' =>
    rw [e] at po
    intro ρ' H' x S' u ru
    exact k v ρ' H' h' u x S' (Rs.ext x) e ru (PostG.ext (o := g v h') po x)
  | exc _ _ => rw [e] at po; exact po.elim
  | bad => rw [e] at po; exact po.elim
theorem PostG.okOf {α β : Type} {o : Out α} {g : α → PH → Out β} {R : β → List Addr → Hp → Prop} (po : PostG K ρ H (o.bnd g) R) : ∃ v h', o = .ok v h' ∧ PostG K ρ H (g v h') R := by
  cases o with
  | ok v h' => exact ⟨v, h', rfl, po⟩
  | exc _ _ => exact po.elim
  | bad => exact po.elim
end

/-! ### expressions -/
section
variable {X : Cx} {a b c : Expr} {fa fb fc : PSt → PH → Out PV} {pos : Pos}
theorem _root_.L2.PE.weak {e : Expr} {t t' : TE} (h : PE X e t) (w : ∀ σ H Q, t' σ H Q → t σ H Q) : PE X e t' := ⟨fun pins s σ H Q I q => h.run pins s σ H Q I (w σ H Q q)⟩
theorem _root_.L2.PT.weak {e : Expr} {t t' : TT} (h : PT X e t) (w : ∀ σ H Q, t' σ H Q → t σ H Q) : PT X e t' := ⟨fun pins s σ H Q I q => h.run pins s σ H Q I (w σ H Q q)⟩
theorem _root_.L2.PW.weak {e : Expr} {t t' : TT} (h : PW X e t) (w : ∀ σ H Q, t' σ H Q → t σ H Q) : PW X e t' := ⟨fun wh pins s σ H Q I q => h.run wh pins s σ H Q I (w σ H Q q)⟩
theorem _root_.L2.PA.weak {e : List Expr} {t t' : TA} (h : PA X e t) (w : ∀ σ H Q, t' σ H Q → t σ H Q) : PA X e t' := ⟨fun pos pins s σ H Q I q => h.run pos pins s σ H Q I (w σ H Q q)⟩

theorem se_const {e : Expr} {v : PV} {u : V} (h : PE X e (tC u)) (r : ∀ ρ H, RepV X.K ρ H v u) : PE X e (lE X.K fun _ h => .ok v h) := h.weak fun σ H Q ⟨ρ, s, h, S, R, po⟩ => po.now S (r ρ H)
theorem se_var {x : Str} {i : Nat} (hN : X.N[i]? = some x) (hv : Vis X.env.scope x) (hd : (x == ("__debug__" : Str)) = false) (hcd : (x == ("__classdict__" : Str)) = false) : PE X (.Name x pos) (lE X.K fun s h => slot s i h) :=
  (pe_var hN hv hd hcd).weak fun σ H Q ⟨ρ, s, h, S, R, po⟩ => by
    simp only [slot] at po
    split at po
    · rename_i v e
      obtain ⟨u, e1, r⟩ := R.2 i v e
      exact ⟨u, e1, PostV.now po S r⟩
    · exact po.elim
theorem se_two {r : R2} {g : PV → PV → PH → Out PV} (hr : ∀ ρ H h p q x y Q, Sim X.K ρ h H → RepV X.K ρ H p x → RepV X.K ρ H q y → PostV X.K ρ H (g p q h) Q → r x y H Q) {σ : L2.St} {H : Hp} {Q : VK}
    (h : lE X.K (fun s h => (fa s h).bnd fun x h => (fb s h).bnd fun y h => g x y h) σ H Q) : tOp r (lE X.K fa) (lE X.K fb) σ H Q := by
  obtain ⟨ρ, s, h, S, R, po⟩ := h
  refine lE.first S R po fun v ρ1 H1 h1 u x1 S1 R1 e1 ru po1 => lE.first S1 R1 po1 fun w ρ2 H2 h2 z x2 S2 R2 e2 rz po2 => ?_
  exact hr ρ2 H2 h2 v w u z Q S2 (ru.ext x2) rz po2
theorem se_bin {op : Operator} (ha : PE X a (lE X.K fa)) (hb : PE X b (lE X.K fb)) : PE X (.BinOp a op b pos) (lE X.K fun s h => (fa s h).bnd fun x h => (fb s h).bnd fun y h => binF op x y h) :=
  (pe_op (op_bin op) ha hb).weak fun σ H Q h => se_two (fun ρ H h p q x y Q S rp rq po => ⟨ρ, h, p, q, S, rp, rq, po⟩) h
theorem se_cmp {op : CmpOp} (hu : X.A.units + 65 < cLine) (ha : PE X a (lE X.K fa)) (hb : PE X b (lE X.K fb)) (hm : behindInMarks op b = false) :
    PE X (.Compare a [op] [b] pos) (lE X.K fun s h => (fa s h).bnd fun x h => (fb s h).bnd fun y h => cmpF op x y h) :=
  (pe_cmpR (op_cmp hu op) ha hb hm).weak fun σ H Q h => se_two (fun ρ H h p q x y Q S rp rq po => ⟨ρ, h, p, q, S, rp, rq, po⟩) h
theorem cmpF_bl {op : CmpOp} {x y z : PV} {h h' : PH} (e : cmpF op x y h = .ok z h') : ∃ b, z = .bl b := by
  unfold cmpF at e
  split at e
  · cases q : eqB x y h <;> rw [q] at e <;> first | (cases e; exact ⟨_, rfl⟩) | cases e
  · cases q : eqB x y h <;> rw [q] at e <;> first | (cases e; exact ⟨_, rfl⟩) | cases e
  · cases q : inB x y h <;> rw [q] at e <;> first | (cases e; exact ⟨_, rfl⟩) | cases e
  · cases q : inB x y h <;> rw [q] at e <;> first | (cases e; exact ⟨_, rfl⟩) | cases e
  all_goals (repeat' split at e) <;> first | (cases e; exact ⟨_, rfl⟩) | cases e
theorem st_cmp {op : CmpOp} (hu : X.A.units + 65 < cLine) (ha : PE X a (lE X.K fa)) (hb : PE X b (lE X.K fb)) (hm : behindInMarks op b = false) :
    PT X (.Compare a [op] [b] pos) (lB X.K fun s h => (fa s h).bnd fun x h => (fb s h).bnd fun y h => (cmpF op x y h).bnd asB) :=
  (pt_cmpR (op_cmp hu op) ha hb hm).weak fun σ H Q h => by
    obtain ⟨ρ, s, h, S, R, po⟩ := h
    refine lE.first S R po fun v ρ1 H1 h1 u x1 S1 R1 e1 ru po1 => lE.first S1 R1 po1 fun w ρ2 H2 h2 z x2 S2 R2 e2 rz po2 => ?_
    refine ⟨ρ2, h2, v, w, S2, ru.ext x2, rz, ?_⟩
    obtain ⟨t, h3, e3, po3⟩ := po2.okOf
    rw [e3]
    obtain ⟨k, rfl⟩ := cmpF_bl e3
    intro ρ3 H3 x3 S3 V rV
    exact ⟨k, rV.blV, po3 ρ3 H3 x3 S3⟩
theorem se_cmp2 {op op' : CmpOp} (hu : X.A.units + 65 < cLine) (ha : PE X a (lE X.K fa)) (hb : PE X b (lE X.K fb)) (hc : PE X c (lE X.K fc)) (hm : lastMarks [op, op'] [b, c] = false) :
    PE X (.Compare a [op, op'] [b, c] pos) (lE X.K fun s h => (fa s h).bnd fun x h => (fb s h).bnd fun y h => (cmpF op x y h).bnd fun z h => (asB z h).bnd fun k h =>
      if k = true then (fc s h).bnd fun w h => cmpF op' y w h else .ok (.bl false) h) :=
  (pe_chain (op_cmp hu op) (op_cmp hu op') ha hb hc hm).weak fun σ H Q h => by
    obtain ⟨ρ, s, h, S, R, po⟩ := h
    refine lE.first S R po fun v ρ1 H1 h1 u x1 S1 R1 e1 ru po1 => lE.first S1 R1 po1 fun w ρ2 H2 h2 z x2 S2 R2 e2 rz po2 => ?_
    refine ⟨ρ2, h2, v, w, S2, ru.ext x2, rz, ?_⟩
    obtain ⟨t, h3, e3, po3⟩ := po2.okOf
    rw [e3]
    obtain ⟨k, rfl⟩ := cmpF_bl e3
    intro ρ3 H3 x3 S3 V rV
    refine ⟨k, rV.blV, ?_⟩
    have po4 := PostG.ext po3 x3
    cases k with
    | true =>
      rw [if_pos rfl]
      exact lE.first S3 (R2.ext x3) po4 fun v4 ρ4 H4 h4 u4 x4 S4 R4 e4 ru4 po5 => ⟨ρ4, h4, w, v4, S4, (rz.ext x3).ext x4, ru4, po5⟩
    | false =>
      rw [if_neg Bool.false_ne_true]
      exact PostV.now po4 S3 (.bl false)
theorem st_cmp2 {op op' : CmpOp} (hu : X.A.units + 65 < cLine) (ha : PE X a (lE X.K fa)) (hb : PE X b (lE X.K fb)) (hc : PE X c (lE X.K fc)) (hm : lastMarks [op, op'] [b, c] = false) :
    PT X (.Compare a [op, op'] [b, c] pos) (lB X.K fun s h => (fa s h).bnd fun x h => (fb s h).bnd fun y h => (cmpF op x y h).bnd fun z h => (asB z h).bnd fun k h =>
      if k = true then (fc s h).bnd fun w h => (cmpF op' y w h).bnd asB else .ok false h) :=
  (pt_chain (op_cmp hu op) (op_cmp hu op') ha hb hc hm).weak fun σ H Q h => by
    obtain ⟨ρ, s, h, S, R, po⟩ := h
    refine lE.first S R po fun v ρ1 H1 h1 u x1 S1 R1 e1 ru po1 => lE.first S1 R1 po1 fun w ρ2 H2 h2 z x2 S2 R2 e2 rz po2 => ?_
    refine ⟨ρ2, h2, v, w, S2, ru.ext x2, rz, ?_⟩
    obtain ⟨t, h3, e3, po3⟩ := po2.okOf
    rw [e3]
    obtain ⟨k, rfl⟩ := cmpF_bl e3
    intro ρ3 H3 x3 S3 V rV
    refine ⟨k, rV.blV, ?_⟩
    have po4 := PostG.ext po3 x3
    cases k with
    | true =>
      rw [if_pos rfl]
      refine lE.first S3 (R2.ext x3) po4 fun v4 ρ4 H4 h4 u4 x4 S4 R4 e4 ru4 po5 => ⟨ρ4, h4, w, v4, S4, (rz.ext x3).ext x4, ru4, ?_⟩
      obtain ⟨t5, h5, e5, po6⟩ := po5.okOf
      rw [e5]
      obtain ⟨k5, rfl⟩ := cmpF_bl e5
      intro ρ6 H6 x6 S6 V6 rV6
      exact ⟨k5, rV6.blV, po6 ρ6 H6 x6 S6⟩
    | false =>
      rw [if_neg Bool.false_ne_true]
      exact ⟨false, rfl, PostG.now po4 S3⟩
theorem se_neg (ha : PE X a (lE X.K fa)) : PE X (.UnaryOp .USub a pos) (lE X.K fun s h => (fa s h).bnd fun x h => match x with
    | .int i => .ok (.int (-i)) h
    | _ => .bad) :=
  (pe_un un_neg ha).weak fun σ H Q h => by
    obtain ⟨ρ, s, h, S, R, po⟩ := h
    refine lE.first S R po fun v ρ1 H1 h1 u x1 S1 R1 e1 ru po1 => ?_
    split at po1
    · exact ⟨_, ru.intV, PostV.now po1 S1 (.int _)⟩
    · exact po1.elim

/-! truth -/
theorem truth_V {ρ : List Addr} {H : Hp} {h h' : PH} {p : PV} {v : V} {k : Bool} (S : Sim X.K ρ h H) (r : RepV X.K ρ H p v) (e : truth p h = .ok k h') : h' = h ∧ TruV X.K v H k := by
  unfold truth at e
  cases r with
  | non => cases e; exact ⟨rfl, rfl⟩
  | bl b => cases e; exact ⟨rfl, rfl⟩
  | int i => cases e; exact ⟨rfl, rfl⟩
  | str x =>
    dsimp only at e
    split at e
    · rename_i hz
      cases e
      refine ⟨rfl, hz, ?_⟩
      rw [Bool.eq_iff_iff]
      simp
    · cases e
  | tup q t => cases e; exact ⟨rfl, .inr (.inl ⟨_, q, by rw [t.isEmpty]⟩)⟩
  | fro _ _ => cases e
  | ref ea =>
    dsimp only at e
    split at e
    · rename_i h1
      cases e
      obtain ⟨xs, e1, t⟩ := S.lst h1 ea
      exact ⟨rfl, .inl ⟨_, SqL.of e1, by rw [t.isEmpty]⟩⟩
    · rename_i h1
      cases e
      obtain ⟨xs, e1, t⟩ := S.dic h1 ea
      exact ⟨rfl, .inr (.inr ⟨_, e1, by rw [t.isEmpty]⟩)⟩
    · cases e
theorem truth_P {ρ : List Addr} {H : Hp} {h : PH} {p : PV} {v : V} {α : Type} {g : Bool → PH → Out α} {R : α → List Addr → Hp → Prop} (S : Sim X.K ρ h H) (r : RepV X.K ρ H p v) (po : PostG X.K ρ H ((truth p h).bnd g) R) : ∃ k, TruV X.K v H k ∧ PostG X.K ρ H (g k h) R := by
  obtain ⟨k, h', e, po'⟩ := po.okOf
  obtain ⟨eh, t⟩ := truth_V S r e
  subst eh
  exact ⟨k, t, po'⟩
theorem st_plain (ha : PE X a (lE X.K fa)) (he : ∀ whole, isTrue a X.env whole = (do let v ← whole; standAt a.pos; holding [v] (truthy v))) : PT X a (lB X.K fun s h => (fa s h).bnd truth) :=
  (pt_truth ha he).weak fun σ H Q h => by
    obtain ⟨ρ, s, h, S, R, po⟩ := h
    refine lE.first S R po fun v ρ1 H1 h1 u x1 S1 R1 e1 ru po1 => ?_
    have po1 : PostG X.K ρ1 H1 ((truth v h1).bnd fun k h => .ok k h) fun b _ H' => Q b H' := by
      cases e : truth v h1 <;> rw [e] at po1 <;> exact po1
    obtain ⟨k, t, q⟩ := truth_P S1 ru po1
    exact ⟨k, t, q.now S1⟩
variable {rest : List Expr}
theorem se_and (ha : PE X a (lE X.K fa)) (hb : PE X (.BoolOp .And (b :: rest) pos) (lE X.K fb)) : PE X (.BoolOp .And (a :: b :: rest) pos) (lE X.K fun s h => (fa s h).bnd fun x h => (truth x h).bnd fun k h => if k = true then fb s h else .ok x h) :=
  (pe_andT ha hb).weak fun σ H Q h => by
    obtain ⟨ρ, s, h, S, R, po⟩ := h
    refine lE.first S R po fun v ρ1 H1 h1 u x1 S1 R1 e1 ru po1 => ?_
    obtain ⟨k, t, q⟩ := truth_P S1 ru po1
    refine ⟨k, t, ?_⟩
    cases k with
    | true => rw [if_pos rfl] at q ⊢; exact ⟨ρ1, s, h1, S1, R1, q⟩
    | false => rw [if_neg Bool.false_ne_true] at q ⊢; exact PostV.now q S1 ru
theorem se_or (ha : PE X a (lE X.K fa)) (hb : PE X (.BoolOp .Or (b :: rest) pos) (lE X.K fb)) : PE X (.BoolOp .Or (a :: b :: rest) pos) (lE X.K fun s h => (fa s h).bnd fun x h => (truth x h).bnd fun k h => if k = true then .ok x h else fb s h) :=
  (pe_orT ha hb).weak fun σ H Q h => by
    obtain ⟨ρ, s, h, S, R, po⟩ := h
    refine lE.first S R po fun v ρ1 H1 h1 u x1 S1 R1 e1 ru po1 => ?_
    obtain ⟨k, t, q⟩ := truth_P S1 ru po1
    refine ⟨k, t, ?_⟩
    cases k with
    | true => rw [if_pos rfl] at q ⊢; exact PostV.now q S1 ru
    | false => rw [if_neg Bool.false_ne_true] at q ⊢; exact ⟨ρ1, s, h1, S1, R1, q⟩
theorem se_not (ha : PE X a (lE X.K fa)) : PE X (.UnaryOp .Not a pos) (lE X.K fun s h => (fa s h).bnd fun x h => (truth x h).bnd fun k h => .ok (.bl (!k)) h) :=
  (pe_notT ha).weak fun σ H Q h => by
    obtain ⟨ρ, s, h, S, R, po⟩ := h
    refine lE.first S R po fun v ρ1 H1 h1 u x1 S1 R1 e1 ru po1 => ?_
    obtain ⟨k, t, q⟩ := truth_P S1 ru po1
    exact ⟨k, t, PostV.now q S1 (.bl _)⟩
variable {ga gb gc : PSt → PH → Out Bool}
theorem sw_and (ha : PT X a (lB X.K ga)) (hb : PW X (.BoolOp .And (b :: rest) pos) (lB X.K gb)) : PW X (.BoolOp .And (a :: b :: rest) pos) (lB X.K fun s h => (ga s h).bnd fun k h => if k = true then gb s h else .ok false h) :=
  (pw_and ha hb).weak fun σ H Q h => by
    obtain ⟨ρ, s, h, S, R, po⟩ := h
    refine lB.first S R po fun k ρ1 H1 h1 x1 S1 R1 e1 po1 => ?_
    cases k with
    | true => rw [if_pos rfl] at po1 ⊢; exact ⟨ρ1, s, h1, S1, R1, po1⟩
    | false => rw [if_neg Bool.false_ne_true] at po1 ⊢; exact po1.now S1
theorem sw_or (ha : PT X a (lB X.K ga)) (hb : PW X (.BoolOp .Or (b :: rest) pos) (lB X.K gb)) : PW X (.BoolOp .Or (a :: b :: rest) pos) (lB X.K fun s h => (ga s h).bnd fun k h => if k = true then .ok true h else gb s h) :=
  (pw_or ha hb).weak fun σ H Q h => by
    obtain ⟨ρ, s, h, S, R, po⟩ := h
    refine lB.first S R po fun k ρ1 H1 h1 x1 S1 R1 e1 po1 => ?_
    cases k with
    | true => rw [if_pos rfl] at po1 ⊢; exact po1.now S1
    | false => rw [if_neg Bool.false_ne_true] at po1 ⊢; exact ⟨ρ1, s, h1, S1, R1, po1⟩
theorem st_not (ha : PT X a (lB X.K ga)) : PT X (.UnaryOp .Not a pos) (lB X.K fun s h => (ga s h).bnd fun k h => .ok (!k) h) :=
  (pt_not ha).weak fun σ H Q h => by
    obtain ⟨ρ, s, h, S, R, po⟩ := h
    exact lB.first S R po fun k ρ1 H1 h1 x1 S1 R1 e1 po1 => po1.now S1
theorem se_ite (hc : PT X c (lB X.K gc)) (ha : PE X a (lE X.K fa)) (hb : PE X b (lE X.K fb)) : PE X (.IfExp c a b pos) (lE X.K fun s h => (gc s h).bnd fun k h => if k = true then fa s h else fb s h) :=
  (pe_ifExp hc ha hb).weak fun σ H Q h => by
    obtain ⟨ρ, s, h, S, R, po⟩ := h
    refine lB.first S R po fun k ρ1 H1 h1 x1 S1 R1 e1 po1 => ?_
    cases k with
    | true => rw [if_pos rfl] at po1 ⊢; exact ⟨ρ1, s, h1, S1, R1, po1⟩
    | false => rw [if_neg Bool.false_ne_true] at po1 ⊢; exact ⟨ρ1, s, h1, S1, R1, po1⟩
/-! displays -/
variable {es : List Expr} {fs : PSt → PH → Out (List PV)}
theorem sa_nil : PA X [] (lA X.K fun _ h => .ok [] h) := pa_nil.weak fun σ H Q ⟨ρ, s, h, S, R, po⟩ => po ρ H .refl S [] .nil
theorem sa_cons (ha : PE X a (lE X.K fa)) (hr : PA X es (lA X.K fs)) (hs : starEach (a :: es) X.env = (false, eval a X.env) :: starEach es X.env) : PA X (a :: es) (lA X.K fun s h => (fa s h).bnd fun x h => (fs s h).bnd fun xs h => .ok (x :: xs) h) :=
  (pa_cons ha hr hs).weak fun σ H Q h => by
    obtain ⟨ρ, s, h, S, R, po⟩ := h
    refine lE.first S R po fun v ρ1 H1 h1 u x1 S1 R1 e1 ru po1 => ?_
    refine lA.first S1 R1 po1 fun w ρ2 H2 h2 z x2 S2 R2 e2 rz po2 => ?_
    exact po2 ρ2 H2 .refl S2 _ (.cons (ru.ext x2) rz)
theorem se_tup {k : Nat} (h : PA X es (lA X.K fs)) : PE X (.Tuple es k pos) (lE X.K fun s h => (fs s h).bnd fun xs h => if xs.length ≤ sizeLine then .ok (.tup xs) h else .bad) :=
  (pe_tup h).weak fun σ H Q h => by
    obtain ⟨ρ, s, h, S, R, po⟩ := h
    refine lA.first S R po fun v ρ1 H1 h1 u x1 S1 R1 e1 ru po1 => ?_
    split at po1
    · rename_i hz
      exact ⟨by rw [← ru.length]; exact hz, PostV.tup po1 S1 ru⟩
    · exact po1.elim
theorem se_lst (h : PA X es (lA X.K fs)) : PE X (.List es pos) (lE X.K fun s h => (fs s h).bnd fun xs h => if xs.length ≤ sizeLine then new (.lst xs) h else .bad) :=
  (pe_lst h).weak fun σ H Q h => by
    obtain ⟨ρ, s, h, S, R, po⟩ := h
    refine lA.first S R po fun v ρ1 H1 h1 u x1 S1 R1 e1 ru po1 => ?_
    split at po1
    · rename_i hz
      exact ⟨by rw [← ru.length]; exact hz, PostV.newL po1 S1 ru⟩
    · exact po1.elim
/-! subscripts -/
theorem se_sub (hu : X.A.units + 65 < cLine) (ha : PE X a (lE X.K fa)) (hb : PE X b (lE X.K fb)) (hs : PlainIx b) : PE X (.Subscript a b pos) (lE X.K fun s h => (fa s h).bnd fun x h => (fb s h).bnd fun y h => subF x y h) := by
  refine ⟨fun pins s σ H Q I h => ?_⟩
  obtain ⟨ρ, s', h, S, R, po⟩ := h
  obtain ⟨p, h1, e1, po1⟩ := po.okOf
  obtain ⟨q, h2, e2, po2⟩ := po1.okOf
  have two : ∀ {r : V → V → Hp → Prop}, (∀ ρ2 H2 x y, Sim X.K ρ2 h2 H2 → RepV X.K ρ2 H2 p x → RepV X.K ρ2 H2 q y → PostV X.K ρ2 H2 (subF p q h2) Q → r x y H2) → lE X.K fa σ H fun x H1 => lE X.K fb σ H1 fun y H2 => r x y H2 := fun {r} k => by
    refine lE.first S R po fun v ρ1 H1 h1' u x1 S1 R1 e1' ru po1 => lE.first S1 R1 po1 fun w ρ2 H2 h2' z x2 S2 R2 e2' rz po2 => ?_
    rw [e1] at e1'; cases e1'
    rw [e2] at e2'; cases e2'
    exact k ρ2 H2 u z S2 (ru.ext x2) rz po2
  have item : ∀ {ρ2 H2 ps vs y}, RepVs X.K ρ2 H2 ps vs → Sim X.K ρ2 h2 H2 → RepV X.K ρ2 H2 q y → PostV X.K ρ2 H2 (itemF ps q h2) Q → ∃ i v, y = .int i ∧ atI vs i = some v ∧ Q v H2 := fun {ρ2 H2 ps vs y} r S2 ry po => by
    unfold itemF at po
    split at po
    · rename_i i
      split at po
      · rename_i v ev
        obtain ⟨j, hj, hv⟩ := Option.bind_eq_some_iff.mp ev
        obtain ⟨u, hu', ru⟩ := r.get hv
        exact ⟨i, u, ry.intV, by unfold atI; rw [← r.length]; exact Option.bind_eq_some_iff.mpr ⟨j, hj, hu'⟩, PostV.now po S2 ru⟩
      · exact po.elim
    · exact po.elim
  have dict : ∀ kvs, (∀ ρ2 H2 x, Sim X.K ρ2 h2 H2 → RepV X.K ρ2 H2 p x → ∃ a ks, x = .ref a ∧ Rd H2 a (.dK ks) ∧ RepKs X.K ρ2 H2 kvs ks) → subF p q h2 = lookF kvs q h2 →
      wpAny (model X.prog X.w) X.A (eval (.Subscript a b pos) X.env) (EP X pins σ Q) X.xe s := fun kvs hk hv => by
    refine (pe_dget (by omega) ha hb (fun _ _ => hs _ _)).run pins s σ H Q I (two fun ρ2 H2 x y S2 rx ry po => ?_)
    obtain ⟨a, ks, ex, rd, rk⟩ := hk ρ2 H2 x S2 rx
    rw [hv] at po
    unfold lookF at po
    split at po
    · rename_i k1
      split at po
      · rename_i v k2
        obtain ⟨kk, ek⟩ := keyOf_some k1
        obtain ⟨u, hu', ru⟩ := (rk.get ek).1 v k2
        exact ⟨a, u, ex, .inl ⟨ks, kk, rd, keyOf_V ek ry, hu'.symm⟩, PostV.now po S2 ru⟩
      · exact po.elim
    · exact po.elim
  cases p with
  | tup ps =>
    refine (pe_ix ix_tup ha hb hs).run pins s σ H Q I (two fun ρ2 H2 x y S2 rx ry po => ?_)
    cases rx with
    | tup q1 r1 =>
      obtain ⟨i, v, h1, h2, h3⟩ := item r1 S2 ry po
      exact ⟨_, _, _, v, rfl, h1, q1, h2, h3⟩
  | str x =>
    refine (pe_ix ix_str ha hb hs).run pins s σ H Q I (two fun ρ2 H2 u y S2 rx ry po => ?_)
    simp only [subF] at po
    split at po <;> try exact po.elim
    rename_i i
    split at po <;> try exact po.elim
    rename_i hz
    split at po <;> try exact po.elim
    rename_i c ev
    exact ⟨x, _, c, rx.strV, ry.intV, hz, by unfold atI; rw [Array.length_toList]; exact ev, PostV.now po S2 (.str _)⟩
  | ref l =>
    cases e : h2[l]? with
    | none => simp only [subF, e] at po2; exact po2.elim
    | some o =>
      cases o with
      | lst ps =>
        refine (pe_ix ix_list ha hb hs).run pins s σ H Q I (two fun ρ2 H2 x y S2 rx ry po => ?_)
        cases rx with
        | ref ea =>
          obtain ⟨xs, e3, r1⟩ := S2.lst e ea
          simp only [subF, e] at po
          obtain ⟨i, v, h1, h2, h3⟩ := item r1 S2 ry po
          exact ⟨_, _, _, v, rfl, h1, SqL.of e3, h2, h3⟩
      | dic kvs =>
        refine dict kvs (fun ρ2 H2 x S2 rx => ?_) (by simp only [subF, e])
        cases rx with
        | ref ea => obtain ⟨ks, e3, r3⟩ := S2.dic e ea; exact ⟨_, ks, rfl, .inl e3, r3⟩
      | lck kvs =>
        refine dict kvs (fun ρ2 H2 x S2 rx => ?_) (by simp only [subF, e])
        cases rx with
        | ref ea => obtain ⟨o, ks, e3, r3⟩ := S2.lck e ea; exact ⟨_, ks, rfl, .inr ⟨o, e3⟩, r3⟩
      | ins _ _ => simp only [subF, e] at po2; exact po2.elim
  | non => simp only [subF] at po2; exact po2.elim
  | bl _ => simp only [subF] at po2; exact po2.elim
  | int _ => simp only [subF] at po2; exact po2.elim
  | fro _ => simp only [subF] at po2; exact po2.elim
/-! slices -/
theorem sp_none : L2.PO X none (lP X.K fun _ h => .ok none h) := ⟨fun pins s σ H Q I ⟨ρ, s', h, S, R, po⟩ => po_none.run pins s σ H Q I (po.now S)⟩
theorem sp_some (ha : PE X a (lE X.K fa)) : L2.PO X (some a) (lP X.K fun s h => (fa s h).bnd fun x h => match x with
    | .int i => .ok (some i) h
    | _ => .bad) := ⟨fun pins s σ H Q I ⟨ρ, s', h, S, R, po⟩ => (po_some ha).run pins s σ H Q I (by
  refine lE.first S R po fun v ρ1 H1 h1 u x1 S1 R1 e1 ru po1 => ?_
  split at po1
  · exact ⟨_, ru.intV, po1.now S1⟩
  · exact po1.elim)⟩
theorem cut_rep {ρ : List Addr} {H : Hp} {ps : List PV} {vs : List V} (r : RepVs X.K ρ H ps vs) (lo hi : Option Int) : RepVs X.K ρ H (cutP ps lo hi) (cutV vs lo hi) := by
  unfold cutP cut cutV
  rw [r.length]
  exact (r.drop _).take _
theorem se_slc {lo hi : Option Expr} {fl fh : PSt → PH → Out (Option Int)} {p2 : Pos} (ha : PE X a (lE X.K fa)) (hl : L2.PO X lo (lP X.K fl)) (hh : L2.PO X hi (lP X.K fh)) :
    PE X (.Subscript a (.Slice lo hi none p2) pos) (lE X.K fun s h => (fa s h).bnd fun x h => (fl s h).bnd fun y h => (fh s h).bnd fun z h => slcF x y z h) := by
  refine ⟨fun pins s σ H Q I h => ?_⟩
  refine (pe_slice (sl_list.or sl_tupA) ha hl hh).run pins s σ H Q I ?_
  obtain ⟨ρ, s', h, S, R, po⟩ := h
  refine lE.first S R po fun v ρ1 H1 h1 u x1 S1 R1 e1 ru po1 => lP.first S1 R1 po1 fun l ρ2 H2 h2 x2 S2 R2 e2 po2 => lP.first S2 R2 po2 fun k ρ3 H3 h3 x3 S3 R3 e3 po3 => ?_
  have ru := (ru.ext x2).ext x3
  unfold slcF at po3
  split at po3
  · cases ru with
    | tup q r =>
      refine .inr ⟨_, _, rfl, q, fun e => ?_, fun _ => PostV.tup po3 S3 (cut_rep r l k)⟩
      refine PostV.now po3 S3 (.tup q ?_)
      have := cut_rep r l k
      rename_i vs0
      have e2 : cutV vs0 l k = vs0 := by
        unfold cutV
        rw [e.1, e.2]
        simp
      rw [e2] at this
      exact this
  · cases ru with
    | ref ea =>
      split at po3
      · rename_i h4
        obtain ⟨xs, e4, r⟩ := S3.lst h4 ea
        exact .inl ⟨_, xs, rfl, SqL.of e4, PostV.newL po3 S3 (cut_rep r l k)⟩
      · exact po3.elim
  · exact po3.elim
end
end MP

set_option Elab.async false
set_option linter.all false
set_option maxRecDepth 100000
set_option maxHeartbeats 1000000
namespace MP
open PySem PySem.Spec PyProof.Rows L2

/-! sorting, least, greatest -/
theorem insI_perm (x : Int) : ∀ l : List Int, (insI x l).Perm (x :: l)
  | [] => .refl _
  | y :: r => by
    unfold insI
    split
    · exact .refl _
    · exact ((insI_perm x r).cons y).trans (.swap x y r)
theorem sortI_perm : ∀ l : List Int, (sortI l).Perm l
  | [] => .refl _
  | x :: r => (insI_perm x _).trans ((sortI_perm r).cons x)
theorem insI_sorted (x : Int) : ∀ l : List Int, l.Pairwise (· ≤ ·) → (insI x l).Pairwise (· ≤ ·)
  | [], _ => by simp [insI]
  | y :: r, h => by
    have h' := List.pairwise_cons.mp h
    unfold insI
    split
    · rename_i hx
      refine List.pairwise_cons.mpr ⟨fun z hz => ?_, h⟩
      rcases List.mem_cons.mp hz with e | e
      · omega
      · have := h'.1 z e; omega
    · rename_i hx
      refine List.pairwise_cons.mpr ⟨fun z hz => ?_, insI_sorted x r h'.2⟩
      rcases List.mem_cons.mp ((insI_perm x r).mem_iff.mp hz) with e | e
      · omega
      · exact h'.1 z e
theorem sortI_sorted : ∀ l : List Int, (sortI l).Pairwise (· ≤ ·)
  | [] => List.Pairwise.nil
  | x :: r => insI_sorted x _ (sortI_sorted r)
theorem sorted_one : ∀ {a b : List Int}, a.Perm b → a.Pairwise (· ≤ ·) → b.Pairwise (· ≤ ·) → a = b
  | [], b, p, _, _ => by rw [List.nil_perm.mp p]
  | x :: r, b, p, ha, hb => by
    cases b with
    | nil => exact absurd p.symm (by simp)
    | cons y t =>
      have h1 := List.pairwise_cons.mp ha
      have h2 := List.pairwise_cons.mp hb
      have e : x = y := by
        have m1 : x ∈ y :: t := p.mem_iff.mp (by simp)
        have m2 : y ∈ x :: r := p.mem_iff.mpr (by simp)
        rcases List.mem_cons.mp m1 with e | e
        · exact e
        · rcases List.mem_cons.mp m2 with e' | e'
          · exact e'.symm
          · have := h1.1 y e'; have := h2.1 x e; omega
      subst e
      rw [sorted_one (List.perm_cons x |>.mp p) h1.2 h2.2]
theorem minI_spec : ∀ (l : List Int) (m : Int), minI l m ∈ m :: l ∧ ∀ y ∈ m :: l, minI l m ≤ y
  | [], m => by simp [minI]
  | x :: r, m => by
    obtain ⟨h1, h2⟩ := minI_spec r (if x < m then x else m)
    simp only [minI]
    constructor
    · rcases List.mem_cons.mp h1 with e | e
      · rw [e]; split <;> simp
      · simp [e]
    · intro y hy
      have h3 := h2 (if x < m then x else m) (by simp)
      rcases List.mem_cons.mp hy with e | e
      · split at h3 <;> rename_i hx <;> simp only [hx, if_true, if_false] <;> omega
      · rcases List.mem_cons.mp e with e | e
        · split at h3 <;> rename_i hx <;> simp only [hx, if_true, if_false] <;> omega
        · exact h2 y (by simp [e])
theorem maxI_spec : ∀ (l : List Int) (m : Int), maxI l m ∈ m :: l ∧ ∀ y ∈ m :: l, y ≤ maxI l m
  | [], m => by simp [maxI]
  | x :: r, m => by
    obtain ⟨h1, h2⟩ := maxI_spec r (if m < x then x else m)
    simp only [maxI]
    constructor
    · rcases List.mem_cons.mp h1 with e | e
      · rw [e]; split <;> simp
      · simp [e]
    · intro y hy
      have h3 := h2 (if m < x then x else m) (by simp)
      rcases List.mem_cons.mp hy with e | e
      · split at h3 <;> rename_i hx <;> simp only [hx, if_true, if_false] <;> omega
      · rcases List.mem_cons.mp e with e | e
        · split at h3 <;> rename_i hx <;> simp only [hx, if_true, if_false] <;> omega
        · exact h2 y (by simp [e])

/-! built-in functions -/
def Bi.name : Bi → Str
  | .len => "len" | .abs => "abs" | .int => "int" | .bool => "bool" | .max => "max" | .min => "min" | .list => "list" | .tuple => "tuple" | .sorted => "sorted"
  | .sum => "sum" | .any => "any" | .all => "all" | .dict => "dict" | .isStr => "str" | _ => "isinstance"
def Bi.val : Bi → Value
  | .len => .builtin "len" | .abs => .builtin "abs" | .int => .type "int" | .bool => .type "bool" | .max => .builtin "max" | .min => .builtin "min" | .list => .type "list" | .tuple => .type "tuple" | .sorted => .builtin "sorted"
  | .sum => .builtin "sum" | .any => .builtin "any" | .all => .builtin "all" | .dict => .type "dict" | .isStr => .type "str" | _ => .builtin "isinstance"
section
variable {X : Cx} {K : Fg} {ρ : List Addr} {H : Hp} {h : PH}
theorem RepVs.one {x : PV} {vs : List V} (r : RepVs K ρ H [x] vs) : ∃ v, vs = [v] ∧ RepV K ρ H x v := by
  cases r with
  | cons q t => cases t; exact ⟨_, rfl, q⟩
theorem RepVs.two {x y : PV} {vs : List V} (r : RepVs K ρ H [x, y] vs) : ∃ v w, vs = [v, w] ∧ RepV K ρ H x v ∧ RepV K ρ H y w := by
  cases r with
  | cons q t => obtain ⟨w, rfl, q'⟩ := t.one; exact ⟨_, w, rfl, q, q'⟩
theorem lstAt_V (S : Sim K ρ h H) {x : PV} {v : V} {ps : List PV} (e : lstAt h x = some ps) (r : RepV K ρ H x v) : ∃ a xs, v = .ref a ∧ H a = some (.lst xs) ∧ RepVs K ρ H ps xs := by
  unfold lstAt at e
  split at e
  · split at e
    · rename_i h1
      cases e
      cases r with
      | ref ea => obtain ⟨xs, e1, r1⟩ := S.lst h1 ea; exact ⟨_, xs, rfl, e1, r1⟩
    · cases e
  · cases e
theorem ints_V (S : Sim K ρ h H) {x : PV} {v : V} {ns : List Int} (e : (lstAt h x).bind intsOf = some ns) (r : RepV K ρ H x v) : ∃ a, v = .ref a ∧ H a = some (.lst (ns.map V.int)) := by
  obtain ⟨ps, e1, e2⟩ := Option.bind_eq_some_iff.mp e
  obtain ⟨a, xs, ev, e3, r3⟩ := lstAt_V S e1 r
  rw [r3.ints e2] at e3
  exact ⟨a, ev, e3⟩
theorem bools_V (S : Sim K ρ h H) {x : PV} {v : V} {ns : List Bool} (e : (lstAt h x).bind boolsOf = some ns) (r : RepV K ρ H x v) : ∃ a, v = .ref a ∧ H a = some (.lst (ns.map V.bl)) := by
  obtain ⟨ps, e1, e2⟩ := Option.bind_eq_some_iff.mp e
  obtain ⟨a, xs, ev, e3, r3⟩ := lstAt_V S e1 r
  rw [r3.bools e2] at e3
  exact ⟨a, ev, e3⟩
theorem call_bi (hc : X.calm = true) (f : Bi) : CallR X f.val (lC X.K (biF f)) := by
  intro pins s σ H xs us Q I rv h
  obtain ⟨ρ, h, ps, S, r, po⟩ := h
  unfold biF at po
  split at po
  · -- len
    split at po
    · obtain ⟨v, rfl, q⟩ := r.one
      split at po
      · rename_i hz
        cases q
        exact call_len pins s σ H _ us Q I rv ⟨_, _, rfl, ⟨hz, rfl⟩, PostV.now po S (.int _)⟩
      · exact po.elim
    · obtain ⟨v, rfl, q⟩ := r.one
      cases q with
      | tup q1 r1 => exact call_len pins s σ H _ us Q I rv ⟨_, _, rfl, .inr ⟨_, q1, rfl⟩, by rw [← r1.length]; exact PostV.now po S (.int _)⟩
    · obtain ⟨v, rfl, q⟩ := r.one
      split at po
      · rename_i h1
        cases q with
        | ref ea =>
          obtain ⟨vs, e1, r1⟩ := S.lst h1 ea
          exact call_len pins s σ H _ us Q I rv ⟨_, _, rfl, .inl ⟨_, SqL.of e1, rfl⟩, by rw [← r1.length]; exact PostV.now po S (.int _)⟩
      · rename_i h1
        cases q with
        | ref ea =>
          obtain ⟨vs, e1, r1⟩ := S.dic h1 ea
          exact call_lenD pins s σ H _ us Q I rv ⟨_, _, rfl, e1, by rw [← r1.length]; exact PostV.now po S (.int _)⟩
      · exact po.elim
    · exact po.elim
  · -- abs
    split at po
    · obtain ⟨v, rfl, q⟩ := r.one
      cases q
      exact call_abs pins s σ H _ us Q I rv ⟨_, rfl, PostV.now po S (.int _)⟩
    · exact po.elim
  · -- int
    split at po
    · obtain ⟨v, rfl, q⟩ := r.one
      cases q
      exact call_int1 pins s σ H _ us Q I rv (.inl ⟨_, rfl, PostV.now po S (.int _)⟩)
    · obtain ⟨v, rfl, q⟩ := r.one
      cases q
      exact call_int1 pins s σ H _ us Q I rv (.inr ⟨_, rfl, PostV.now po S (.int _)⟩)
    · exact po.elim
  · -- bool
    split at po
    · obtain ⟨v, rfl, q⟩ := r.one
      cases q
      exact call_bool1 pins s σ H _ us Q I rv (.inl ⟨_, rfl, PostV.now po S (.bl _)⟩)
    · obtain ⟨v, rfl, q⟩ := r.one
      cases q
      exact call_bool1 pins s σ H _ us Q I rv (.inr ⟨_, rfl, PostV.now po S (.bl _)⟩)
    · exact po.elim
  · -- max
    split at po
    · obtain ⟨v, w, rfl, q, q'⟩ := r.two
      cases q; cases q'
      exact call_max2 hc pins s σ H _ us Q I rv ⟨_, _, rfl, PostV.now po S (.int _)⟩
    · obtain ⟨v, rfl, q⟩ := r.one
      split at po
      · rename_i a t e1
        obtain ⟨p, rfl, e2⟩ := ints_V S e1 q
        refine cr_max hc pins s σ H _ us Q I rv ⟨_, a :: t, rfl, SqL.of e2, by simp, fun m hm hy => ?_⟩
        obtain ⟨h1, h2⟩ := maxI_spec t a
        have e : m = maxI t a := Int.le_antisymm (h2 m hm) (hy _ h1)
        rw [e]
        exact PostV.now po S (.int _)
      · exact po.elim
    · exact po.elim
  · -- min
    split at po
    · obtain ⟨v, w, rfl, q, q'⟩ := r.two
      cases q; cases q'
      exact call_min2 hc pins s σ H _ us Q I rv ⟨_, _, rfl, PostV.now po S (.int _)⟩
    · obtain ⟨v, rfl, q⟩ := r.one
      split at po
      · rename_i h1
        cases q with
        | ref ea =>
          obtain ⟨vs, e1, r1⟩ := S.lst h1 ea
          split at po
          · rename_i a t e2
            rw [r1.ints e2] at e1
            refine cr_min hc pins s σ H _ us Q I rv ⟨_, a :: t, rfl, SqL.of e1, by simp, fun m hm hy => ?_⟩
            obtain ⟨h1, h2⟩ := minI_spec t a
            have e : m = minI t a := Int.le_antisymm (hy _ h1) (h2 m hm)
            rw [e]
            exact PostV.now po S (.int _)
          · exact po.elim
      · rename_i h1
        cases q with
        | ref ea =>
          obtain ⟨vs, e1, r1⟩ := S.dic h1 ea
          split at po
          · rename_i a t e2
            refine cr_minK hc pins s σ H _ us Q I rv ⟨_, vs, a :: t, rfl, e1, r1.intKeys e2, by simp, fun m hm hy => ?_⟩
            obtain ⟨h1, h2⟩ := minI_spec t a
            have e : m = minI t a := Int.le_antisymm (hy _ h1) (h2 m hm)
            rw [e]
            exact PostV.now po S (.int _)
          · exact po.elim
      · exact po.elim
    · exact po.elim
  · -- list
    split at po
    · obtain ⟨v, rfl, q⟩ := r.one
      cases q with
      | tup q1 r1 => exact call_list_of pins s σ H _ us Q I rv ⟨_, _, rfl, .inr q1, PostV.newL po S r1⟩
    · obtain ⟨v, rfl, q⟩ := r.one
      split at po
      · rename_i h1
        cases q with
        | ref ea =>
          obtain ⟨vs, e1, r1⟩ := S.lst h1 ea
          exact call_list_of pins s σ H _ us Q I rv ⟨_, _, rfl, .inl (SqL.of e1), PostV.newL po S r1⟩
      · rename_i h1
        cases q with
        | ref ea =>
          obtain ⟨vs, e1, r1⟩ := S.dic h1 ea
          exact call_list_dK hc pins s σ H _ us Q I rv ⟨_, _, rfl, e1, PostV.newL po S r1.keys⟩
      · exact po.elim
    · exact po.elim
  · -- tuple
    split at po
    · obtain ⟨v, rfl, q⟩ := r.one
      cases q with
      | tup q1 r1 => exact call_tuple_of pins s σ H _ us Q I rv ⟨_, _, rfl, .inr ⟨q1, PostV.now po S (.tup q1 r1)⟩⟩
    · obtain ⟨v, rfl, q⟩ := r.one
      split at po
      · rename_i h1
        cases q with
        | ref ea =>
          obtain ⟨vs, e1, r1⟩ := S.lst h1 ea
          exact call_tuple_of pins s σ H _ us Q I rv ⟨_, _, rfl, .inl ⟨SqL.of e1, PostV.tup po S r1⟩⟩
      · exact po.elim
    · exact po.elim
  · -- sorted
    split at po
    · obtain ⟨v, rfl, q⟩ := r.one
      split at po
      · rename_i ns e1
        obtain ⟨p, rfl, e2⟩ := ints_V S e1 q
        refine cr_sortedI pins s σ H _ us Q I rv ⟨_, ns, rfl, SqL.of e2, fun ns' p hp hs hn => ?_⟩
        have e : ns' = sortI ns := sorted_one (hp.trans (sortI_perm ns).symm) hs (sortI_sorted ns)
        rw [e]
        exact PostV.newL po S (RepVs.ofInts _) p hn
      · exact po.elim
    · exact po.elim
  · -- sum
    split at po
    · obtain ⟨v, rfl, q⟩ := r.one
      split at po
      · rename_i ns e1
        obtain ⟨p, rfl, e2⟩ := ints_V S e1 q
        exact cr_sum hc pins s σ H _ us Q I rv ⟨_, ns, rfl, SqL.of e2, PostV.now po S (.int _)⟩
      · exact po.elim
    · exact po.elim
  · -- any
    split at po
    · obtain ⟨v, rfl, q⟩ := r.one
      split at po
      · rename_i ns e1
        obtain ⟨p, rfl, e2⟩ := bools_V S e1 q
        exact cr_any hc pins s σ H _ us Q I rv ⟨_, ns, rfl, SqL.of e2, PostV.now po S (.bl _)⟩
      · exact po.elim
    · exact po.elim
  · -- all
    split at po
    · obtain ⟨v, rfl, q⟩ := r.one
      split at po
      · rename_i ns e1
        obtain ⟨p, rfl, e2⟩ := bools_V S e1 q
        exact cr_all hc pins s σ H _ us Q I rv ⟨_, ns, rfl, SqL.of e2, PostV.now po S (.bl _)⟩
      · exact po.elim
    · exact po.elim
  · -- dict
    split at po
    · obtain ⟨v, rfl, q⟩ := r.one
      split at po
      · rename_i kvs e1
        cases q with
        | ref ea =>
          have fin : ∀ {ks}, RepKs X.K ρ H kvs ks → ∀ a, H a = none → Q (.ref a) (upd H a (.dK ks)) := fun {ks} r1 => PostV.new po S fun a ha => ⟨ks, upd_same, r1.ext (Ext.push ha)⟩
          unfold dAt at e1
          split at e1
          · rename_i h1
            cases e1
            obtain ⟨vs, e1, r1⟩ := S.dic h1 ea
            exact call_dictD pins s σ H _ us Q I rv ⟨_, _, rfl, .inl e1, fin r1⟩
          · rename_i h1
            cases e1
            obtain ⟨o, vs, e1, r1⟩ := S.lck h1 ea
            exact call_dictD pins s σ H _ us Q I rv ⟨_, _, rfl, .inr ⟨o, e1⟩, fin r1⟩
          · cases e1
      · exact po.elim
    · exact po.elim
  · exact po.elim
theorem Bi.boot (f : Bi) : bootBuiltins f.name = some f.val := by cases f <;> decide +kernel
theorem se_bi {f : Bi} {e : Expr} {es : List Expr} {fs : PSt → PH → Out (List PV)} {p pos : Pos} (hc : X.calm = true) (hg : Gl X f.name) (hm : X.mg f.name = none) (ha : PA X (e :: es) (lA X.K fs))
    (he : starEach (e :: es) X.env = (false, eval e X.env) :: starEach es X.env) (hpl : (backTo pos (starEach es X.env)).any (·.1) = false) : PE X (.Call (.Name f.name p) (e :: es) [] pos) (lE X.K fun s h => (fs s h).bnd fun xs h => biF f xs h) := by
  have hn : f.name ≠ "__name__" := by cases f <;> decide
  have hd : (f.name == ("__debug__" : Str)) = false := by cases f <;> decide
  have w : ∀ σ H Q, lE X.K (fun s h => (fs s h).bnd fun xs h => biF f xs h) σ H Q → tCB (lC X.K (biF f)) (lA X.K fs) σ H Q := fun σ H Q h => by
    obtain ⟨ρ, s, h, S, R, po⟩ := h
    exact lA.first S R po fun v ρ1 H1 h1 u x1 S1 R1 e1 ru po1 => ⟨ρ1, h1, v, S1, ru, po1⟩
  have hv := f.boot
  have k := call_bi hc f
  cases hval : f.val with
  | builtin id =>
    rw [hval] at hv k
    exact (pe_callB k hg hm hv ha hn hd he hpl).weak w
  | type T =>
    rw [hval] at hv k
    exact (pe_callTy k hg hm hv ha hn hd he hpl).weak w
  | _ => cases f <;> simp [Bi.val] at hval
end
end MP

set_option Elab.async false
set_option linter.all false
set_option maxRecDepth 100000
set_option maxHeartbeats 1000000
namespace MP
open PySem PySem.Spec PyProof.Rows L2

theorem Out.bnd_bnd {α β γ : Type} (o : Out α) (f : α → PH → Out β) (g : β → PH → Out γ) : (o.bnd f).bnd g = o.bnd fun x h => (f x h).bnd g := by
  cases o <;> rfl
def Mt.name : Mt → Str
  | .append => "append" | .extend => "extend" | .pop => "pop" | .get => "get" | .values => "values" | .items => "items" | .keys => "keys" | .index => "index" | .insert => "insert" | .setdefault => "setdefault"

section
variable {X : Cx} {o e e' : Expr} {fo f1 f2 : PSt → PH → Out PV} {apos pos : Pos}
theorem kind_lst {K : Fg} {ρ : List Addr} {H : Hp} {h : PH} {l : Nat} {v : V} (S : Sim K ρ h H) (r : RepV K ρ H (.ref l) v) (k : kind (.ref l) h = 1) : tyV K "list" v H := by
  unfold kind at k
  dsimp only at k
  split at k <;> try (simp at k; done)
  rename_i xs h1
  cases r with
  | ref ea => obtain ⟨ys, e1, r1⟩ := S.lst h1 ea; exact .inl ⟨rfl, _, SqL.of e1⟩
theorem kind_dic {K : Fg} {ρ : List Addr} {H : Hp} {h : PH} {l : Nat} {v : V} (S : Sim K ρ h H) (r : RepV K ρ H (.ref l) v) (k : kind (.ref l) h = 2) : ∃ a, v = .ref a ∧ IsD H a := by
  unfold kind at k
  dsimp only at k
  split at k <;> try (simp at k; done)
  · rename_i xs h1
    cases r with
    | ref ea => obtain ⟨ys, e1, r1⟩ := S.dic h1 ea; exact ⟨_, rfl, .inl ⟨_, .inl e1⟩⟩
  · rename_i xs h1
    cases r with
    | ref ea => obtain ⟨o, ys, e1, r1⟩ := S.lck h1 ea; exact ⟨_, rfl, .inl ⟨_, .inr ⟨o, e1⟩⟩⟩
/-- a write at a place -/
theorem PostV.wrote {K : Fg} {ρ : List Addr} {H : Hp} {h : PH} {l : Nat} {a : Addr} {v : PV} {u : V} {po : PO} {ho : HO} {Q : VK} (p : PostV K ρ H (.ok v (h.set l po)) Q) (S : Sim K ρ h H) (e : ρ[l]? = some a) (rv : RepV K ρ H v u)
    (r : RepO K ρ (upd H a ho) po a) (hm : ∀ ob w, H a ≠ some (.frz ob w)) : Q u (upd H a ho) := p ρ _ (Ext.set S e hm) (S.set e r) u (rv.mono (fun _ _ e => e) (set_tup S e))
theorem wroteL {K : Fg} {ρ : List Addr} {H : Hp} {h : PH} {l : Nat} {a : Addr} {ps : List PV} {vs : List V} (S : Sim K ρ h H) (e : ρ[l]? = some a) (r : RepVs K ρ H ps vs) : RepO K ρ (upd H a (.lst vs)) (.lst ps) a :=
  ⟨vs, upd_same, r.mono (fun _ _ e => e) (set_tup S e)⟩
theorem wroteD {K : Fg} {ρ : List Addr} {H : Hp} {h : PH} {l : Nat} {a : Addr} {ps : List (PV × PV)} {vs : List (L2.Key × V)} (S : Sim K ρ h H) (e : ρ[l]? = some a) (r : RepKs K ρ H ps vs) : RepO K ρ (upd H a (.dK vs)) (.dic ps) a :=
  ⟨vs, upd_same, r.mono (fun _ _ e => e) (set_tup S e)⟩

theorem mt_ref {m : Mt} {v : PV} {xs : List PV} {h : PH} {K : Fg} {ρ : List Addr} {H : Hp} {R : PV → List Addr → Hp → Prop} (po : PostG K ρ H (mtF m v xs h) R) :
    ∃ l, v = .ref l ∧ ((∃ ys, h[l]? = some (.lst ys) ∧ PostG K ρ H (lstM m l ys xs h) R) ∨ (∃ kvs, h[l]? = some (.dic kvs) ∧ PostG K ρ H (dicM m l kvs xs h) R) ∨ ∃ kvs, h[l]? = some (.lck kvs) ∧ PostG K ρ H (dicR m kvs xs h) R) := by
  unfold mtF at po
  split at po
  · rename_i l
    refine ⟨l, rfl, ?_⟩
    split at po
    · exact .inl ⟨_, by assumption, po⟩
    · exact .inr (.inl ⟨_, by assumption, po⟩)
    · exact .inr (.inr ⟨_, by assumption, po⟩)
    · exact po.elim
  · exact po.elim
theorem se_mt0 {m : Mt} (hbase : ∀ n, attributeBase o n X.env (eval o X.env) = eval o X.env) (hline : (apos.endLine == pos.line) = true) (ho : PE X o (lE X.K fo)) :
    PE X (.Call (.Attribute o m.name apos) [] [] pos) (lE X.K fun s h => (fo s h).bnd fun x h => mtF m x [] h) := by
  refine ⟨fun pins s σ H Q I h => ?_⟩
  obtain ⟨ρ, s, h, S, R, po⟩ := h
  obtain ⟨v, h1, e1, po1⟩ := po.okOf
  obtain ⟨l, rfl, ⟨ys, hl, po2⟩ | ⟨kvs, hl, po2⟩ | ⟨kvs, hl, po2⟩⟩ := mt_ref po1
  · cases m <;> simp only [lstM] at po2 <;> try exact po2.elim
    refine (pe_bm0 PySem.F.plainAttrs_list PySem.F.slot_list_pop PySem.F.type_list_pop mt_pop ho (hbase _) hline).run _ _ σ H Q I ?_
    refine lE.first S R po fun v ρ1 H1 h1' u x1 S1 R1 e1' ru po1 => ?_
    rw [e1] at e1'; cases e1'
    have po2 := PostG.ext po2 x1
    split at po2 <;> try exact po2.elim
    rename_i y hy
    cases ru with
    | ref ea =>
      obtain ⟨vs, e2, r2⟩ := S1.lst hl ea
      obtain ⟨w, hw, rw'⟩ := r2.get hy
      exact ⟨.inl ⟨rfl, _, SqL.of e2⟩, _, vs, w, rfl, rfl, e2, by rw [← r2.length]; exact hw, PostV.wrote po2 S1 ea rw' (wroteL S1 ea r2.dropLast) (nfL e2)⟩
  · cases m <;> simp only [dicM, dicR] at po2 <;> exact po2.elim
  · cases m <;> simp only [dicR] at po2 <;> exact po2.elim

/-- how a method's call with one argument looks -/
theorem m1_of (hbase : ∀ n, attributeBase o n X.env (eval o X.env) = eval o X.env) (hline : (apos.endLine == pos.line) = true) (hs : starEach [e] X.env = [(false, eval e X.env)]) (m : Str) : M1 X o m apos e pos := by
  refine ⟨hbase _, ?_, hline, ?_⟩
  · rw [hs]; rfl
  · rw [hs]; rfl
theorem m2_of (hbase : ∀ n, attributeBase o n X.env (eval o X.env) = eval o X.env) (hline : (apos.endLine == pos.line) = true) (hs : starEach [e, e'] X.env = [(false, eval e X.env), (false, eval e' X.env)]) (m : Str) : M2 X o m apos e e' pos := by
  refine ⟨hbase _, ?_, hline, ?_⟩
  · rw [hs]; rfl
  · rw [hs]; rfl
end
end MP

set_option Elab.async false
set_option linter.all false
set_option maxRecDepth 100000
set_option maxHeartbeats 1000000
namespace MP
open PySem PySem.Spec PyProof.Rows L2

section
variable {X : Cx} {o e e' : Expr} {fo f1 f2 : PSt → PH → Out PV} {apos pos : Pos}
theorem few1 (hs : starEach [e] X.env = [(false, eval e X.env)]) : ((backTo pos (starEach [e] X.env)).all (fun x => !x.1) && (backToKw pos (keywordEach [] X.env)).all (fun x => x.1.isSome)
      && decide (([e] : List Expr).length + ([] : List Keyword).length + (if ([] : List Keyword).isEmpty then 0 else 1) < 30)) = true := by rw [hs]; rfl
theorem few2 (hs : starEach [e, e'] X.env = [(false, eval e X.env), (false, eval e' X.env)]) : ((backTo pos (starEach [e, e'] X.env)).all (fun x => !x.1) && (backToKw pos (keywordEach [] X.env)).all (fun x => x.1.isSome)
      && decide (([e, e'] : List Expr).length + ([] : List Keyword).length + (if ([] : List Keyword).isEmpty then 0 else 1) < 30)) = true := by rw [hs]; rfl
theorem se_mt1 (hu : X.A.units + 65 < cLine) {m : Mt} (hbase : ∀ n, attributeBase o n X.env (eval o X.env) = eval o X.env) (hline : (apos.endLine == pos.line) = true) (hs : starEach [e] X.env = [(false, eval e X.env)]) (ho : PE X o (lE X.K fo)) (he : PE X e (lE X.K f1)) :
    PE X (.Call (.Attribute o m.name apos) [e] [] pos) (lE X.K fun s h => (fo s h).bnd fun x h1 => (f1 s h1).bnd fun y h => if kind x h1 = kind x h then mtF m x [y] h else .bad) := by
  refine ⟨fun pins s σ H Q I h => ?_⟩
  obtain ⟨ρ, s, h, S, R, po⟩ := h
  obtain ⟨v, h1, e1, po1⟩ := po.okOf
  obtain ⟨w, h2, e2, po2⟩ := po1.okOf
  split at po2 <;> try exact po2.elim
  rename_i hk
  have hs' : starEach [e] X.env = (false, eval e X.env) :: starEach [] X.env := hs
  have pa := pa_cons he pa_nil hs'
  -- the list's rules
  have bm : ∀ {id : String} {r : V → List V → Hp → VK → Prop} {l : Nat}, v = .ref l → kind v h1 = 1 → Slot "list" m.name id → typeOf (.builtin id) = pure (.type "method_descriptor") → MtM X id r →
      (∀ ρ2 H2 x y, Sim X.K ρ2 h2 H2 → RepV X.K ρ2 H2 v x → RepV X.K ρ2 H2 w y → PostV X.K ρ2 H2 (mtF m v [w] h2) Q → r x [y] H2 Q) →
      wpAny (model X.prog X.w) X.A (eval (.Call (.Attribute o m.name apos) [e] [] pos) X.env) (EP X pins σ Q) X.xe _ := fun {id r l} el kl slot ty hm k => by
    refine (pe_bm PySem.F.plainAttrs_list slot ty hm ho pa (hbase _) (few1 hs) hline hs' (by rfl)).run _ _ σ H Q I ?_
    refine lE.first S R po fun v' ρ1 H1 h1' u x1 S1 R1 e1' ru po1 => ?_
    rw [e1] at e1'; cases e1'
    refine ⟨kind_lst (l := l) S1 (el ▸ ru) (el ▸ kl), lE.first S1 R1 po1 fun w' ρ2 H2 h2' y x2 S2 R2 e2' ry po2 => ?_⟩
    rw [e2] at e2'; cases e2'
    rw [if_pos hk] at po2
    exact k ρ2 H2 u y S2 (ru.ext x2) ry po2
  obtain ⟨l, rfl, ⟨ys, hl, po3⟩ | ⟨kvs, hl, po3⟩ | ⟨kvs, hl, po3⟩⟩ := mt_ref po2
  · have kl : kind (.ref l) h1 = 1 := by rw [hk]; simp only [kind, hl]
    cases m <;> simp only [lstM] at po3 <;> try exact po3.elim
    · -- append
      refine bm rfl kl PySem.F.slot_list_append PySem.F.type_list_append mt_append fun ρ2 H2 x y S2 rx ry po => ?_
      simp only [mtF, hl, lstM] at po
      split at po <;> try exact po.elim
      rename_i hz
      cases rx with
      | ref ea =>
        obtain ⟨vs, e3, r3⟩ := S2.lst hl ea
        exact ⟨_, vs, y, rfl, rfl, e3, by rw [← r3.length]; exact hz, PostV.wrote po S2 ea .non (wroteL S2 ea (r3.append (.cons ry .nil))) (nfL e3)⟩
    · -- extend
      refine bm rfl kl PySem.F.slot_list_extend PySem.F.type_list_extend mt_extend fun ρ2 H2 x y S2 rx ry po => ?_
      simp only [mtF, hl, lstM] at po
      split at po <;> try exact po.elim
      rename_i hq
      split at po <;> try exact po.elim
      rename_i zs h3
      split at po <;> try exact po.elim
      rename_i hz
      cases hq
      cases rx with
      | ref ea =>
        cases ry with
        | ref eb =>
          obtain ⟨vs, e3, r3⟩ := S2.lst hl ea
          obtain ⟨ws, e4, r4⟩ := S2.lst h3 eb
          exact ⟨_, _, vs, ws, rfl, rfl, e3, e4, by rw [← r3.length, ← r4.length]; exact hz, PostV.wrote po S2 ea .non (wroteL S2 ea (r3.append r4)) (nfL e3)⟩
    · -- pop(i)
      refine bm rfl kl PySem.F.slot_list_pop PySem.F.type_list_pop mt_popAt fun ρ2 H2 x y S2 rx ry po => ?_
      simp only [mtF, hl, lstM] at po
      split at po <;> (try exact po.elim)
      · rename_i hq; simp at hq
      · rename_i i hq
        cases hq
        split at po <;> try exact po.elim
        rename_i hz
        split at po <;> try exact po.elim
        rename_i j hj
        split at po <;> try exact po.elim
        rename_i z hy
        have hz' := of_decide_eq_true hz
        cases rx with
        | ref ea =>
          obtain ⟨vs, e3, r3⟩ := S2.lst hl ea
          obtain ⟨u, hu', ru⟩ := r3.get hy
          exact ⟨_, vs, i, j, u, rfl, by rw [ry.intV], e3, by omega, by omega, by rw [← r3.length]; exact hj, hu', PostV.wrote po S2 ea ru (wroteL S2 ea (r3.erase j)) (nfL e3)⟩
  · have kl : kind (.ref l) h1 = 2 := by rw [hk]; simp only [kind, hl]
    cases m <;> simp only [dicM, dicR] at po3 <;> try exact po3.elim
    · -- pop(k)
      refine (pe_dpop1 ho he (m1_of hbase hline hs _)).run _ _ σ H Q I ?_
      refine lE.first S R po fun v' ρ1 H1 h1' u x1 S1 R1 e1' ru po1 => ?_
      rw [e1] at e1'; cases e1'
      obtain ⟨a, rfl, isd⟩ := kind_dic S1 ru kl
      refine ⟨a, rfl, isd, lE.first S1 R1 po1 fun w' ρ2 H2 h2' y x2 S2 R2 e2' ry po2 => ?_⟩
      rw [e2] at e2'; cases e2'
      have po4 := PostG.ext po3 (x1.trans x2)
      split at po4 <;> try exact po4.elim
      rename_i hkk
      split at po4 <;> try exact po4.elim
      rename_i z hz
      cases ru.ext x2 with
      | ref ea =>
        obtain ⟨ks, e3, r3⟩ := S2.dic hl ea
        obtain ⟨kk, ek⟩ := keyOf_some hkk
        obtain ⟨t, ht, rt⟩ := (r3.get ek).1 z hz
        exact ⟨ks, kk, t, e3, keyOf_V ek ry, ht, PostV.wrote po4 S2 ea rt (wroteD S2 ea (r3.drop ek)) (nfD e3)⟩
    · -- get(k)
      refine (pe_dget1 (by omega) ho he (m1_of hbase hline hs _)).run _ _ σ H Q I ?_
      refine lE.first S R po fun v' ρ1 H1 h1' u x1 S1 R1 e1' ru po1 => ?_
      rw [e1] at e1'; cases e1'
      obtain ⟨a, rfl, isd⟩ := kind_dic S1 ru kl
      refine ⟨a, rfl, isd, lE.first S1 R1 po1 fun w' ρ2 H2 h2' y x2 S2 R2 e2' ry po2 => ?_⟩
      rw [e2] at e2'; cases e2'
      have po4 := PostG.ext po3 (x1.trans x2)
      split at po4 <;> try exact po4.elim
      rename_i hkk
      cases ru.ext x2 with
      | ref ea =>
        obtain ⟨ks, e3, r3⟩ := S2.dic hl ea
        obtain ⟨kk, ek⟩ := keyOf_some hkk
        refine ⟨valV ks kk, .inl ⟨ks, kk, .inl e3, keyOf_V ek ry, rfl⟩, PostV.now po4 S2 ?_⟩
        cases ez : dGet kvs w with
        | none => rw [(r3.get ek).2 ez]; exact .non
        | some z => obtain ⟨t, ht, rt⟩ := (r3.get ek).1 z ez; rw [ht]; exact rt
  · have kl : kind (.ref l) h1 = 2 := by rw [hk]; simp only [kind, hl]
    cases m <;> simp only [dicR] at po3 <;> try exact po3.elim
    refine (pe_dget1 (by omega) ho he (m1_of hbase hline hs _)).run _ _ σ H Q I ?_
    refine lE.first S R po fun v' ρ1 H1 h1' u x1 S1 R1 e1' ru po1 => ?_
    rw [e1] at e1'; cases e1'
    obtain ⟨a, rfl, isd⟩ := kind_dic S1 ru kl
    refine ⟨a, rfl, isd, lE.first S1 R1 po1 fun w' ρ2 H2 h2' y x2 S2 R2 e2' ry po2 => ?_⟩
    rw [e2] at e2'; cases e2'
    have po4 := PostG.ext po3 (x1.trans x2)
    split at po4 <;> try exact po4.elim
    rename_i hkk
    cases ru.ext x2 with
    | ref ea =>
      obtain ⟨ob, ks, e3, r3⟩ := S2.lck hl ea
      obtain ⟨kk, ek⟩ := keyOf_some hkk
      refine ⟨valV ks kk, .inl ⟨ks, kk, .inr ⟨ob, e3⟩, keyOf_V ek ry, rfl⟩, PostV.now po4 S2 ?_⟩
      cases ez : dGet kvs w with
      | none => rw [(r3.get ek).2 ez]; exact .non
      | some z => obtain ⟨t, ht, rt⟩ := (r3.get ek).1 z ez; rw [ht]; exact rt
theorem se_mt2 (hu : X.A.units + 65 < cLine) {m : Mt} (hbase : ∀ n, attributeBase o n X.env (eval o X.env) = eval o X.env) (hline : (apos.endLine == pos.line) = true) (hs : starEach [e, e'] X.env = [(false, eval e X.env), (false, eval e' X.env)])
    (hs1 : starEach [e'] X.env = [(false, eval e' X.env)]) (ho : PE X o (lE X.K fo)) (he : PE X e (lE X.K f1)) (he' : PE X e' (lE X.K f2)) :
    PE X (.Call (.Attribute o m.name apos) [e, e'] [] pos) (lE X.K fun s h => (fo s h).bnd fun x h1 => (f1 s h1).bnd fun y h => (f2 s h).bnd fun z h => if kind x h1 = kind x h then mtF m x [y, z] h else .bad) := by
  refine ⟨fun pins s σ H Q I h => ?_⟩
  obtain ⟨ρ, s, h, S, R, po⟩ := h
  obtain ⟨v, h1, e1, po1⟩ := po.okOf
  obtain ⟨w, h2, e2, po2⟩ := po1.okOf
  obtain ⟨w', h3, e3, po3⟩ := po2.okOf
  split at po3 <;> try exact po3.elim
  rename_i hk
  obtain ⟨l, rfl, ⟨ys, hl, po4⟩ | ⟨kvs, hl, po4⟩ | ⟨kvs, hl, po4⟩⟩ := mt_ref po3
  · have kl : kind (.ref l) h1 = 1 := by rw [hk]; simp only [kind, hl]
    cases m <;> simp only [lstM] at po4 <;> try exact po4.elim
    -- insert
    have hs' : starEach [e, e'] X.env = (false, eval e X.env) :: starEach [e'] X.env := by rw [hs, hs1]
    refine (pe_bm PySem.F.plainAttrs_list PySem.F.slot_list_insert PySem.F.type_list_insert mt_insert ho (pa_cons he (pa_cons he' pa_nil hs1) hs') (hbase _) (few2 hs) hline hs' (by rw [hs1]; rfl)).run _ _ σ H Q I ?_
    refine lE.first S R po fun v' ρ1 H1 h1' u x1 S1 R1 e1' ru po1 => ?_
    rw [e1] at e1'; cases e1'
    refine ⟨kind_lst (l := l) S1 ru kl, lE.first S1 R1 po1 fun w' ρ2 H2 h2' y x2 S2 R2 e2' ry po2 => ?_⟩
    rw [e2] at e2'; cases e2'
    refine lE.first S2 R2 po2 fun w'' ρ3 H3 h3' z x3 S3 R3 e3' rz po3 => ?_
    rw [e3] at e3'; cases e3'
    have po5 := PostG.ext po4 ((x1.trans x2).trans x3)
    split at po5 <;> try exact po5.elim
    rename_i i y0 hq
    cases hq
    split at po5 <;> try exact po5.elim
    rename_i hz
    have hz' := of_decide_eq_true hz.2.2
    cases (ru.ext x2).ext x3 with
    | ref ea =>
      obtain ⟨vs, e4, r4⟩ := S3.lst hl ea
      refine ⟨_, vs, i, z, rfl, by rw [(ry.ext x3).intV], e4, by rw [← r4.length]; exact hz.1, hz.2.1, by omega, ?_⟩
      exact PostV.wrote po5 S3 ea .non (wroteL S3 ea (((r4.take _).append (.cons rz .nil)).append (r4.drop _))) (nfL (by assumption))
  · have kl : kind (.ref l) h1 = 2 := by rw [hk]; simp only [kind, hl]
    cases m <;> simp only [dicM, dicR] at po4 <;> try exact po4.elim
    refine (pe_dget2 (by omega) ho he he' (m2_of hbase hline hs _)).run _ _ σ H Q I ?_
    refine lE.first S R po fun v' ρ1 H1 h1' u x1 S1 R1 e1' ru po1 => ?_
    rw [e1] at e1'; cases e1'
    obtain ⟨a, rfl, isd⟩ := kind_dic S1 ru kl
    refine ⟨a, rfl, isd, lE.first S1 R1 po1 fun w' ρ2 H2 h2' y x2 S2 R2 e2' ry po2 => ?_⟩
    rw [e2] at e2'; cases e2'
    refine lE.first S2 R2 po2 fun w'' ρ3 H3 h3' z x3 S3 R3 e3' rz po3 => ?_
    rw [e3] at e3'; cases e3'
    have po5 := PostG.ext po4 ((x1.trans x2).trans x3)
    split at po5 <;> try exact po5.elim
    rename_i hkk
    cases (ru.ext x2).ext x3 with
    | ref ea =>
      obtain ⟨ks, e4, r4⟩ := S3.dic hl ea
      obtain ⟨kk, ek⟩ := keyOf_some hkk
      refine ⟨valV ks kk, .inl ⟨ks, kk, .inl e4, keyOf_V ek (ry.ext x3), rfl⟩, PostV.now po5 S3 ?_⟩
      cases ez : dGet kvs w with
      | none => rw [(r4.get ek).2 ez]; exact rz
      | some z => obtain ⟨t, ht, rt⟩ := (r4.get ek).1 z ez; rw [ht]; exact rt
  · have kl : kind (.ref l) h1 = 2 := by rw [hk]; simp only [kind, hl]
    cases m <;> simp only [dicR] at po4 <;> try exact po4.elim
    refine (pe_dget2 (by omega) ho he he' (m2_of hbase hline hs _)).run _ _ σ H Q I ?_
    refine lE.first S R po fun v' ρ1 H1 h1' u x1 S1 R1 e1' ru po1 => ?_
    rw [e1] at e1'; cases e1'
    obtain ⟨a, rfl, isd⟩ := kind_dic S1 ru kl
    refine ⟨a, rfl, isd, lE.first S1 R1 po1 fun w' ρ2 H2 h2' y x2 S2 R2 e2' ry po2 => ?_⟩
    rw [e2] at e2'; cases e2'
    refine lE.first S2 R2 po2 fun w'' ρ3 H3 h3' z x3 S3 R3 e3' rz po3 => ?_
    rw [e3] at e3'; cases e3'
    have po5 := PostG.ext po4 ((x1.trans x2).trans x3)
    split at po5 <;> try exact po5.elim
    rename_i hkk
    cases (ru.ext x2).ext x3 with
    | ref ea =>
      obtain ⟨ob, ks, e4, r4⟩ := S3.lck hl ea
      obtain ⟨kk, ek⟩ := keyOf_some hkk
      refine ⟨valV ks kk, .inl ⟨ks, kk, .inr ⟨ob, e4⟩, keyOf_V ek (ry.ext x3), rfl⟩, PostV.now po5 S3 ?_⟩
      cases ez : dGet kvs w with
      | none => rw [(r4.get ek).2 ez]; exact rz
      | some z => obtain ⟨t, ht, rt⟩ := (r4.get ek).1 z ez; rw [ht]; exact rt
end
end MP

set_option Elab.async false
set_option linter.all false
set_option maxRecDepth 100000
set_option maxHeartbeats 1000000
namespace MP
open PySem PySem.Spec PyProof.Rows L2

/-! ### walks -/
/-- the iterator J walks as it does -/
def Wk (K : Fg) (J : L2.It) (it : Itr) (ρ0 : List Addr) (H0 : Hp) : Prop := ∀ ρ h H (i : Nat), Ext K ρ0 H0 ρ H → Sim K ρ h H →
  (itStep it i h = some none → J.stop i H) ∧ ∀ p, itStep it i h = some (some p) → J.go i H ∧ ∀ x H', J.yld i H x H' → Ext K ρ H ρ H' ∧ Sim K ρ h H' ∧ RepV K ρ H' p x
def lI (K : Fg) (f : PSt → PH → Out Itr) : TI := fun σ H R => ∃ ρ s h, Sim K ρ h H ∧ RepSt K ρ H s σ ∧ PostG K ρ H (f s h) fun it ρ' H' => ∀ J, Wk K J it ρ' H' → R J H'
section
variable {K : Fg} {ρ : List Addr} {H : Hp} {h : PH}
theorem wk_tup {a : Addr} {xs : List V} {ps : List PV} (q : SqT K H a xs) (r : RepVs K ρ H ps xs) : Wk K (Itt K a) (.vals ps) ρ H := fun ρ' h' H' i x S => by
  have q' : SqT K H' a xs := x.tup a (true, xs) q
  have r' := r.ext x
  refine ⟨fun e => ?_, fun p e => ?_⟩
  · have e : ps[i]? = none := by simpa [itStep] using e
    refine ⟨xs, q', ?_⟩
    rw [← r.length]
    exact List.getElem?_eq_none_iff.mp e
  · have e : ps[i]? = some p := by simpa [itStep] using e
    obtain ⟨u, hu, ru⟩ := r'.get e
    refine ⟨⟨xs, u, q', hu⟩, fun y H2 hy => ?_⟩
    obtain ⟨rfl, hy⟩ := hy
    have := hy xs q'
    rw [hu] at this
    cases this
    exact ⟨.refl, S, ru⟩
theorem wk_fro {a : Addr} {xs : List V} {ps : List PV} (q : FrL K H a xs) (r : RepVs K ρ H ps xs) : Wk K (Itl K a) (.vals ps) ρ H := fun ρ' h' H' i x S => by
  have q' : FrL K H' a xs := x.tup a (false, xs) q
  have r' := r.ext x
  refine ⟨fun e => ?_, fun p e => ?_⟩
  · have e : ps[i]? = none := by simpa [itStep] using e
    refine ⟨xs, q'.sq, ?_⟩
    rw [← r.length]
    exact List.getElem?_eq_none_iff.mp e
  · have e : ps[i]? = some p := by simpa [itStep] using e
    obtain ⟨u, hu, ru⟩ := r'.get e
    refine ⟨⟨xs, u, q'.sq, hu⟩, fun y H2 hy => ?_⟩
    obtain ⟨rfl, hy⟩ := hy
    have := hy xs q'.sq
    rw [hu] at this
    cases this
    exact ⟨.refl, S, ru⟩
theorem wk_lst {l : Nat} {a : Addr} (e : ρ[l]? = some a) : Wk K (Itl K a) (.lst l) ρ H := fun ρ' h' H' i x S => by
  have e' := x.pre _ _ e
  refine ⟨fun e => ?_, fun p e => ?_⟩
  · unfold itStep at e
    dsimp only at e
    split at e <;> try (cases e; done)
    rename_i ps hl
    obtain ⟨xs, h1, r⟩ := S.lst hl e'
    have e : ps[i]? = none := by simpa using e
    refine ⟨xs, SqL.of h1, ?_⟩
    rw [← r.length]
    exact List.getElem?_eq_none_iff.mp e
  · unfold itStep at e
    dsimp only at e
    split at e <;> try (cases e; done)
    rename_i ps hl
    obtain ⟨xs, h1, r⟩ := S.lst hl e'
    have e : ps[i]? = some p := by simpa using e
    obtain ⟨u, hu, ru⟩ := r.get e
    refine ⟨⟨xs, u, SqL.of h1, hu⟩, fun y H2 hy => ?_⟩
    obtain ⟨rfl, hy⟩ := hy
    have := hy xs (SqL.of h1)
    rw [hu] at this
    cases this
    exact ⟨.refl, S, ru⟩
theorem rngI_len (lo : Int) (n : Nat) : (rngI lo n).length = n := by simp [rngI]
theorem wk_rng {lo : Int} {n : Nat} : Wk K (L2.Itr lo n) (.vals (rngI lo n)) ρ H := fun ρ' h' H' i x S => by
  refine ⟨fun e => ?_, fun p e => ?_⟩
  · have e : (rngI lo n)[i]? = none := by simpa [itStep] using e
    have := List.getElem?_eq_none_iff.mp e
    rw [rngI_len] at this
    exact this
  · have e : (rngI lo n)[i]? = some p := by simpa [itStep] using e
    have hl := (List.getElem?_eq_some_iff.mp e).1
    rw [rngI_len] at hl
    refine ⟨hl, fun y H2 hy => ?_⟩
    obtain ⟨rfl, rfl⟩ := hy
    simp [rngI, hl] at e
    subst e
    exact ⟨.refl, S, .int _⟩
theorem wk_str {x : Str} : Wk K (Its x) (.vals (x.cps.toList.map fun c => .str ⟨#[c]⟩)) ρ H := fun ρ' h' H' i _ S => by
  refine ⟨fun e => ?_, fun p e => ?_⟩
  · have e : (x.cps.toList.map fun c => PV.str ⟨#[c]⟩)[i]? = none := by simpa [itStep] using e
    have := List.getElem?_eq_none_iff.mp e
    simp at this
    exact this
  · have e : (x.cps.toList.map fun c => PV.str ⟨#[c]⟩)[i]? = some p := by simpa [itStep] using e
    rw [List.getElem?_map, Option.map_eq_some_iff] at e
    obtain ⟨c, hc, rfl⟩ := e
    have hc : x.cps[i]? = some c := by simpa using hc
    refine ⟨(Array.getElem?_eq_some_iff.mp hc).1, fun y H2 hy => ?_⟩
    obtain ⟨rfl, c', hc', rfl⟩ := hy
    rw [hc] at hc'
    cases hc'
    exact ⟨.refl, S, .str _⟩
end
section
variable {X : Cx} {tg e : Expr} {es : List Expr} {fe : PSt → PH → Out PV} {fs : PSt → PH → Out (List PV)} {p pos : Pos}
theorem _root_.L2.PI.weak {t t' : TI} (h : PI X tg e t) (w : ∀ σ H R, t' σ H R → t σ H R) : PI X tg e t' := ⟨fun pins s σ H R I q => h.run pins s σ H R I (w σ H R q)⟩
theorem si_ex (he : PE X e (lE X.K fe)) : PI X tg e (lI X.K fun s h => (fe s h).bnd fun x h => match x with
    | .tup xs => .ok (.vals xs) h
    | .fro xs => .ok (.vals xs) h
    | .ref l => (match h[l]? with
      | some (.lst _) => .ok (.lst l) h
      | _ => .bad)
    | .str x => .ok (.vals (x.cps.toList.map fun c => .str ⟨#[c]⟩)) h
    | _ => .bad) := by
  refine ⟨fun pins s σ H R I h => ?_⟩
  obtain ⟨ρ, s, h, S, Rs, po⟩ := h
  obtain ⟨v, h1, e1, po1⟩ := po.okOf
  cases v with
  | tup ps =>
    refine (pi_tup he).run _ _ σ H R I (lE.first S Rs po fun v' ρ1 H1 h1' u x1 S1 R1 e1' ru po1 => ?_)
    rw [e1] at e1'; cases e1'
    cases ru with
    | tup q r => exact ⟨_, rfl, ⟨_, q⟩, po1 ρ1 H1 .refl S1 _ (wk_tup q r)⟩
  | str x =>
    refine (pi_str he).run _ _ σ H R I (lE.first S Rs po fun v' ρ1 H1 h1' u x1 S1 R1 e1' ru po1 => ?_)
    rw [e1] at e1'; cases e1'
    exact ⟨x, ru.strV, po1 ρ1 H1 .refl S1 _ wk_str⟩
  | ref l =>
    refine (pi_list he).run _ _ σ H R I (lE.first S Rs po fun v' ρ1 H1 h1' u x1 S1 R1 e1' ru po1 => ?_)
    rw [e1] at e1'; cases e1'
    dsimp only at po1
    split at po1 <;> try exact po1.elim
    rename_i hl
    cases ru with
    | ref ea =>
      obtain ⟨xs, h2, r⟩ := S1.lst hl ea
      exact ⟨_, rfl, ⟨xs, SqL.of h2⟩, po1 ρ1 H1 .refl S1 _ (wk_lst ea)⟩
  | fro ps =>
    refine (pi_list he).run _ _ σ H R I (lE.first S Rs po fun v' ρ1 H1 h1' u x1 S1 R1 e1' ru po1 => ?_)
    rw [e1] at e1'; cases e1'
    cases ru with
    | fro q r => exact ⟨_, rfl, ⟨_, q.sq⟩, po1 ρ1 H1 .refl S1 _ (wk_fro q r)⟩
  | non => exact po1.elim
  | bl _ => exact po1.elim
  | int _ => exact po1.elim
theorem small_iff {i : Int} (h : small i = true) : -(2 ^ 62) ≤ i ∧ i < 2 ^ 62 := of_decide_eq_true h
theorem si_rng1 {a : Expr} {fa : PSt → PH → Out PV} (hg : Gl X "range") (hm : X.mg "range" = none) (ha : PE X a (lE X.K fa)) (hs : starEach [a] X.env = [(false, eval a X.env)]) :
    PI X tg (.Call (.Name "range" p) [a] [] pos) (lI X.K fun s h => (fa s h).bnd fun x h => match x with
      | .int n => if small n then .ok (.vals (rngI 0 n.toNat)) h else .bad
      | _ => .bad) :=
  (pi_range1 hg hm (pa_cons ha pa_nil (show starEach [a] X.env = (false, eval a X.env) :: starEach [] X.env from hs)) hs).weak fun σ H R h => by
    obtain ⟨ρ, s, h, S, Rs, po⟩ := h
    refine lE.first S Rs po fun v' ρ1 H1 h1' u x1 S1 R1 e1' ru po1 => ?_
    split at po1 <;> try exact po1.elim
    split at po1 <;> try exact po1.elim
    rename_i n hn
    obtain ⟨n1, n2⟩ := small_iff hn
    exact ⟨n, by rw [ru.intV], n1, n2, po1 ρ1 H1 .refl S1 _ wk_rng⟩
theorem si_rng2 {a b : Expr} {fa fb : PSt → PH → Out PV} (hg : Gl X "range") (hm : X.mg "range" = none) (ha : PE X a (lE X.K fa)) (hb : PE X b (lE X.K fb)) (hs : starEach [a, b] X.env = [(false, eval a X.env), (false, eval b X.env)])
    (hs2 : starEach [b] X.env = [(false, eval b X.env)]) :
    PI X tg (.Call (.Name "range" p) [a, b] [] pos) (lI X.K fun s h => (fa s h).bnd fun x h => (fb s h).bnd fun y h => match x, y with
      | .int i, .int j => if small i ∧ small j then .ok (.vals (rngI i (j - i).toNat)) h else .bad
      | _, _ => .bad) :=
  (pi_range2 hg hm (pa_cons ha (pa_cons hb pa_nil (show starEach [b] X.env = (false, eval b X.env) :: starEach [] X.env from hs2)) (by rw [hs, hs2])) hs hs2).weak fun σ H R h => by
    obtain ⟨ρ, s, h, S, Rs, po⟩ := h
    refine lE.first S Rs po fun v' ρ1 H1 h1' u x1 S1 R1 e1' ru po1 => lE.first S1 R1 po1 fun w ρ2 H2 h2 z x2 S2 R2 e2 rz po2 => ?_
    split at po2 <;> try exact po2.elim
    split at po2 <;> try exact po2.elim
    rename_i i j hn
    obtain ⟨n1, n2⟩ := small_iff hn.1
    obtain ⟨n3, n4⟩ := small_iff hn.2
    exact ⟨i, j, by rw [(ru.ext x2).intV, rz.intV], ⟨n1, n2, n3, n4⟩, po2 ρ2 H2 .refl S2 _ wk_rng⟩
end

/-! ### targets -/
def lT (K : Fg) (ws : List Nat) (f : PV → PSt → PH → Out PSt) : TG := fun v σ H Q => ∃ ρ s h p, Sim K ρ h H ∧ RepSt K ρ H s σ ∧ RepV K ρ H p v ∧
  PostG K ρ H (f p s h) fun s' ρ' H' => ∀ σ', RepSt K ρ' H' s' σ' → (∀ vs : List Nat, (∀ w ∈ ws, w ∈ vs) → wipe σ' vs = wipe σ vs) → Q σ' H'
theorem wipe_set {σ : L2.St} {i : Nat} {x : Option V} : ∀ {vs : List Nat}, i ∈ vs → wipe (σ.set i x) vs = wipe σ vs
  | [], h => by simp at h
  | v :: vs, h => by
    unfold wipe
    by_cases e : i = v
    · subst e
      have go : ∀ {vs : List Nat} {σ : L2.St}, (wipe (σ.set i x) vs).set i none = (wipe σ vs).set i none := by
        intro vs
        induction vs with
        | nil => intro σ; unfold wipe; rw [List.set_set]
        | cons w ws ih =>
          intro σ
          unfold wipe
          by_cases e : i = w
          · subst e
            rw [List.set_set, List.set_set]
            exact ih
          · rw [List.set_comm _ _ (Ne.symm e), ih, List.set_comm _ _ e]
      exact go
    · rw [wipe_set (by rcases List.mem_cons.mp h with q | q; exact absurd q e; exact q)]
theorem wipe_get {σ : L2.St} : ∀ (vs : List Nat) (i : Nat), (wipe σ vs)[i]? = if i ∈ vs then σ[i]?.map fun _ => none else σ[i]?
  | [], i => by simp [wipe]
  | v :: vs, i => by
    unfold wipe
    rw [List.getElem?_set]
    by_cases e : v = i
    · subst e
      simp only [if_true, List.mem_cons, true_or]
      rw [wipe_length]
      split
      · rename_i h; rw [List.getElem?_eq_getElem h]; rfl
      · rename_i h; rw [List.getElem?_eq_none (by omega)]; rfl
    · rw [if_neg e, wipe_get vs i]
      have : i ≠ v := Ne.symm e
      simp [this]
theorem wipe_wipe (σ : L2.St) (vs : List Nat) : wipe (wipe σ vs) vs = wipe σ vs := by
  apply List.ext_getElem?
  intro i
  rw [wipe_get, wipe_get]
  split
  · cases σ[i]? <;> rfl
  · rfl
theorem RepSt.set {K : Fg} {ρ : List Addr} {H : Hp} {s : PSt} {σ : L2.St} (R : RepSt K ρ H s σ) {p : PV} {v : V} (r : RepV K ρ H p v) (i : Nat) : RepSt K ρ H (s.set i (some p)) (σ.set i (some v)) := by
  refine ⟨by simp [R.1], fun j w e => ?_⟩
  by_cases hj : i = j
  · subst hj
    by_cases lt : i < s.length
    · rw [List.getElem?_set_self lt] at e
      cases e
      exact ⟨v, by rw [List.getElem?_set_self (by rw [← R.1]; exact lt)], r⟩
    · rw [List.getElem?_eq_none (by simpa using lt)] at e; cases e
  · rw [List.getElem?_set_ne hj] at e ⊢
    exact R.2 j w e
theorem RepSt.clear {K : Fg} {ρ : List Addr} {H : Hp} {s : PSt} {σ : L2.St} (R : RepSt K ρ H s σ) (i : Nat) : RepSt K ρ H (s.set i none) (σ.set i none) := by
  refine ⟨by simp [R.1], fun j w e => ?_⟩
  by_cases hj : i = j
  · subst hj
    by_cases lt : i < s.length
    · rw [List.getElem?_set_self lt] at e; cases e
    · rw [List.getElem?_eq_none (by simpa using lt)] at e; cases e
  · rw [List.getElem?_set_ne hj] at e ⊢
    exact R.2 j w e
theorem RepSt.wipe {K : Fg} {ρ : List Addr} {H : Hp} {s : PSt} {σ : L2.St} (R : RepSt K ρ H s σ) : ∀ vs : List Nat, RepSt K ρ H (wipeP s vs) (L2.wipe σ vs)
  | [] => R
  | v :: vs => (RepSt.wipe R vs).clear v
section
variable {X : Cx} {pos : Pos}
theorem _root_.L2.PG.weak {tg : Expr} {t t' : TG} (h : PG X tg t) (w : ∀ v σ H R, t' v σ H R → t v σ H R) : PG X tg t' := ⟨fun pins s σ H v u R I r q => h.run pins s σ H v u R I r (w v σ H R q)⟩
theorem sg_nm {x : Str} {i : Nat} (hN : X.N.Nodup) (hi : X.N[i]? = some x) (hx : Loc X.env.scope x) (hf : X.fn x = true ∨ X.env.scope.names.lookup x = some .local) : PG X (.Name x pos) (lT X.K [i] fun v s h => .ok (s.set i (some v)) h) :=
  (pg_name hN hi hx hf).weak fun v σ H Q h => by
    obtain ⟨ρ, s, h, p, S, R, r, po⟩ := h
    exact po ρ H .refl S _ (R.set r i) fun vs hv => wipe_set (hv i (by simp))
/-- names, one after the other -/
def lTs (K : Fg) (is : List Nat) : TGs := fun vs σ H Q => ∃ ρ s h ps, Sim K ρ h H ∧ RepSt K ρ H s σ ∧ RepVs K ρ H ps vs ∧ ∃ s', setAll s is ps = some s' ∧ ∀ σ', RepSt K ρ H s' σ' → (∀ vs : List Nat, (∀ w ∈ is, w ∈ vs) → wipe σ' vs = wipe σ vs) → Q σ' H
structure NameAt (X : Cx) (x : Str) (i : Nat) : Prop where
  ix : X.N[i]? = some x
  loc : Loc X.env.scope x
  fn : X.fn x = true ∨ X.env.scope.names.lookup x = some .local
theorem sgs_names (hN : X.N.Nodup) : ∀ {xs : List (Str × Pos)} {is : List Nat}, Paired (fun (x : Str × Pos) i => NameAt X x.1 i) xs is → PGs X (xs.map fun x => Expr.Name x.1 x.2) (lTs X.K is)
  | [], _, .nil => ⟨fun pins s σ H vs us Q I r h => by
    obtain ⟨ρ, s, h, ps, S, R, rp, s', e, k⟩ := h
    refine pgs_nil.run _ _ σ H vs us Q I r ?_
    cases rp with
    | nil =>
      simp [setAll] at e
      subst e
      exact ⟨rfl, k _ R fun _ _ => rfl⟩
    | cons _ _ => simp [setAll] at e⟩
  | x :: xs, i :: is, .cons n t => ⟨fun pins s σ H vs us Q I r h => by
    obtain ⟨ρ, s, h, ps, S, R, rp, s', e, k⟩ := h
    refine (pgs_cons (pg_name (pos := x.2) hN n.ix n.loc n.fn) (sgs_names hN t) (by rfl)).run _ _ σ H vs us Q I r ?_
    cases rp with
    | nil => simp [setAll] at e
    | cons q rr =>
      simp only [setAll] at e
      refine ⟨_, _, rfl, ρ, _, h, _, S, R.set q i, rr, s', e, fun σ' R' hw => k σ' R' fun vs hv => ?_⟩
      rw [hw vs fun w hw => hv w (List.mem_cons_of_mem _ hw)]
      exact wipe_set (hv i (by simp))⟩
theorem sg_tup (hc : X.calm = true) (hN : X.N.Nodup) {xs : List (Str × Pos)} {is : List Nat} {k : Nat} (n : Paired (fun (x : Str × Pos) i => NameAt X x.1 i) xs is) : PG X (.Tuple (xs.map fun x => Expr.Name x.1 x.2) k pos) (lT X.K is fun v s h => match v with
    | .tup vs => (match setAll s is vs with
      | some s => .ok s h
      | none => .bad)
    | _ => .bad) := by
  have hl : ∀ xs : List (Str × Pos), assignEach (xs.map fun x => Expr.Name x.1 x.2) X.env = xs.map fun x => (false, assign (.Name x.1 x.2) X.env) := by
    intro xs
    induction xs with
    | nil => rfl
    | cons x xs ih => rw [List.map_cons, List.map_cons, ← ih]; rfl
  refine (pg_tup (n := xs.length) hc (sgs_names hN n) (by rw [hl]; simp) ?_).weak fun v σ H Q h => ?_
  · rw [hl]
    rw [List.findIdx?_eq_none_iff]
    intro y hy
    obtain ⟨z, _, rfl⟩ := List.mem_map.mp hy
    rfl
  · obtain ⟨ρ, s, h, p, S, R, r, po⟩ := h
    dsimp only at po
    split at po <;> try exact po.elim
    rename_i vs
    split at po <;> try exact po.elim
    rename_i s' e
    cases r with
    | tup q rr =>
      refine ⟨_, _, rfl, q, ?_, ρ, s, h, vs, S, R, rr, s', e, fun σ' R' hw => po ρ H .refl S σ' R' hw⟩
      rw [← rr.length]
      have go : ∀ {is : List Nat} {s : PSt} {vs : List PV} {s'}, setAll s is vs = some s' → vs.length = is.length := by
        intro is
        induction is with
        | nil => intro s vs s' e; cases vs <;> simp [setAll] at e ⊢
        | cons i is ih => intro s vs s' e; cases vs with
          | nil => simp [setAll] at e
          | cons v vs => simp only [setAll] at e; simp [ih e]
      rw [go e]
      exact n.length.symm
end
end MP

set_option Elab.async false
set_option linter.all false
set_option maxRecDepth 100000
set_option maxHeartbeats 1000000
namespace MP
open PySem PySem.Spec PyProof.Rows L2

/-! ### o[i] = v -/
section
variable {X : Cx} {o i : Expr} {fo fi : PSt → PH → Out PV} {pos : Pos}
def rSet (K : Fg) : TSet := fun o i v H Q => ∃ ρ h p q r, Sim K ρ h H ∧ RepV K ρ H p o ∧ RepV K ρ H q i ∧ RepV K ρ H r v ∧ PostG K ρ H (setF p q r h) fun _ _ H' => Q H'
theorem set_ok (hu : X.A.units + 65 < cLine) : PSet X (rSet X.K) := by
  intro pins s σ H o i v ov iv u Q I ro ri rv h
  obtain ⟨ρ, h, p, q, r, S, rp, rq, rr, po⟩ := h
  unfold setF at po
  split at po <;> try exact po.elim
  rename_i l
  split at po <;> try exact po.elim
  · rename_i xs hl
    split at po <;> try exact po.elim
    rename_i k
    split at po <;> try exact po.elim
    rename_i j hj
    cases rp with
    | ref ea =>
      obtain ⟨vs, e1, r1⟩ := S.lst hl ea
      exact set_list pins s σ H _ _ v ov iv u Q I ro ri rv ⟨_, vs, k, j, rfl, rq.intV, e1, by rw [← r1.length]; exact hj, po ρ _ (Ext.set S ea (nfL e1)) (S.set ea (wroteL S ea (r1.set rr j)))⟩
  · rename_i kvs hl
    split at po <;> try exact po.elim
    rename_i hk
    cases rp with
    | ref ea =>
      obtain ⟨ks, e1, r1⟩ := S.dic hl ea
      obtain ⟨kk, ek⟩ := keyOf_some hk.1
      cases ro
      exact d_setItem (A := X.A) (by omega) I (DPut.k (k := kk) (v := v) e1 (by rw [← r1.length]; exact hk.2)) (keyOf_V ek rq ▸ ri) rv fun s' I' => ⟨_, I', po ρ _ (Ext.set S ea (nfD e1)) (S.set ea (wroteD S ea (r1.put ek rr)))⟩
theorem sg_sub (hu : X.A.units + 65 < cLine) (ho : PE X o (lE X.K fo)) (hi : PE X i (lE X.K fi))
    (ha : ∀ v, assign (.Subscript o i pos) X.env v = (do
      let ov ← holding [v] (eval o X.env)
      let iv ← holding [v, ov] (eval i X.env)
      standAt pos
      holding [v, ov, iv] (setItem ov iv v)
      release [v, ov, iv] [])) : PG X (.Subscript o i pos) (lT X.K [] fun v s h => (fo s h).bnd fun x h => (fi s h).bnd fun y h => (setF x y v h).bnd fun _ h => .ok s h) :=
  (pg_sub ho hi (set_ok hu) ha).weak fun v σ H Q h => by
    obtain ⟨ρ, s, h, p, S, R, r, po⟩ := h
    refine lE.first S R po fun w ρ1 H1 h1 u x1 S1 R1 e1 ru po1 => lE.first S1 R1 po1 fun z ρ2 H2 h2 t x2 S2 R2 e2 rt po2 => ?_
    refine ⟨ρ2, h2, w, z, p, S2, ru.ext x2, rt, (r.ext x1).ext x2, (PostG.bnd po2).mono fun _ ρ' H' x ⟨h', S', po'⟩ => ?_⟩
    exact po' ρ' H' .refl S' _ (R2.ext x) fun _ _ => rfl
end

/-! ### comprehensions -/
section
variable {K : Fg} {ρ ρ' ρ1 : List Addr} {H H' H1 : Hp} {h : PH}
theorem Ext.own {D : Addr} {u o : HO} (x : Ext K ρ1 H1 ρ H) (hD : H1 D = none) (hu : H D = some u) (h1 : ∀ xs, u ≠ .tup xs) (h2 : ∀ ob xs, u ≠ .frz ob (.tup xs) ∧ u ≠ .frz ob (.lst xs)) (h3 : ∀ ob w, u ≠ .frz ob w) : Ext K ρ1 H1 ρ (upd H D o) where
  pre := x.pre
  tup := fun a xs q => SqI.upd_old hu h1 h2 (x.tup a xs q)
  frm := fun a ob e n => by rw [upd_ne (ne_of_none e hD)]; exact x.frm a ob e n
  new := x.new
  lck := fun a ob ks e => by rw [upd_ne (ne_of_none e hD)]; exact x.lck a ob ks e
theorem Sim.own {D : Addr} {u o : HO} (S : Sim K ρ h H) (hn : D ∉ ρ) (hu : H D = some u) (h1 : ∀ xs, u ≠ .tup xs) (h2 : ∀ ob xs, u ≠ .frz ob (.tup xs) ∧ u ≠ .frz ob (.lst xs)) : Sim K ρ h (upd H D o) :=
  ⟨S.len, S.nd, fun l ob a e f => (S.ob l ob a e f).mono (fun _ _ e => e) (fun _ _ q => SqI.upd_old hu h1 h2 q) (by rw [upd_ne]; intro z; subst z; exact hn (mem_of_get f))⟩
theorem Sim.adopt {D : Addr} {po : PO} (S : Sim K ρ h H) (hn : D ∉ ρ) (r : RepO K ρ H po D) : Sim K (ρ ++ [D]) (h ++ [po]) H := by
  have pre : ∀ (l : Nat) a, ρ[l]? = some a → (ρ ++ [D])[l]? = some a := fun l a e => by rw [List.getElem?_append_left (List.getElem?_eq_some_iff.mp e).1]; exact e
  refine ⟨by simp [S.len], ?_, fun l ob a e f => ?_⟩
  · refine List.nodup_append.mpr ⟨S.nd, by simp, fun a ha b hb e => ?_⟩
    have : b = D := by simpa using hb
    subst this e
    exact hn ha
  · by_cases lt : l < h.length
    · rw [List.getElem?_append_left lt] at e
      rw [List.getElem?_append_left (by rw [S.len]; exact lt)] at f
      exact (S.ob l ob a e f).mono pre (fun _ _ q => q) rfl
    · have e2 : l = h.length := by
        have := (List.getElem?_eq_some_iff.mp e).1
        simp at this; omega
      subst e2
      rw [List.getElem?_append_right (Nat.le_refl _)] at e
      rw [List.getElem?_append_right (by rw [S.len]; exact Nat.le_refl _)] at f
      simp [S.len] at e f
      subst e f
      exact r.mono pre (fun _ _ q => q) rfl
theorem Ext.adopt {D : Addr} (x : Ext K ρ1 H1 ρ H) (hD : H1 D = none) : Ext K ρ1 H1 (ρ ++ [D]) H where
  pre := fun l a e => by
    have := x.pre l a e
    rw [List.getElem?_append_left (List.getElem?_eq_some_iff.mp this).1]; exact this
  tup := x.tup
  lck := x.lck
  frm := x.frm
  new := fun a e => by
    rcases List.mem_append.mp e with e | e
    · exact x.new a e
    · have : a = D := by simpa using e
      subst this
      exact .inr hD
theorem Ext.notin {D : Addr} {u : HO} (x : Ext K ρ H ρ' H') (hn : D ∉ ρ) (hu : H D = some u) : D ∉ ρ' ∧ H' D = some u := by
  refine ⟨fun e => ?_, x.frm D u hu hn⟩
  rcases x.new D e with q | q
  · exact hn q
  · rw [hu] at q; cases q
/-- an outcome's way: it is known, and what is wanted follows from the base -/
theorem PostG.okOf' {α β : Type} {o : Out α} {g : α → PH → Out β} {R : β → List Addr → Hp → Prop} (po : PostG K ρ H (o.bnd g) R) : ∃ v h', o = .ok v h' := let ⟨v, h', e, _⟩ := po.okOf; ⟨v, h', e⟩
end
section
variable {K : Fg} {fi : PSt → PH → Out MP.Itr} {fg : PV → PSt → PH → Out PSt} {ft : PSt → PH → Out Bool} {fe fk : PSt → PH → Out PV} {ws vs : List Nat} {σ : L2.St} {H : Hp} {Q : VK}
/-- the turn of a list comprehension -/
def lcTurn (fg : PV → PSt → PH → Out PSt) (ft : PSt → PH → Out Bool) (fe : PSt → PH → Out PV) (vs : List Nat) (s : PSt) (acc : List PV) (x : PV) (h : PH) : Out (List PV) :=
  (fg x (wipeP s vs) h).bnd fun s2 h => (ft s2 h).bnd fun k h => if k = true then (fe s2 h).bnd fun y h => if acc.length < sizeLine then .ok (acc ++ [y]) h else .bad else .ok acc h
theorem lc_read (hw : ∀ w ∈ ws, w ∈ vs) (q : lE K (fun s h => (fi s h).bnd fun r h => (each (lcTurn fg ft fe vs s) r [] h).bnd fun acc h => new (.lst acc) h) σ H Q) : tLc (lI K fi) (lT K ws fg) (lB K ft) (lE K fe) vs σ H Q := by
  obtain ⟨ρ, s, h, S, R, po⟩ := q
  refine ⟨ρ, s, h, S, R, ?_⟩
  obtain ⟨it, h1, e1, po1⟩ := po.okOf
  rw [e1]
  intro ρ1 H1 x1 S1 J wk D hD
  have po1 := PostG.ext po1 x1
  have R1 := R.ext x1
  refine ⟨fun i m H2 => ∃ ρ2 h2 acc us, Ext K ρ1 H1 ρ2 H2 ∧ Sim K ρ2 h2 H2 ∧ H2 D = some (.lst us) ∧ D ∉ ρ2 ∧ RepVs K ρ2 H2 acc us ∧ PostV K ρ1 H1 ((eachI (lcTurn fg ft fe vs s) it m i acc h2).bnd fun acc h => new (.lst acc) h) Q, ⟨it.fuel, ?_⟩, ?_⟩
  · refine ⟨ρ1, h1, [], [], Ext.tuple hD, S1.tuple hD, upd_same, fun z => ?_, .nil, po1⟩
    obtain ⟨u, hu, _⟩ := S1.tracked z
    rw [hD] at hu; cases hu
  · rintro i m H2 ⟨ρ2, h2, acc, us, x2, S2, hD2, nD2, ra, po2⟩
    cases m with
    | zero => exact (show False from po2).elim
    | succ m =>
      unfold eachI at po2
      obtain ⟨wstop, wgo⟩ := wk ρ2 h2 H2 i x2 S2
      cases es : itStep it i h2 with
      | none => rw [es] at po2; exact (show False from po2).elim
      | some o =>
        rw [es] at po2
        cases o with
        | none =>
          refine .inl ⟨wstop es, ?_⟩
          have po2 : PostV K ρ1 H1 (new (.lst acc) h2) Q := po2
          exact po2 (ρ2 ++ [D]) H2 (x2.adopt hD) (S2.adopt nD2 ⟨us, hD2, ra⟩) _ (.ref (push_at S2 D))
        | some p =>
          obtain ⟨go, yl⟩ := wgo p es
          refine .inr ⟨go, _, fun H' n => ⟨m, Nat.lt_succ_self m, n⟩, fun x H3 hy => ?_⟩
          obtain ⟨x3, S3, rp⟩ := yl x H3 hy
          have po3 : PostV K ρ1 H1 (((lcTurn fg ft fe vs s acc p h2).bnd fun a h => eachI (lcTurn fg ft fe vs s) it m (i + 1) a h).bnd fun acc h => new (.lst acc) h) Q := po2
          rw [Out.bnd_bnd] at po3
          obtain ⟨acc', h9, e9, po9⟩ := po3.okOf
          have R3 : RepSt K ρ2 H3 (wipeP s vs) (wipe σ vs) := (R1.ext (x2.trans x3)).wipe vs
          refine ⟨ρ2, _, h2, p, S3, R3, rp, ?_⟩
          unfold lcTurn at e9
          cases e4 : fg p (wipeP s vs) h2 with
          | exc _ _ => rw [e4] at e9; cases e9
          | bad => rw [e4] at e9; cases e9
          | ok s4 h4 =>
            rw [e4] at e9
            have e9 : ((ft s4 h4).bnd fun k h => if k = true then (fe s4 h).bnd fun y h => if acc.length < sizeLine then Out.ok (acc ++ [y]) h else .bad else .ok acc h) = .ok acc' h9 := e9
            intro ρ4 H4 x4 S4 σ4 R4 hwp
            have hwp' := hwp vs hw
            refine ⟨by rw [hwp', wipe_wipe], ?_⟩
            cases e5 : ft s4 h4 with
            | exc _ _ => rw [e5] at e9; cases e9
            | bad => rw [e5] at e9; cases e9
            | ok k h5 =>
              rw [e5] at e9
              have e9 : (if k = true then (fe s4 h5).bnd fun y h => if acc.length < sizeLine then Out.ok (acc ++ [y]) h else .bad else .ok acc h5) = .ok acc' h9 := e9
              refine ⟨ρ4, s4, h4, S4, R4, ?_⟩
              rw [e5]
              intro ρ5 H5 x5 S5
              have x25 := (x3.trans x4).trans x5
              obtain ⟨nD5, hD5⟩ := x25.notin nD2 hD2
              cases k with
              | false =>
                rw [if_neg Bool.false_ne_true] at e9
                cases e9
                refine iteF ?_
                exact ⟨ρ5, _, acc, us, x2.trans x25, S5, hD5, nD5, ra.ext x25, po9⟩
              | true =>
                rw [if_pos rfl] at e9
                refine iteT ?_
                refine ⟨ρ5, s4, h5, S5, R4.ext x5, ?_⟩
                cases e6 : fe s4 h5 with
                | exc _ _ => rw [e6] at e9; cases e9
                | bad => rw [e6] at e9; cases e9
                | ok y h6 =>
                  rw [e6] at e9
                  have e9 : (if acc.length < sizeLine then Out.ok (acc ++ [y]) h6 else .bad) = .ok acc' h9 := e9
                  split at e9 <;> try (cases e9; done)
                  rename_i hz
                  cases e9
                  intro ρ6 H6 x6 S6 Y ry
                  obtain ⟨nD6, hD6⟩ := x6.notin nD5 hD5
                  have n1 : ∀ xs, HO.lst us ≠ .tup xs := fun _ => nofun
                  have n2 : ∀ ob xs, HO.lst us ≠ .frz ob (.tup xs) ∧ HO.lst us ≠ .frz ob (.lst xs) := fun _ _ => ⟨nofun, nofun⟩
                  refine ⟨us, hD6, by rw [← ra.length]; exact hz, ρ6, _, acc ++ [y], us ++ [Y], ((x2.trans x25).trans x6).own hD hD6 n1 n2 (fun _ _ => nofun), S6.own nD6 hD6 n1 n2, upd_same, nD6, ?_, po9⟩
                  exact ((ra.ext (x25.trans x6)).append (.cons ry .nil)).mono (fun _ _ e => e) fun _ _ q => SqI.upd_old hD6 n1 n2 q
/-- the turn of a dict comprehension -/
def dcTurn (fg : PV → PSt → PH → Out PSt) (ft : PSt → PH → Out Bool) (fk fe : PSt → PH → Out PV) (vs : List Nat) (s : PSt) (acc : List (PV × PV)) (x : PV) (h : PH) : Out (List (PV × PV)) :=
  (fg x (wipeP s vs) h).bnd fun s2 h => (ft s2 h).bnd fun k h => if k = true then (fk s2 h).bnd fun y h => (fe s2 h).bnd fun z h => if isKey y ∧ acc.length < sizeLine then .ok (dPut acc y z) h else .bad else .ok acc h
theorem dc_read (hw : ∀ w ∈ ws, w ∈ vs) (q : lE K (fun s h => (fi s h).bnd fun r h => (each (dcTurn fg ft fk fe vs s) r [] h).bnd fun acc h => new (.dic acc) h) σ H Q) : tDc (lI K fi) (lT K ws fg) (lB K ft) (lE K fk) (lE K fe) vs σ H Q := by
  obtain ⟨ρ, s, h, S, R, po⟩ := q
  refine ⟨ρ, s, h, S, R, ?_⟩
  obtain ⟨it, h1, e1, po1⟩ := po.okOf
  rw [e1]
  intro ρ1 H1 x1 S1 J wk D hD
  have po1 := PostG.ext po1 x1
  have R1 := R.ext x1
  refine ⟨fun i m H2 => ∃ ρ2 h2 acc us, Ext K ρ1 H1 ρ2 H2 ∧ Sim K ρ2 h2 H2 ∧ H2 D = some (.dK us) ∧ D ∉ ρ2 ∧ RepKs K ρ2 H2 acc us ∧ PostV K ρ1 H1 ((eachI (dcTurn fg ft fk fe vs s) it m i acc h2).bnd fun acc h => new (.dic acc) h) Q, ⟨it.fuel, ?_⟩, ?_⟩
  · refine ⟨ρ1, h1, [], [], Ext.tuple hD, S1.tuple hD, upd_same, fun z => ?_, .nil, po1⟩
    obtain ⟨u, hu, _⟩ := S1.tracked z
    rw [hD] at hu; cases hu
  · rintro i m H2 ⟨ρ2, h2, acc, us, x2, S2, hD2, nD2, ra, po2⟩
    cases m with
    | zero => exact (show False from po2).elim
    | succ m =>
      unfold eachI at po2
      obtain ⟨wstop, wgo⟩ := wk ρ2 h2 H2 i x2 S2
      cases es : itStep it i h2 with
      | none => rw [es] at po2; exact (show False from po2).elim
      | some o =>
        rw [es] at po2
        cases o with
        | none =>
          refine .inl ⟨wstop es, ?_⟩
          have po2 : PostV K ρ1 H1 (new (.dic acc) h2) Q := po2
          exact po2 (ρ2 ++ [D]) H2 (x2.adopt hD) (S2.adopt nD2 ⟨us, hD2, ra⟩) _ (.ref (push_at S2 D))
        | some p =>
          obtain ⟨go, yl⟩ := wgo p es
          refine .inr ⟨go, _, fun H' n => ⟨m, Nat.lt_succ_self m, n⟩, fun x H3 hy => ?_⟩
          obtain ⟨x3, S3, rp⟩ := yl x H3 hy
          have po3 : PostV K ρ1 H1 (((dcTurn fg ft fk fe vs s acc p h2).bnd fun a h => eachI (dcTurn fg ft fk fe vs s) it m (i + 1) a h).bnd fun acc h => new (.dic acc) h) Q := po2
          rw [Out.bnd_bnd] at po3
          obtain ⟨acc', h9, e9, po9⟩ := po3.okOf
          have R3 : RepSt K ρ2 H3 (wipeP s vs) (wipe σ vs) := (R1.ext (x2.trans x3)).wipe vs
          refine ⟨ρ2, _, h2, p, S3, R3, rp, ?_⟩
          unfold dcTurn at e9
          cases e4 : fg p (wipeP s vs) h2 with
          | exc _ _ => rw [e4] at e9; cases e9
          | bad => rw [e4] at e9; cases e9
          | ok s4 h4 =>
            rw [e4] at e9
            have e9 : ((ft s4 h4).bnd fun k h => if k = true then (fk s4 h).bnd fun y h => (fe s4 h).bnd fun z h => if isKey y ∧ acc.length < sizeLine then Out.ok (dPut acc y z) h else .bad else .ok acc h) = .ok acc' h9 := e9
            intro ρ4 H4 x4 S4 σ4 R4 hwp
            have hwp' := hwp vs hw
            refine ⟨by rw [hwp', wipe_wipe], ?_⟩
            cases e5 : ft s4 h4 with
            | exc _ _ => rw [e5] at e9; cases e9
            | bad => rw [e5] at e9; cases e9
            | ok k h5 =>
              rw [e5] at e9
              have e9 : (if k = true then (fk s4 h5).bnd fun y h => (fe s4 h).bnd fun z h => if isKey y ∧ acc.length < sizeLine then Out.ok (dPut acc y z) h else .bad else .ok acc h5) = .ok acc' h9 := e9
              refine ⟨ρ4, s4, h4, S4, R4, ?_⟩
              rw [e5]
              intro ρ5 H5 x5 S5
              have x25 := (x3.trans x4).trans x5
              obtain ⟨nD5, hD5⟩ := x25.notin nD2 hD2
              cases k with
              | false =>
                rw [if_neg Bool.false_ne_true] at e9
                cases e9
                refine iteF ?_
                exact ⟨ρ5, _, acc, us, x2.trans x25, S5, hD5, nD5, ra.ext x25, po9⟩
              | true =>
                rw [if_pos rfl] at e9
                refine iteT ?_
                refine ⟨ρ5, s4, h5, S5, R4.ext x5, ?_⟩
                cases e6 : fk s4 h5 with
                | exc _ _ => rw [e6] at e9; cases e9
                | bad => rw [e6] at e9; cases e9
                | ok y h6 =>
                  rw [e6] at e9
                  have e9 : ((fe s4 h6).bnd fun z h => if isKey y ∧ acc.length < sizeLine then Out.ok (dPut acc y z) h else .bad) = .ok acc' h9 := e9
                  intro ρ6 H6 x6 S6 Y ry
                  refine ⟨ρ6, s4, h6, S6, (R4.ext x5).ext x6, ?_⟩
                  cases e7 : fe s4 h6 with
                  | exc _ _ => rw [e7] at e9; cases e9
                  | bad => rw [e7] at e9; cases e9
                  | ok z h7 =>
                    rw [e7] at e9
                    have e9 : (if isKey y ∧ acc.length < sizeLine then Out.ok (dPut acc y z) h7 else .bad) = .ok acc' h9 := e9
                    split at e9 <;> try (cases e9; done)
                    rename_i hz
                    cases e9
                    intro ρ7 H7 x7 S7 Z rz
                    obtain ⟨nD6, hD6⟩ := (x6.trans x7).notin nD5 hD5
                    obtain ⟨kk, ek⟩ := keyOf_some hz.1
                    have n1 : ∀ xs, HO.dK us ≠ .tup xs := fun _ => nofun
                    have n2 : ∀ ob xs, HO.dK us ≠ .frz ob (.tup xs) ∧ HO.dK us ≠ .frz ob (.lst xs) := fun _ _ => ⟨nofun, nofun⟩
                    refine ⟨us, kk, keyOf_V ek ry, hD6, by rw [← ra.length]; exact hz.2, ρ7, _, dPut acc y z, putK us kk Z, ((x2.trans x25).trans (x6.trans x7)).own hD hD6 n1 n2 (fun _ _ => nofun), S7.own nD6 hD6 n1 n2, upd_same, nD6, ?_, po9⟩
                    exact ((ra.ext (x25.trans (x6.trans x7))).put ek rz).mono (fun _ _ e => e) fun _ _ q => SqI.upd_old hD6 n1 n2 q
end
section
variable {X : Cx} {elt kx tg iter : Expr} {ifs : List Expr} {scope : Scope} {own : List (Str × Nat)} {pos : Pos} {fi : PSt → PH → Out MP.Itr} {fg : PV → PSt → PH → Out PSt} {ft : PSt → PH → Out Bool} {fe fk : PSt → PH → Out PV} {ws : List Nat}
theorem se_lc (hc : X.calm = true) (hN : X.N.Nodup) (hi : PI X tg iter (lI X.K fi)) (ok : BlkOk X.N X.env.scope scope own) (hw : ∀ w ∈ ws, w ∈ own.map (·.2))
    (hg : ∀ (s : Shared) (H : Hp) (C : Addr) (cl : List (Str × Addr)) (fp : List Addr), PG (X.blk s H scope (compEnvC scope cl C X.env) fp) tg (lT X.K ws fg)) (ht : ∀ (s : Shared) (H : Hp) (C : Addr) (cl : List (Str × Addr)) (fp : List Addr), PTs (X.blk s H scope (compEnvC scope cl C X.env) fp) ifs (lB X.K ft))
    (he : ∀ (s : Shared) (H : Hp) (C : Addr) (cl : List (Str × Addr)) (fp : List Addr), PE (X.blk s H scope (compEnvC scope cl C X.env) fp) elt (lE X.K fe)) (hs : ∀ x, foldedSetIterable iter X.env x = pure x) :
    PE X (.ListComp elt [⟨tg, iter, ifs, 0⟩] scope pos) (lE X.K fun s h => (fi s h).bnd fun r h => (each (lcTurn fg ft fe (own.map (·.2)) s) r [] h).bnd fun acc h => new (.lst acc) h) :=
  (pe_lc hc hN hi ok hg ht he hs).weak fun σ H Q h => lc_read hw h
theorem se_dc (hc : X.calm = true) (hN : X.N.Nodup) (hi : PI X tg iter (lI X.K fi)) (ok : BlkOk X.N X.env.scope scope own) (hw : ∀ w ∈ ws, w ∈ own.map (·.2))
    (hg : ∀ (s : Shared) (H : Hp) (C : Addr) (cl : List (Str × Addr)) (fp : List Addr), PG (X.blk s H scope (compEnvC scope cl C X.env) fp) tg (lT X.K ws fg)) (ht : ∀ (s : Shared) (H : Hp) (C : Addr) (cl : List (Str × Addr)) (fp : List Addr), PTs (X.blk s H scope (compEnvC scope cl C X.env) fp) ifs (lB X.K ft))
    (hk : ∀ (s : Shared) (H : Hp) (C : Addr) (cl : List (Str × Addr)) (fp : List Addr), PE (X.blk s H scope (compEnvC scope cl C X.env) fp) kx (lE X.K fk))
    (he : ∀ (s : Shared) (H : Hp) (C : Addr) (cl : List (Str × Addr)) (fp : List Addr), PE (X.blk s H scope (compEnvC scope cl C X.env) fp) elt (lE X.K fe)) (hs : ∀ x, foldedSetIterable iter X.env x = pure x) :
    PE X (.DictComp kx elt [⟨tg, iter, ifs, 0⟩] scope pos) (lE X.K fun s h => (fi s h).bnd fun r h => (each (dcTurn fg ft fk fe (own.map (·.2)) s) r [] h).bnd fun acc h => new (.dic acc) h) :=
  (pe_dc hc hN hi ok hg ht hk he hs).weak fun σ H Q h => dc_read hw h
end
end MP

set_option Elab.async false
set_option linter.all false
set_option maxRecDepth 100000
set_option maxHeartbeats 1000000
namespace MP
open PySem PySem.Spec PyProof.Rows L2

def PostS (K : Fg) (ρ : List Addr) (H : Hp) (o : SO) (D : Ends) : Prop :=
  match o with
  | .nx s h => ∀ ρ' H' σ', Ext K ρ H ρ' H' → Sim K ρ' h H' → RepSt K ρ' H' s σ' → D.nx σ' H'
  | .rt v h => ∀ ρ' H' V, Ext K ρ H ρ' H' → Sim K ρ' h H' → RepV K ρ' H' v V → D.rt V H'
  | .bk s h => ∀ ρ' H' σ', Ext K ρ H ρ' H' → Sim K ρ' h H' → RepSt K ρ' H' s σ' → D.bk σ' H'
  | .ct s h => ∀ ρ' H' σ', Ext K ρ H ρ' H' → Sim K ρ' h H' → RepSt K ρ' H' s σ' → D.ct σ' H'
  | _ => False
def lS (K : Fg) (f : PSt → PH → SO) : TS := fun D σ H => ∃ ρ s h, Sim K ρ h H ∧ RepSt K ρ H s σ ∧ PostS K ρ H (f s h) D

section
variable {K : Fg} {ρ ρ1 : List Addr} {H H1 : Hp} {h : PH} {σ : L2.St} {s : PSt} {D : Ends}
theorem PostS.ext {o : SO} (p : PostS K ρ H o D) (x : Ext K ρ H ρ1 H1) : PostS K ρ1 H1 o D := by
  cases o with
  | nx s h => exact fun ρ' H' σ' y S R => p ρ' H' σ' (x.trans y) S R
  | rt s h => exact fun ρ' H' σ' y S R => p ρ' H' σ' (x.trans y) S R
  | bk s h => exact fun ρ' H' σ' y S R => p ρ' H' σ' (x.trans y) S R
  | ct s h => exact fun ρ' H' σ' y S R => p ρ' H' σ' (x.trans y) S R
  | exc _ _ => exact p
  | bad => exact p
theorem PostS.okOf {α : Type} {o : Out α} {g : α → PH → SO} (po : PostS K ρ H (o.sbnd g) D) : ∃ v h', o = .ok v h' ∧ PostS K ρ H (g v h') D := by
  cases o with
  | ok v h' => exact ⟨v, h', rfl, po⟩
  | exc _ _ => exact po.elim
  | bad => exact po.elim
theorem lE.sfirst {f : PSt → PH → Out PV} {g : PV → PH → SO} {Q : VK} (S : Sim K ρ h H) (Rs : RepSt K ρ H s σ) (po : PostS K ρ H ((f s h).sbnd g) D)
    (k : ∀ v ρ' H' h' u, Ext K ρ H ρ' H' → Sim K ρ' h' H' → RepSt K ρ' H' s σ → RepV K ρ' H' v u → PostS K ρ' H' (g v h') D → Q u H') : lE K f σ H Q := by
  refine ⟨ρ, s, h, S, Rs, ?_⟩
  obtain ⟨v, h', e, po'⟩ := po.okOf
  rw [e]
  exact fun ρ' H' x S' u ru => k v ρ' H' h' u x S' (Rs.ext x) ru (po'.ext x)
theorem lB.sfirst {f : PSt → PH → Out Bool} {g : Bool → PH → SO} {Q : Bool → Hp → Prop} (S : Sim K ρ h H) (Rs : RepSt K ρ H s σ) (po : PostS K ρ H ((f s h).sbnd g) D)
    (k : ∀ v ρ' H' h', Ext K ρ H ρ' H' → Sim K ρ' h' H' → RepSt K ρ' H' s σ → PostS K ρ' H' (g v h') D → Q v H') : lB K f σ H Q := by
  refine ⟨ρ, s, h, S, Rs, ?_⟩
  obtain ⟨v, h', e, po'⟩ := po.okOf
  rw [e]
  exact fun ρ' H' x S' => k v ρ' H' h' x S' (Rs.ext x) (po'.ext x)
end

section
variable {X : Cx} {e c : Expr} {st : Stmt} {sts a b : List Stmt} {fe : PSt → PH → Out PV} {gc : PSt → PH → Out Bool} {f g : PSt → PH → SO} {pos : Pos}
theorem _root_.L2.PS.weak {t t' : TS} (h : PS X st t) (w : ∀ D σ H, t' D σ H → t D σ H) : PS X st t' := ⟨fun pins s σ H D I q => h.run pins s σ H D I (w D σ H q)⟩
theorem _root_.L2.PSs.weak {t t' : TS} (h : PSs X sts t) (w : ∀ D σ H, t' D σ H → t D σ H) : PSs X sts t' := ⟨fun pins s σ H D I q => h.run pins s σ H D I (w D σ H q)⟩
theorem ss_pass : PS X (.Pass pos) (lS X.K fun s h => .nx s h) := ps_pass.weak fun D σ H ⟨ρ, s, h, S, R, po⟩ => po ρ H σ .refl S R
theorem ss_brk : PS X (.Break pos) (lS X.K fun s h => .bk s h) := ps_break.weak fun D σ H ⟨ρ, s, h, S, R, po⟩ => po ρ H σ .refl S R
theorem ss_cont : PS X (.Continue pos) (lS X.K fun s h => .ct s h) := ps_continue.weak fun D σ H ⟨ρ, s, h, S, R, po⟩ => po ρ H σ .refl S R
theorem ss_retN : PS X (.Return none pos) (lS X.K fun s h => .rt .non h) := ps_retN.weak fun D σ H ⟨ρ, s, h, S, R, po⟩ => po ρ H _ .refl S .non
theorem ss_ret (he : PE X e (lE X.K fe)) : PS X (.Return (some e) pos) (lS X.K fun s h => (fe s h).sbnd fun v h => .rt v h) :=
  (ps_ret he).weak fun D σ H ⟨ρ, s, h, S, R, po⟩ => lE.sfirst S R po fun v ρ' H' h' u x S' R' ru po' => po' ρ' H' u .refl S' ru
theorem ss_ex (he : PE X e (lE X.K fe)) (hs : swapsWith e none pos.line X.env = pure false) : PS X (.Expr e pos) (lS X.K fun s h => (fe s h).sbnd fun _ h => .nx s h) :=
  (ps_expr he hs).weak fun D σ H ⟨ρ, s, h, S, R, po⟩ => lE.sfirst S R po fun v ρ' H' h' u x S' R' ru po' => po' ρ' H' σ .refl S' R'
theorem ss_never : PS X st (lS X.K fun _ _ => .bad) := ps_never.weak fun D σ H ⟨ρ, s, h, S, R, po⟩ => po
theorem asg_read {ws : List Nat} {fg : PV → PSt → PH → Out PSt} {D : Ends} {σ : L2.St} {H : Hp} (q : lS X.K (fun s h => (fe s h).sbnd fun v h => (fg v s h).sbnd fun s h => .nx s h) D σ H) : tAsg (lE X.K fe) (lT X.K ws fg) D σ H := by
  obtain ⟨ρ, s, h, S, R, po⟩ := q
  refine lE.sfirst S R po fun v ρ' H' h' u x S' R' ru po' => ⟨ρ', s, h', v, S', R', ru, ?_⟩
  obtain ⟨s2, h2, e2, po2⟩ := po'.okOf
  rw [e2]
  exact fun ρ2 H2 x2 S2 σ2 R2 _ => po2 ρ2 H2 σ2 x2 S2 R2
theorem ss_asg {ws : List Nat} {tg : Expr} {fg : PV → PSt → PH → Out PSt} (he : PE X e (lE X.K fe)) (hg : PG X tg (lT X.K ws fg)) (hs : swapsWithSole [tg] e pos.line X.env = pure false) (hw : swappedStores [tg] e X.env = pure none)
    (h1 : (assignEach [tg] X.env).map (·.2) = [assign tg X.env]) : PS X (.Assign [tg] e pos) (lS X.K fun s h => (fe s h).sbnd fun v h => (fg v s h).sbnd fun s h => .nx s h) :=
  (ps_asg he hg hs hw h1).weak fun D σ H q => asg_read q
theorem ss_if (hc : PT X c (lB X.K gc)) (ha : PSs X a (lS X.K f)) (hb : PSs X b (lS X.K g)) : PS X (.If c a b pos) (lS X.K fun s h => (gc s h).sbnd fun k h => if k = true then f s h else g s h) :=
  (ps_if hc ha hb).weak fun D σ H ⟨ρ, s, h, S, R, po⟩ => lB.sfirst S R po fun k ρ' H' h' x S' R' po' => by
    cases k with
    | true => rw [if_pos rfl] at po'; exact iteT ⟨ρ', s, h', S', R', po'⟩
    | false => rw [if_neg Bool.false_ne_true] at po'; exact iteF ⟨ρ', s, h', S', R', po'⟩
theorem sss_nil : PSs X [] (lS X.K fun s h => .nx s h) := pss_nil.weak fun D σ H ⟨ρ, s, h, S, R, po⟩ => po ρ H σ .refl S R
theorem sss_cons (h1 : PS X st (lS X.K f)) (h2 : PSs X sts (lS X.K g)) : PSs X (st :: sts) (lS X.K fun s h => match f s h with
    | .nx s h => g s h
    | o => o) :=
  (pss_cons h1 h2).weak fun D σ H ⟨ρ, s, h, S, R, po⟩ => by
    refine ⟨ρ, s, h, S, R, ?_⟩
    dsimp only at po
    cases e : f s h with
    | nx s' h' =>
      rw [e] at po
      exact fun ρ' H' σ' x S' R' => ⟨ρ', s', h', S', R', PostS.ext (o := g s' h') po x⟩
    | rt v h' => rw [e] at po; exact po
    | bk s' h' => rw [e] at po; exact po
    | ct s' h' => rw [e] at po; exact po
    | exc _ _ => rw [e] at po; exact po
    | bad => rw [e] at po; exact po
/-! x op= e -/
theorem ip_all {op : Operator} (hop : op = .Add ∨ op = .Sub ∨ op = .BitOr ∨ op = .Mult) : PIp X op (fun x y H Q => ∃ ρ h p q, Sim X.K ρ h H ∧ RepV X.K ρ H p x ∧ RepV X.K ρ H q y ∧ PostV X.K ρ H (match p, q with
      | .int _, .int _ => binF op p q h
      | .str _, .str _ => binF op p q h
      | _, _ => .bad) Q) := by
  intro pins s σ H x y v u Q I rx ry h
  obtain ⟨ρ, h, p, q, S, rp, rq, po⟩ := h
  split at po <;> try exact po.elim
  · cases rp; cases rq
    rcases hop with rfl | rfl | rfl | rfl
    · exact iop_add pins s σ H _ _ v u Q I rx ry ⟨_, _, rfl, rfl, PostV.now po S (.int _)⟩
    · exact iop_sub pins s σ H _ _ v u Q I rx ry ⟨_, _, rfl, rfl, PostV.now po S (.int _)⟩
    · exact iop_or pins s σ H _ _ v u Q I rx ry ⟨_, _, rfl, rfl, PostV.now po S (.int _)⟩
    · simp only [binF] at po
      split at po <;> try exact po.elim
      rename_i hz
      refine iop_mul pins s σ H _ _ v u Q I rx ry ⟨_, _, rfl, rfl, ?_, PostV.now po S (.int _)⟩
      rcases hz with hz | hz
      · exact .inl (by constructor <;> omega)
      · exact .inr (by constructor <;> omega)
  · cases rp; cases rq
    rcases hop with rfl | rfl | rfl | rfl
    · simp only [binF] at po
      split at po <;> try exact po.elim
      exact iop_add_str pins s σ H _ _ v u Q I rx ry ⟨_, _, rfl, rfl, by assumption, PostV.now po S (.str _)⟩
    · exact po.elim
    · exact po.elim
    · exact po.elim
theorem ss_aug {i : Nat} {x : Str} {op : Operator} {p : Pos} (hop : op = .Add ∨ op = .Sub ∨ op = .BitOr ∨ op = .Mult) (hN : X.N.Nodup) (hi : X.N[i]? = some x) (hx : Loc X.env.scope x) (hf : X.fn x = true ∨ X.env.scope.names.lookup x = some .local) (he : PE X e (lE X.K fe)) :
    PS X (.AugAssign (.Name x p) op e pos) (lS X.K fun s h => (slot s i h).sbnd fun x h => (fe s h).sbnd fun y h => (match x, y with
      | .int _, .int _ => binF op x y h
      | .str _, .str _ => binF op x y h
      | _, _ => Out.bad).sbnd fun z h => .nx (s.set i (some z)) h) :=
  (ps_aug hN hi hx he (ip_all hop) hf).weak fun D σ H ⟨ρ, s, h, S, R, po⟩ => by
    obtain ⟨v, h', e1, po1⟩ := po.okOf
    unfold slot at e1
    split at e1 <;> try (cases e1; done)
    rename_i v0 e0
    cases e1
    obtain ⟨u, hu, ru⟩ := R.2 i v e0
    refine ⟨u, hu, lE.sfirst S R po1 fun w ρ' H' h' z x S' R' rz po' => ?_⟩
    refine ⟨ρ', h', v, w, S', ru.ext x, rz, ?_⟩
    obtain ⟨t, h2, e2, po2⟩ := po'.okOf
    rw [e2]
    exact fun ρ2 H2 x2 S2 T rT => po2 ρ2 H2 _ x2 S2 ((R'.ext x2).set rT i)

/-! ### loops -/
theorem ss_whl {body : List Stmt} (hxe : X.xe = fun _ _ => False) (hc : PT X c (lB X.K gc)) (hb : PSs X body (lS X.K f)) (n : Nat) : PS X (.While c body [] pos) (lS X.K (whl gc f n)) := by
  have hp : PassesOwn (model X.prog X.w) X.A X.env X.xe := by rw [hxe]; exact .never
  refine (ps_while hp hc hb).weak fun D σ H q => ⟨fun m σ H => lS X.K (whl gc f m) D σ H, ⟨n, q⟩, fun m σ H q => ?_⟩
  obtain ⟨ρ, s, h, S, R, po⟩ := q
  cases m with
  | zero => exact (show False from po).elim
  | succ m =>
    unfold whl at po
    refine lB.sfirst S R po fun k ρ' H' h' x S' R' po' => ?_
    cases k with
    | false =>
      rw [if_neg Bool.false_ne_true] at po'
      exact iteF (po' ρ' H' σ .refl S' R')
    | true =>
      rw [if_pos rfl] at po'
      refine iteT ⟨fun σ' H' => lS X.K (whl gc f m) D σ' H', fun σ' H' q => ⟨m, Nat.lt_succ_self m, q⟩, ρ', s, h', S', R', ?_⟩
      cases e : f s h' with
      | nx s2 h2 => rw [e] at po'; exact fun ρ2 H2 σ2 x2 S2 R2 => ⟨ρ2, s2, h2, S2, R2, PostS.ext (o := whl gc f m s2 h2) po' x2⟩
      | ct s2 h2 => rw [e] at po'; exact fun ρ2 H2 σ2 x2 S2 R2 => ⟨ρ2, s2, h2, S2, R2, PostS.ext (o := whl gc f m s2 h2) po' x2⟩
      | bk s2 h2 => rw [e] at po'; exact po'
      | rt v h2 => rw [e] at po'; exact po'
      | exc _ _ => rw [e] at po'; exact po'
      | bad => rw [e] at po'; exact po'
theorem ss_for {tg iter : Expr} {body : List Stmt} {ws : List Nat} {fi : PSt → PH → Out MP.Itr} {fg : PV → PSt → PH → Out PSt} (hxe : X.xe = fun _ _ => False) (hc : X.calm = true) (hi : PI X tg iter (lI X.K fi)) (hg : PG X tg (lT X.K ws fg)) (hb : PSs X body (lS X.K f))
    (hs : ∀ x, foldedSetIterable iter X.env x = pure x) : PS X (.For tg iter body [] pos) (lS X.K fun s h => (fi s h).sbnd fun r h => forI fg f r r.fuel 0 s h) := by
  have hp : PassesOwn (model X.prog X.w) X.A X.env X.xe := by rw [hxe]; exact .never
  refine (ps_for hp hc hi hg hb hs).weak fun D σ H q => ?_
  obtain ⟨ρ, s, h, S, R, po⟩ := q
  refine ⟨ρ, s, h, S, R, ?_⟩
  obtain ⟨it, h1, e1, po1⟩ := po.okOf
  rw [e1]
  intro ρ1 H1 x1 S1 J wk
  refine ⟨fun i m σ H => ∃ ρ s h, Ext X.K ρ1 H1 ρ H ∧ Sim X.K ρ h H ∧ RepSt X.K ρ H s σ ∧ PostS X.K ρ H (forI fg f it m i s h) D, ⟨it.fuel, ρ1, s, h1, .refl, S1, R.ext x1, po1.ext x1⟩, ?_⟩
  rintro i m σ2 H2 ⟨ρ2, s2, h2, x2, S2, R2, po2⟩
  cases m with
  | zero => exact (show False from po2).elim
  | succ m =>
    unfold forI at po2
    obtain ⟨wstop, wgo⟩ := wk ρ2 h2 H2 i x2 S2
    cases es : itStep it i h2 with
    | none => rw [es] at po2; exact (show False from po2).elim
    | some o =>
      rw [es] at po2
      cases o with
      | none => exact .inl ⟨wstop es, po2 ρ2 H2 σ2 .refl S2 R2⟩
      | some p =>
        obtain ⟨go, yl⟩ := wgo p es
        refine .inr ⟨go, _, fun σ' H' n => ⟨m, Nat.lt_succ_self m, n⟩, fun x H3 hy => ?_⟩
        obtain ⟨x3, S3, rp⟩ := yl x H3 hy
        obtain ⟨s4, h4, e4, po4⟩ := (show PostS X.K ρ2 H2 ((fg p s2 h2).sbnd _) D from po2).okOf
        refine ⟨ρ2, s2, h2, p, S3, R2.ext x3, rp, ?_⟩
        rw [e4]
        intro ρ4 H4 x4 S4 σ4 R4 _
        have x24 := x3.trans x4
        have po4 := po4.ext x24
        refine ⟨ρ4, s4, h4, S4, R4, ?_⟩
        cases e : f s4 h4 with
        | nx s5 h5 => rw [e] at po4; exact fun ρ5 H5 σ5 x5 S5 R5 => ⟨ρ5, s5, h5, (x2.trans x24).trans x5, S5, R5, PostS.ext (o := forI fg f it m (i + 1) s5 h5) po4 x5⟩
        | ct s5 h5 => rw [e] at po4; exact fun ρ5 H5 σ5 x5 S5 R5 => ⟨ρ5, s5, h5, (x2.trans x24).trans x5, S5, R5, PostS.ext (o := forI fg f it m (i + 1) s5 h5) po4 x5⟩
        | bk s5 h5 => rw [e] at po4; exact po4
        | rt v h5 => rw [e] at po4; exact po4
        | exc _ _ => rw [e] at po4; exact po4
        | bad => rw [e] at po4; exact po4
/-- y = [..] on one line -/
theorem ss_setLc {i : Nat} {y : Str} {py : Pos} {elt tg iter : Expr} {ifs : List Expr} {scope : Scope} {own : List (Str × Nat)} {spos : Pos} {fi : PSt → PH → Out MP.Itr} {fg : PV → PSt → PH → Out PSt} {ft : PSt → PH → Out Bool} {ws : List Nat}
    (hc : X.calm = true) (hN : X.N.Nodup) (hy : X.N[i]? = some y) (hyl : X.env.scope.names.lookup y = some .local) (hsw : swapsWith (.ListComp elt [⟨tg, iter, ifs, 0⟩] scope pos) (some (.Name y py)) spos.line X.env = pure true)
    (hi : PI X tg iter (lI X.K fi)) (ok : BlkOk X.N X.env.scope scope own) (hw : ∀ w ∈ ws, w ∈ own.map (·.2))
    (hg : ∀ (s : Shared) (H : Hp) (C : Addr) (cl : List (Str × Addr)) (fp : List Addr), PG (X.blk s H scope (compEnvC scope cl C X.env) fp) tg (lT X.K ws fg)) (ht : ∀ (s : Shared) (H : Hp) (C : Addr) (cl : List (Str × Addr)) (fp : List Addr), PTs (X.blk s H scope (compEnvC scope cl C X.env) fp) ifs (lB X.K ft))
    (he : ∀ (s : Shared) (H : Hp) (C : Addr) (cl : List (Str × Addr)) (fp : List Addr), PE (X.blk s H scope (compEnvC scope cl C X.env) fp) elt (lE X.K fe)) (hs : ∀ x, foldedSetIterable iter X.env x = pure x) :
    PS X (.Assign [.Name y py] (.ListComp elt [⟨tg, iter, ifs, 0⟩] scope pos) spos) (lS X.K fun s h => ((fi s h).bnd fun r h => (each (lcTurn fg ft fe (own.map (·.2)) s) r [] h).bnd fun acc h => new (.lst acc) h).sbnd fun v h => .nx (s.set i (some v)) h) :=
  (ps_setLc hc hN hy hyl hsw hi ok hg ht he hs).weak fun D σ H q => by
    obtain ⟨ρ, s, h, S, R, po⟩ := q
    refine lc_read hw ⟨ρ, s, h, S, R, ?_⟩
    obtain ⟨v, h', e, po'⟩ := po.okOf
    have e : ((fi s h).bnd fun r h => (each (lcTurn fg ft fe (own.map (·.2)) s) r [] h).bnd fun acc h => new (.lst acc) h) = .ok v h' := e
    show PostG _ _ _ ((fi s h).bnd fun r h => (each (lcTurn fg ft fe (own.map (·.2)) s) r [] h).bnd fun acc h => new (.lst acc) h) _
    rw [e]
    exact fun ρ' H' x S' V rV => po' ρ' H' _ x S' ((R.ext x).set rV i)

/-! ### calls of own defs -/
def spOf (K : Fg) (n : Nat) (g : List PV → PH → Out PV) : Sp := fun vs H Q _ => vs.length = n ∧ lC K g vs H Q
/-- where a def stands, and what it does -/
structure FnAt (X : Cx) (k : Nat) (f : Str) (g : List PV → PH → Out PV) : Prop where
  ex : ∃ (fa : Addr) (fd : FuncData) (ps : List Str), X.mg f = some (.ref fa) ∧ PySem.W.keepIn X.K (.ref fa) = true ∧ Binds X.K fd ps [] ∧ FnOk X.prog X.w X.K X.mg X.base CX0 k fa fd ps (spOf X.K ps.length g) ∧ ∀ xs h v h', g xs h = .ok v h' → xs.length = ps.length
theorem se_call {x : Str} {k : Nat} {g : List PV → PH → Out PV} {es : List Expr} {fs : PSt → PH → Out (List PV)} {p : Pos} (F : FnAt X k x g) (hr : Room k X.A) (hg : Gl X x) (hdb : (x == ("__debug__" : Str)) = false) (ha : PA X es (lA X.K fs))
    (he : ∀ a t, es = a :: t → starEach (a :: t) X.env = (false, eval a X.env) :: starEach t X.env) (hpl : ∀ a t, es = a :: t → (backTo pos (starEach t X.env)).any (·.1) = false) (hnil : es = [] → ∀ s h, fs s h = .ok [] h) :
    PE X (.Call (.Name x p) es [] pos) (lE X.K fun s h => (fs s h).bnd fun xs h => g xs h) := by
  obtain ⟨fa, fd, ps, hm, hk, hb, G, hlen⟩ := F.ex
  cases es with
  | nil =>
    refine (pe_call0 (E := E0) G hr hg hm hk hb .nil pass0 hdb).weak fun σ H Q ⟨ρ, s, h, S, R, po⟩ => ?_
    have po : PostV X.K ρ H (g [] h) Q := by
      have po := po
      simp only [hnil rfl] at po
      exact po
    obtain ⟨v, h', e⟩ : ∃ v h', g [] h = .ok v h' := by
      cases e : g [] h with
      | ok v h' => exact ⟨v, h', rfl⟩
      | exc _ _ => rw [e] at po; exact po.elim
      | bad => rw [e] at po; exact po.elim
    exact ⟨hlen _ _ _ _ e, ρ, h, [], S, .nil, po⟩
  | cons a t =>
    refine (pe_call (E := E0) G hr hg hm hk hb .nil pass0 ha hdb (he a t rfl) (hpl a t rfl)).weak fun σ H Q ⟨ρ, s, h, S, R, po⟩ => ?_
    refine lA.first S R po fun v ρ1 H1 h1 u x1 S1 R1 e1 ru po1 => ?_
    obtain ⟨w, h', e⟩ : ∃ w h', g v h1 = .ok w h' := by
      cases e : g v h1 with
      | ok w h' => exact ⟨w, h', rfl⟩
      | exc _ _ => rw [e] at po1; exact po1.elim
      | bad => rw [e] at po1; exact po1.elim
    refine ⟨?_, ρ1, h1, v, S1, ?_, po1⟩
    · rw [List.append_nil, ← ru.length]; exact hlen _ _ _ _ e
    · rw [List.append_nil]; exact ru
end
end MP

set_option Elab.async false
set_option linter.all false
set_option maxRecDepth 100000
set_option maxHeartbeats 1000000
namespace MP
open PySem PySem.Spec PyProof.Rows L2

/-! ### displays of dicts -/
section
variable {K : Fg} {ρ : List Addr} {H : Hp}
inductive RepPs (K : Fg) (ρ : List Addr) (H : Hp) : List (PV × PV) → List (V × V) → Prop
  | nil : RepPs K ρ H [] []
  | cons {a b : PV} {x y : V} {r : List (PV × PV)} {t : List (V × V)} : RepV K ρ H a x → RepV K ρ H b y → RepPs K ρ H r t → RepPs K ρ H ((a, b) :: r) ((x, y) :: t)
theorem RepPs.keys : ∀ {ps : List (PV × PV)} {us : List (V × V)}, RepPs K ρ H ps us → (ps.all fun p => isKey p.1) = true → ∃ kvs : List (L2.Key × V), us = kvs.map (fun kv => (kV kv.1, kv.2)) ∧ RepKs K ρ H ps kvs ∧ kvs.length = ps.length
  | _, _, .nil, _ => ⟨[], rfl, .nil, rfl⟩
  | _, _, .cons (a := a) ra rb t, e => by
    simp only [List.all_cons, Bool.and_eq_true] at e
    obtain ⟨kvs, e1, e2, e3⟩ := RepPs.keys t e.2
    obtain ⟨kk, ek⟩ := keyOf_some e.1
    refine ⟨(kk, _) :: kvs, ?_, .cons ek rb e2, by simp [e3]⟩
    rw [keyOf_V ek ra, e1]
    rfl
theorem RepKs.all : ∀ {ps : List (PV × PV)} {kvs : List (L2.Key × V)} {acc : List (PV × PV)} {bcc : List (L2.Key × V)}, RepKs K ρ H ps kvs → RepKs K ρ H acc bcc → RepKs K ρ H (ps.foldl (fun a p => dPut a p.1 p.2) acc) (mergeK bcc kvs)
  | _, _, _, _, .nil, q => q
  | _, _, _, _, .cons e r t, q => by
    unfold mergeK
    rw [List.foldl_cons, List.foldl_cons]
    exact RepKs.all t (q.put e r)
end
section
variable {X : Cx} {pos : Pos}
def DispOk (X : Cx) (pos : Pos) (keys : List (Option Expr)) (values : List Expr) (fd : PSt → PH → Out (List (PV × PV))) : Prop :=
  ∃ trs, PPs X pos keys values trs ∧ ∀ ρ s h σ H (Q : List (V × V) → Hp → Prop), Sim X.K ρ h H → RepSt X.K ρ H s σ → PostG X.K ρ H (fd s h) (fun ps ρ' H' => ∀ us, RepPs X.K ρ' H' ps us → Q us H') → tPairs trs σ H Q
theorem disp_nil : DispOk X pos [] [] fun _ h => .ok [] h := ⟨[], pps_nil, fun ρ s h σ H Q S R po => po ρ H .refl S [] .nil⟩
theorem disp_cons {k v : Expr} {ks : List (Option Expr)} {vs : List Expr} {fk fv : PSt → PH → Out PV} {fd : PSt → PH → Out (List (PV × PV))} (hk : PE X k (lE X.K fk)) (hv : PE X v (lE X.K fv)) (hr : DispOk X pos ks vs fd) :
    DispOk X pos (some k :: ks) (v :: vs) fun s h => (fk s h).bnd fun x h => (fv s h).bnd fun y h => (fd s h).bnd fun ps h => .ok ((x, y) :: ps) h := by
  obtain ⟨trs, hp, hq⟩ := hr
  refine ⟨_, pps_cons hk hv hp, fun ρ s h σ H Q S R po => ?_⟩
  refine lE.first S R po fun v ρ1 H1 h1 u x1 S1 R1 e1 ru po1 => lE.first S1 R1 po1 fun w ρ2 H2 h2 z x2 S2 R2 e2 rz po2 => ?_
  refine hq ρ2 s h2 σ H2 _ S2 R2 ((PostG.bnd po2).mono fun ps ρ3 H3 x3 ⟨h3, S3, po3⟩ us r => ?_)
  exact po3 ρ3 H3 .refl S3 _ (.cons ((ru.ext x2).ext x3) (rz.ext x3) r)
theorem se_dic {keys : List (Option Expr)} {values : List Expr} {fd : PSt → PH → Out (List (PV × PV))} (hd : DispOk X pos keys values fd) (hall : keys.all (·.isSome) = true) (hl : keys.length = values.length) (h0 : keys ≠ []) (h15 : keys.length ≤ 15) :
    PE X (.Dict keys values pos) (lE X.K fun s h => (fd s h).bnd fun ps h => if (ps.all fun p => isKey p.1) = true ∧ ps.length ≤ 15 then new (.dic (dAll ps)) h else .bad) := by
  obtain ⟨trs, hp, hq⟩ := hd
  refine (pe_disp hp hall hl h0 h15).weak fun σ H Q ⟨ρ, s, h, S, R, po⟩ => fun p hp => ?_
  have x0 : Ext X.K ρ H ρ (upd H p (.dK [])) := Ext.tuple hp
  have np : p ∉ ρ := fun z => by
    obtain ⟨u, hu, _⟩ := S.tracked z
    rw [hp] at hu; cases hu
  refine hq ρ s h σ _ _ (S.tuple hp) (R.ext x0) ?_
  obtain ⟨ps, h1, e1, po1⟩ := po.okOf
  rw [e1]
  intro ρ1 H1 x1 S1 us rp
  obtain ⟨n1, e2⟩ := x1.notin np upd_same
  split at po1 <;> try exact po1.elim
  rename_i hz
  obtain ⟨kvs, e3, rk, el⟩ := rp.keys hz.1
  refine ⟨e2, kvs, e3, by rw [el]; exact hz.2, ?_⟩
  have m1 : ∀ xs, HO.dK [] ≠ .tup xs := fun _ => nofun
  have m2 : ∀ ob xs, HO.dK [] ≠ .frz ob (.tup xs) ∧ HO.dK [] ≠ .frz ob (.lst xs) := fun _ _ => ⟨nofun, nofun⟩
  have x2 := (x0.trans x1).own (o := .dK (mergeK [] kvs)) hp e2 m1 m2 (fun _ _ => nofun)
  have rk' : RepKs X.K ρ1 (upd H1 p (.dK (mergeK [] kvs))) (dAll ps) (mergeK [] kvs) := (RepKs.all rk .nil).mono (fun _ _ e => e) fun _ _ q => SqI.upd_old e2 m1 m2 q
  exact po1 (ρ1 ++ [p]) _ (x2.adopt hp) ((S1.own n1 e2 m1 m2).adopt n1 ⟨_, upd_same, rk'⟩) _ (.ref (push_at S1 p))
theorem se_dic0 : PE X (.Dict [] [] pos) (lE X.K fun s h => new (.dic []) h) :=
  pe_dnewK.weak fun σ H Q ⟨ρ, s, h, S, R, po⟩ => PostV.new po S fun a ha => ⟨[], upd_same, .nil⟩
end
end MP

set_option Elab.async false
set_option linter.all false
set_option maxRecDepth 100000
set_option maxHeartbeats 1000000
namespace MP
open PySem PySem.Spec PyProof.Rows L2

/-! ### x in d.values() -/
theorem entry_ci : entryFor table "proto.contains_iter" = some Builtin.«proto.contains_iter» := entryFor_of_fast (by kernel_rfl)
theorem plain_ci : plainId "proto.contains_iter" = true := by decide +kernel
theorem no_contains : typeLookup (.type "dict_values") "__contains__" = pure none := by rw [typeLookup_type, builtinLookup_eq_fast]; kernel_rfl
section
variable {prog : Program} {w : World} {κ : Type} [DecidableEq κ] {knd : KeyKind prog w κ} {A : Around}
theorem code_ci {it d : Addr} {ep : Nat} {kvs : List (κ × Value)} {xi : Int} {xt : Tok} {ns : List Int} {R : Result → Shared → Prop} (hh : A.handled = none) (hne : d ≠ it) (hl : ns.length = kvs.length)
    (hv : ∀ (i : Nat) (n : Int), ns[i]? = some n → ∃ k t, kvs[i]? = some (k, .int n t)) : ∀ (m i : Nat) (s : Shared), kvs.length - i = m → s.heap.IsValIter it d i kvs.length ep → s.heap.DictAt knd d kvs ep →
    (∀ h', Heap.ExtBut it s.heap h' → R (.ok (.ret (.bool (decide (xi ∈ ns.drop i))))) { s with heap := h' }) → codeAny (model prog w) A (.builtin "proto.contains_iter" ⟨[.ref it, .int xi xt], []⟩) R s := by
  intro m
  induction m with
  | zero =>
    intro i s hm hit hd hR
    refine codeAny_builtin entry_ci ?_
    rw [Around.under_plainId plain_ci]
    unfold Builtin.«proto.contains_iter»
    refine wpAny_bind (wpAny_pyNext_values_end (A := A.in1) hh hit hd (List.getElem?_eq_none (by omega)) fun h' hx => ?_)
    refine wpAny_bind (wpAny_rule ?_)
    have := hR h' hx
    rw [List.drop_eq_nil_of_le (by omega)] at this
    exact wpAny_pure this
  | succ m ih =>
    intro i s hm hit hd hR
    have hi : i < ns.length := by omega
    obtain ⟨k, t, hk⟩ := hv i ns[i] (List.getElem?_eq_getElem hi)
    refine codeAny_builtin entry_ci ?_
    rw [Around.under_plainId plain_ci]
    unfold Builtin.«proto.contains_iter»
    refine wpAny_bind (wpAny_pyNext_values_item (A := A.in1) hit hd hk fun h' hit' sb => ?_)
    have hx : Heap.ExtBut it s.heap h' := fun b o hb e => (sb.2 b hb).trans e
    rw [List.drop_eq_getElem_cons hi] at hR
    refine wpAny_bind (wpAny_eqBool_int ?_)
    by_cases e : ns[i] = xi
    · rw [if_pos (by simpa using e)]
      refine wpAny_bind (wpAny_rule ?_)
      have := hR h' hx
      rw [show decide (xi ∈ ns[i] :: ns.drop (i + 1)) = true from decide_eq_true (List.mem_cons.mpr (.inl e.symm))] at this
      exact wpAny_pure this
    · rw [if_neg (by simpa using e)]
      refine wpAny_pure ⟨plainId_quiet plain_ci _, ih (i + 1) _ (by omega) hit' (hd.extBut hx hne) fun h2 hx2 => ?_⟩
      have := hR h2 fun b o hb e => hx2 b o hb (hx b o hb e)
      rw [show decide (xi ∈ ns[i] :: ns.drop (i + 1)) = decide (xi ∈ ns.drop (i + 1)) from decide_eq_decide.mpr (List.mem_cons.trans (or_iff_right (Ne.symm e)))] at this
      exact this
theorem contains_values {E : Value → Shared → Prop} {v d : Addr} {ep : Nat} {kvs : List (κ × Value)} {xi : Int} {xt : Tok} {ns : List Int} {Q : Bool → Shared → Prop} {s : Shared} (hh : A.handled = none) (hl : ns.length = kvs.length)
    (hv : ∀ (i : Nat) (n : Int), ns[i]? = some n → ∃ k t, kvs[i]? = some (k, .int n t)) (hV : s.heap.IsValuesView v d) (hd : s.heap.DictAt knd d kvs ep)
    (hQ : ∀ h', (∀ b o, s.heap.get? b = some o → h'.get? b = some o) → Q (decide (xi ∈ ns)) { s with heap := h' }) : wpAny (model prog w) A (contains (.ref v) (.int xi xt)) Q E s := by
  unfold contains
  refine wpAny_holding ?_
  rw [stdlibNamesSay?_of_typeIs hV.typeIs]
  refine wpAny_bind (wpAny_specialOf hV.typeIs no_contains ?_)
  show wpAny _ _ (if (none == some Value.none) = true then _ else _) _ _ s
  rw [if_neg (by simp)]
  refine wpAny_bind ?_
  unfold callSpecialUnlessNone?
  refine wpAny_bind (wpAny_specialOf hV.typeIs no_contains (wpAny_pure ?_))
  refine wpAny_bind (wpAny_rule ?_)
  refine wpAny_bind ?_
  refine wpAny_tryCatch (wpAny_pyIter_values hV hd ?_)
  have hlt : d < s.heap.objs.size := hd.lt_size
  refine wpAny_bind (wpAny_runValue (code_ci (knd := knd) (kvs := kvs) (d := d) (ep := ep) (ns := ns) hh (Nat.ne_of_lt hlt) hl hv _ 0 _ rfl ⟨_, Heap.get?_push_size _ rfl, rfl, rfl⟩ (hd.push _) fun h' hx => ?_))
  refine wpAny_pure (hQ h' fun b o e => hx b o (Nat.ne_of_lt (Heap.lt_size e)) (Heap.get?_push_of_some _ e))
end
section
variable {X : Cx} {a e : Expr} {fa fe : PSt → PH → Out PV} {pos cpos apos : Pos}
theorem RepKs.ints {K : Fg} {ρ : List Addr} {H : Hp} : ∀ {kvs : List (PV × PV)} {ks : List (L2.Key × V)} {ns : List Int}, RepKs K ρ H kvs ks → intsOf (kvs.map (·.2)) = some ns → ks.map (·.2) = ns.map V.int
  | _, _, ns, .nil, e => by simp [intsOf] at e; subst e; rfl
  | (_, p) :: r, _, ns, .cons _ q t, e => by
    cases p <;> simp only [List.map_cons, intsOf, reduceCtorEq] at e
    obtain ⟨l, e1, e2⟩ := Option.map_eq_some_iff.mp e
    subst e2
    cases q
    simp only [List.map_cons, RepKs.ints t e1]
theorem kv_ints {ks : List (L2.Key × V)} {vs : List (L2.Key × Value)} {ns : List Int} (h : KV ks vs) (e : ks.map (·.2) = ns.map V.int) : ns.length = vs.length ∧ ∀ (i : Nat) (n : Int), ns[i]? = some n → ∃ k t, vs[i]? = some (k, .int n t) := by
  have l1 : ks.length = vs.length := Paired.length h
  have l2 : ks.length = ns.length := by simpa using congrArg List.length e
  refine ⟨by omega, fun i n hn => ?_⟩
  have hi : (ks.map (·.2))[i]? = some (V.int n) := by rw [e, List.getElem?_map, hn]; rfl
  rw [List.getElem?_map, Option.map_eq_some_iff] at hi
  obtain ⟨⟨k, x⟩, h1, h2⟩ := hi
  simp only at h2
  subst h2
  obtain ⟨u, hu, t, rfl⟩ := kv_get h h1
  exact ⟨k, t, hu⟩
theorem pc_inv {op : CmpOp} (hc : X.calm = true) (hop : op = .In ∨ op = .NotIn) (ha : PE X a (lE X.K fa)) (he : PE X e (lE X.K fe)) (hbase : attributeBase e "values" X.env (eval e X.env) = eval e X.env) (hline : (apos.endLine == cpos.line) = true) :
    PC X op a (.Call (.Attribute e "values" apos) [] [] cpos) (lE X.K fun s h => (fa s h).bnd fun x h => (fe s h).bnd fun y h => invF (decide (op = .NotIn)) x y h) := by
  refine ⟨fun pins s σ H Q I ⟨ρ, s', h, S, R, po⟩ => ?_⟩
  refine thn (ha.run pins s σ H _ I (lE.first S R po fun v ρ1 H1 h1 u x1 S1 R1 e1 ru po1 => (show (fun (x : V) (H1 : Hp) => ∃ ρ1 v h1, Sim X.K ρ1 h1 H1 ∧ RepSt X.K ρ1 H1 s' σ ∧ RepV X.K ρ1 H1 v x ∧ PostV X.K ρ1 H1 ((fe s' h1).bnd fun y h => invF (decide (op = .NotIn)) v y h) Q) u H1 from ⟨ρ1, v, h1, S1, R1, ru, po1⟩))) fun xv s1 ⟨x, H1, I1, rx, ρ1, v, h1, S1, R1, ru, po1⟩ => ?_
  refine wpAny_Call_method (T := "dict") (id := "dict.values") hbase rfl hline PySem.F.plainAttrs_dict PySem.F.slot_dict_values PySem.F.type_dict_values (thn (he.run pins s1 σ H1 _ I1 (lE.first S1 R1 po1 fun y ρ2 H2 h2 u x2 S2 R2 e2 ry po2 => (show (fun (z : V) (H2 : Hp) => ∃ ρ2 v y h2, Sim X.K ρ2 h2 H2 ∧ RepV X.K ρ2 H2 v x ∧ RepV X.K ρ2 H2 y z ∧ PostV X.K ρ2 H2 (invF (decide (op = .NotIn)) v y h2) Q) u H2 from ⟨ρ2, v, y, h2, S2, ru.ext x2, ry, po2⟩))) fun uv s2 ⟨z, H2, I2, rz, ρ2, v2, y, h2, S2, rv2, ry, po2⟩ => ?_)
  unfold invF at po2
  split at po2 <;> try exact po2.elim
  rename_i i l
  split at po2 <;> try exact po2.elim
  rename_i kvs hl
  split at po2 <;> try exact po2.elim
  rename_i ns hns
  cases rv2
  cases ry with
  | @ref _ d ea =>
    obtain ⟨o, ks, eD, rK⟩ := S2.lck hl ea
    obtain ⟨xt, rfl⟩ := rx
    obtain rfl : uv = Value.ref d := rz
    obtain ⟨hs, hgd, hx, es, ep, vs, hdt, hsz, kv, hm⟩ := I2.frzK eD
    obtain ⟨kl, kg⟩ := kv_ints kv (rK.ints hns)
    refine ⟨hm.dictOf.typeIs, hm.dictOf.mapOf.noDict, ?_⟩
    have fin : wpAny (model X.prog X.w) X.A (contains (.ref s2.heap.objs.size) (.int i xt)) (fun b s' => b = decide (i ∈ ns) ∧ Inv X pins σ H2 s') X.xe { s2 with heap := s2.heap.push { cls := .type "dict_values", data := .fields #[.ref d] } } :=
      contains_values (knd := mixKind X.prog X.w) (I2.ok.hd hc) kl kg ⟨_, Heap.get?_push_size _ rfl, rfl, rfl⟩ (hm.push _) fun h' k => ⟨rfl, I2.kept (t' := s2.toks) fun b ob q => k b ob (Heap.get?_push_of_some _ q)⟩
    have fin2 : wpAny (model X.prog X.w) X.A (compareOp op (.int i xt) (.ref s2.heap.objs.size)) (EP X pins σ Q) X.xe { s2 with heap := s2.heap.push { cls := .type "dict_values", data := .fields #[.ref d] } } := by
      rcases hop with rfl | rfl
      · show wpAny _ _ (do return Value.bool (← contains _ _)) _ _ _
        exact wpAny_bind (thn fin fun b s' ⟨eb, I'⟩ => wpAny_pure ⟨.bl b, H2, I', rfl, by rw [eb]; exact (show PostV X.K ρ2 H2 (.ok (.bl (decide (CmpOp.In = CmpOp.NotIn) != decide (i ∈ ns))) h2) Q from po2).now S2 (by simpa using RepV.bl _)⟩)
      · show wpAny _ _ (do return Value.bool (!(← contains _ _))) _ _ _
        exact wpAny_bind (thn fin fun b s' ⟨eb, I'⟩ => wpAny_pure ⟨.bl (!b), H2, I', rfl, by rw [eb]; exact (show PostV X.K ρ2 H2 (.ok (.bl (decide (CmpOp.NotIn = CmpOp.NotIn) != decide (i ∈ ns))) h2) Q from po2).now S2 (by simpa using RepV.bl _)⟩)
    show wpAny _ _ (callWith cpos (.builtin "dict.values") [.ref d] [] []) _ X.xe s2
    exact method_meetsIn PySem.F.slot_dict_values PySem.F.entry_dict_values rfl (PySem.evalArgs_none ⟨rfl, hm.dictOf.typeIs, PySem.F.args_dict_values_1 _, _, meets_dict_values (mixKind X.prog X.w) d hs, ⟨vs, hm.dictOf⟩, fin2⟩)
theorem invF_bl {n : Bool} {x y z : PV} {h h' : PH} (e : invF n x y h = .ok z h') : ∃ b, z = .bl b := by
  unfold invF at e
  split at e <;> try (cases e; done)
  split at e <;> try (cases e; done)
  split at e <;> try (cases e; done)
  cases e
  exact ⟨_, rfl⟩
theorem behind_call {op : CmpOp} {f : Expr} {as : List Expr} {ks : List Keyword} {p : Pos} : behindInMarks op (.Call f as ks p) = false := rfl
theorem se_inv {op : CmpOp} (hc : X.calm = true) (hop : op = .In ∨ op = .NotIn) (ha : PE X a (lE X.K fa)) (he : PE X e (lE X.K fe)) (hbase : attributeBase e "values" X.env (eval e X.env) = eval e X.env) (hline : (apos.endLine == cpos.line) = true) :
    PE X (.Compare a [op] [.Call (.Attribute e "values" apos) [] [] cpos] pos) (lE X.K fun s h => (fa s h).bnd fun x h => (fe s h).bnd fun y h => invF (decide (op = .NotIn)) x y h) := pe_cmp (pc_inv hc hop ha he hbase hline) behind_call
theorem st_inv {op : CmpOp} (hc : X.calm = true) (hop : op = .In ∨ op = .NotIn) (ha : PE X a (lE X.K fa)) (he : PE X e (lE X.K fe)) (hbase : attributeBase e "values" X.env (eval e X.env) = eval e X.env) (hline : (apos.endLine == cpos.line) = true) :
    PT X (.Compare a [op] [.Call (.Attribute e "values" apos) [] [] cpos] pos) (lB X.K fun s h => (fa s h).bnd fun x h => (fe s h).bnd fun y h => (invF (decide (op = .NotIn)) x y h).bnd asB) := by
  refine (pt_cmp (pc_inv hc hop ha he hbase hline) behind_call).weak fun σ H Q ⟨ρ, s, h, S, R, po⟩ => ?_
  obtain ⟨x, h1, e1, po1⟩ := po.okOf
  obtain ⟨y, h2, e2, po2⟩ := po1.okOf
  obtain ⟨z, h3, e3, po3⟩ := po2.okOf
  obtain ⟨b, rfl⟩ := invF_bl e3
  refine ⟨ρ, s, h, S, R, ?_⟩
  have ea : ((fa s h).bnd fun x h => (fe s h).bnd fun y h => invF (decide (op = .NotIn)) x y h) = .ok (.bl b) h3 := by
    rw [e1]
    show ((fe s h1).bnd _) = _
    rw [e2]
    exact e3
  show PostV X.K ρ H ((fa s h).bnd fun x h => (fe s h).bnd fun y h => invF (decide (op = .NotIn)) x y h) _
  rw [ea]
  intro ρ' H' x' S' V rV
  cases rV
  exact ⟨b, rfl, po3 ρ' H' x' S'⟩

/-! ### a dict that is walked -/
theorem Ext.unlock {K : Fg} {ρ ρ' : List Addr} {H H' : Hp} {p : Addr} {od : Obj} {u : HO} {ks : List (L2.Key × V)} (hu : u = .dK ks) (hp : H p = some u) (hm : p ∈ ρ) (x : Ext K ρ (upd H p (.frz od u)) ρ' H') (ht : ∀ a xs, SqI K H a xs → SqI K (upd H p (.frz od u)) a xs)
    (ht' : ∀ a xs, SqI K H' a xs → SqI K (upd H' p u) a xs) : Ext K ρ H ρ' (upd H' p u) where
  pre := x.pre
  tup := fun a xs q => ht' a xs (x.tup a xs (ht a xs q))
  frm := fun a o e n => by
    have ne : a ≠ p := fun z => n (z ▸ hm)
    rw [upd_ne ne]
    exact x.frm a o (by rw [upd_ne ne]; exact e) n
  new := fun a e => by
    rcases x.new a e with q | q
    · exact .inl q
    · by_cases z : a = p
      · rw [z, upd_same] at q; cases q
      · rw [upd_ne z] at q; exact .inr q
  lck := fun a o w e => by
    have ne : a ≠ p := fun z => by rw [z, hp, hu] at e; cases e
    rw [upd_ne ne]
    exact x.lck a o w (by rw [upd_ne ne]; exact e)
theorem se_lock {i : Nat} (he : PE X e (lE X.K fe)) : PE X e (lE X.K fun s h => (slot s i h).bnd fun x h => match x with
    | .ref l => (match h[l]? with
      | some (.dic kvs) => (fe s (h.set l (.lck kvs))).bnd fun v h => (match h[l]? with
        | some (.lck kvs) => .ok v (h.set l (.dic kvs))
        | _ => .bad)
      | _ => .bad)
    | _ => .bad) := by
  refine (pe_lock he).weak fun σ H Q ⟨ρ, s, h, S, R, po⟩ => ?_
  obtain ⟨v, h1, ev, po⟩ := po.okOf
  unfold slot at ev
  split at ev <;> cases ev
  rename_i hv
  split at po <;> try exact po.elim
  rename_i l
  split at po <;> try exact po.elim
  rename_i kvs hl
  obtain ⟨u, hu, ru⟩ := R.2 i _ hv
  cases ru with
  | @ref _ d ea =>
    obtain ⟨ks, eD, rK⟩ := S.dic hl ea
    refine ⟨d, .dK ks, eD, True.intro, fun od => ?_⟩
    have t1 : ∀ a xs, SqI X.K H a xs → SqI X.K (upd H d (.frz od (.dK ks))) a xs := set_tup S ea
    have x1 : Ext X.K ρ H ρ (upd H d (.frz od (.dK ks))) := Ext.set S ea (nfD eD)
    have S1 : Sim X.K ρ (h.set l (.lck kvs)) (upd H d (.frz od (.dK ks))) := S.set ea ⟨od, ks, upd_same, rK.ext x1⟩
    refine ⟨ρ, s, h.set l (.lck kvs), S1, R.ext x1, ?_⟩
    obtain ⟨w, h2, e2, po2⟩ := po.okOf
    rw [e2]
    intro ρ2 H2 x2 S2 V rV
    split at po2 <;> try exact po2.elim
    rename_i kvs2 hl2
    have ea2 := x2.pre _ _ ea
    have eL : H2 d = some (.frz od (.dK ks)) := x2.lck d od ks upd_same
    obtain ⟨o2, ks2, eD2, rK2⟩ := S2.lck hl2 ea2
    rw [eL] at eD2
    cases eD2
    have t2 : ∀ a xs, SqI X.K H2 a xs → SqI X.K (upd H2 d (.dK ks)) a xs := set_tup S2 ea2
    have x3 : Ext X.K ρ H ρ2 (upd H2 d (.dK ks)) := Ext.unlock rfl eD (mem_of_get ea) x2 t1 t2
    exact ⟨eL, po2 ρ2 _ x3 (S2.set ea2 ⟨ks, upd_same, rK2.mono (fun _ _ e => e) t2⟩) V (rV.mono (fun _ _ e => e) t2)⟩
theorem wk_keys {K : Fg} {ρ : List Addr} {H : Hp} {d : Addr} {o : Obj} {kvs : List (PV × PV)} {ks : List (L2.Key × V)} (e : H d = some (.frz o (.dK ks))) (r : RepKs K ρ H kvs ks) : Wk K (Itk d o ks) (.vals (kvs.map (·.1))) ρ H := fun ρ' h' H' i x S => by
  have e' := x.lck d o ks e
  have r' := r.ext x
  have rk := r'.keys
  refine ⟨fun ei => ?_, fun p ei => ?_⟩
  · have ei : (kvs.map (·.1))[i]? = none := by simpa [itStep] using ei
    refine ⟨e', ?_⟩
    have := List.getElem?_eq_none_iff.mp ei
    rw [rk.length, List.length_map] at this
    exact this
  · have ei : (kvs.map (·.1))[i]? = some p := by simpa only [itStep, Option.some.injEq] using ei
    obtain ⟨u, hu, ru⟩ := rk.get ei
    rw [List.getElem?_map, Option.map_eq_some_iff] at hu
    obtain ⟨⟨k, v⟩, hk, rfl⟩ := hu
    refine ⟨⟨e', (List.getElem?_eq_some_iff.mp hk).1⟩, fun y H2 hy => ?_⟩
    obtain ⟨rfl, k', v', hk', rfl⟩ := hy
    rw [hk] at hk'
    cases hk'
    exact ⟨.refl, S, ru⟩
theorem si_keys {tg : Expr} (he : PE X e (lE X.K fe)) : PI X tg e (lI X.K fun s h => (fe s h).bnd fun x h => match x with
    | .ref l => (match h[l]? with
      | some (.lck kvs) => .ok (.vals (kvs.map (·.1))) h
      | _ => .bad)
    | _ => .bad) := by
  refine (pi_keys he).weak fun σ H R ⟨ρ, s, h, S, Rs, po⟩ => ?_
  refine lE.first S Rs po fun v ρ1 H1 h1 u x1 S1 R1 e1 ru po1 => ?_
  split at po1 <;> try exact po1.elim
  rename_i l
  split at po1 <;> try exact po1.elim
  rename_i kvs hl
  cases ru with
  | @ref _ d ea =>
    obtain ⟨o, ks, eD, rK⟩ := S1.lck hl ea
    exact ⟨d, o, rfl, .inl ⟨ks, eD, po1.now S1 _ (wk_keys eD rK)⟩⟩

/-! ### isinstance -/
theorem tyP_ok {ρ : List Addr} {H : Hp} {h : PH} (S : Sim X.K ρ h H) {p : PV} {v : V} {t : String} (r : RepV X.K ρ H p v) (e : tyP p h = some t) : TyX X.K H v (.type t) := by
  cases r with
  | non => cases e; exact .base .non
  | bl b => cases e; exact .base (.bl _)
  | int b => cases e; exact .base (.int _)
  | str b => cases e; exact .base (.str _)
  | tup q _ =>
    cases e
    rcases q with (q | ⟨o, q⟩) | ⟨o, its, n, q1, q2, _⟩
    · exact .base (.tup q)
    · exact .fTuple q
    · exact .kTuple q1 q2
  | fro q _ =>
    cases e
    rcases q with ⟨o, q⟩ | ⟨o, its, n, q1, q2, _⟩
    · exact .base (.frz q)
    · exact .kList q1 q2
  | ref ea =>
    unfold tyP at e
    dsimp only at e
    split at e
    · rename_i hl; cases e; obtain ⟨_, e1, _⟩ := S.lst hl ea; exact .base (.lst e1)
    · rename_i hl; cases e; obtain ⟨_, e1, _⟩ := S.dic hl ea; exact .base (.dK e1)
    · rename_i hl; cases e; obtain ⟨_, _, e1, _⟩ := S.lck hl ea; exact .fDict e1
    · cases e
theorem ty_val {f : Bi} {t : String} (e : f.ty = some t) : f.val = .type t := by
  cases f <;> simp [Bi.ty] at e <;> subst e <;> rfl
theorem se_isi {f : Bi} {x : Expr} {p1 p2 pos : Pos} {fx : PSt → PH → Out PV} (ht : f.ty.isSome = true) (hg : Gl X "isinstance") (hm : X.mg "isinstance" = none) (hg2 : Gl X f.name) (hm2 : X.mg f.name = none) (ha : PE X x (lE X.K fx))
    (hs : starEach (x :: [Expr.Name f.name p2]) X.env = (false, eval x X.env) :: starEach [Expr.Name f.name p2] X.env) : PE X (.Call (.Name "isinstance" p1) [x, .Name f.name p2] [] pos) (lE X.K fun s h => (fx s h).bnd fun v h => isiF f v h) := by
  obtain ⟨t, ht⟩ := Option.isSome_iff_exists.mp ht
  have hn : f.name ≠ "__name__" := by cases f <;> decide
  have hd : (f.name == ("__debug__" : Str)) = false := by cases f <;> decide
  have hv := f.boot
  rw [ty_val ht] at hv
  have p2' : PE X (.Name f.name p2) (tC (.ty t)) := pe_bltn hg2 hm2 hv rfl hn hd
  refine (pe_callB call_isi hg hm (by decide +kernel) (pa_cons ha (pa_cons p2' pa_nil rfl) hs) (by decide) (by decide) hs rfl).weak fun σ H Q ⟨ρ, s, h, S, R, po⟩ => ?_
  refine lE.first S R po fun v ρ1 H1 h1 u x1 S1 R1 e1 ru po1 => ?_
  unfold isiF at po1
  split at po1 <;> try exact po1.elim
  rename_i a b ea eb
  split at po1 <;> try exact po1.elim
  rename_i r er
  rw [ht] at eb
  cases eb
  exact ⟨u, .ty t, _, _, r, rfl, .ty t, tyP_ok S1 ru ea, kit_ty er, PostV.now po1 S1 (.bl r)⟩

/-! ### list(range(..)) -/
theorem rg_rep {K : Fg} {ρ : List Addr} {H : Hp} (a b : Int) : RepVs K ρ H (rngI a (b - a).toNat) (rgV a b) := by
  unfold rngI rgV
  generalize List.range (b - a).toNat = l
  induction l with
  | nil => exact .nil
  | cons x r ih => exact .cons (.int _) ih
def tLr (tup : Bool) (a b : Int) (H : Hp) (Q : VK) : Prop := RgOk a b ∧ ∀ q, H q = none → Q (.ref q) (upd H q (if tup = true then .tup (rgV a b) else .lst (rgV a b)))
theorem lr_post {tup : Bool} {a b : Int} {ρ : List Addr} {H : Hp} {h : PH} {Q : VK} (S : Sim X.K ρ h H) (ha : small a = true) (hb : small b = true) (hn : (b - a).toNat ≤ 2 ^ 24)
    (po : PostV X.K ρ H (if tup = true then .ok (.tup (rngI a (b - a).toNat)) h else new (.lst (rngI a (b - a).toNat)) h) Q) : tLr tup a b H Q := by
  have h1 := small_iff ha
  have h2 := small_iff hb
  refine ⟨⟨h1.1, h1.2, h2.1, h2.2, hn⟩, ?_⟩
  cases tup with
  | true => exact PostV.tup po S (rg_rep a b)
  | false => exact PostV.newL po S (rg_rep a b)
theorem pe_lr {tup : Bool} {e : Expr} {te : L2.St → Hp → (Int → Int → Hp → Prop) → Prop} {p pos : Pos} (hc : X.calm = true) {x : Str} (hx : x = if tup = true then ("tuple" : Str) else "list") (hg : Gl X x) (hm : X.mg x = none) (he : PRg X e te)
    (na : starEach [e] X.env = (false, eval e X.env) :: starEach [] X.env) : PE X (.Call (.Name x p) [e] [] pos) (fun σ H Q => te σ H fun a b H1 => tLr tup a b H1 Q) := by
  cases tup with
  | true => subst hx; exact pe_tupRg hc hg hm he na
  | false => subst hx; exact pe_listRg hc hg hm he na
theorem se_lrg1 {tup : Bool} {a : Expr} {fa : PSt → PH → Out PV} {p p2 pos pos2 : Pos} (hc : X.calm = true) {x : Str} (hx : x = if tup = true then ("tuple" : Str) else "list") (hg : Gl X x) (hm : X.mg x = none) (hg2 : Gl X "range") (hm2 : X.mg "range" = none)
    (ha : PE X a (lE X.K fa)) (hs : starEach [a] X.env = (false, eval a X.env) :: starEach [] X.env) : PE X (.Call (.Name x p) [.Call (.Name "range" p2) [a] [] pos2] [] pos) (lE X.K fun s h => (fa s h).bnd fun x h => lrgF tup [x] h) := by
  refine (pe_lr hc hx hg hm (prg_1 hg2 hm2 ha hs) rfl).weak fun σ H Q ⟨ρ, s, h, S, R, po⟩ => ?_
  refine lE.first S R po fun v ρ1 H1 h1 u x1 S1 R1 e1 ru po1 => ?_
  unfold lrgF at po1
  split at po1
  · rename_i n eq
    cases eq
    split at po1 <;> try exact po1.elim
    rename_i hz
    cases ru
    exact ⟨_, rfl, lr_post S1 (by decide) hz.1 (by simpa using hz.2) (by simpa using po1)⟩
  · rename_i eq; cases eq
  · exact po1.elim
theorem se_lrg2 {tup : Bool} {a b : Expr} {fa fb : PSt → PH → Out PV} {p p2 pos pos2 : Pos} (hc : X.calm = true) {x : Str} (hx : x = if tup = true then ("tuple" : Str) else "list") (hg : Gl X x) (hm : X.mg x = none) (hg2 : Gl X "range") (hm2 : X.mg "range" = none)
    (ha : PE X a (lE X.K fa)) (hb : PE X b (lE X.K fb)) (hs : starEach [a, b] X.env = (false, eval a X.env) :: starEach [b] X.env) (hs2 : starEach [b] X.env = (false, eval b X.env) :: starEach [] X.env) (hp : (backTo pos2 (starEach [b] X.env)).any (·.1) = false) :
    PE X (.Call (.Name x p) [.Call (.Name "range" p2) [a, b] [] pos2] [] pos) (lE X.K fun s h => (fa s h).bnd fun x h => (fb s h).bnd fun y h => lrgF tup [x, y] h) := by
  refine (pe_lr hc hx hg hm (prg_2 hg2 hm2 ha hb hs hs2 hp) rfl).weak fun σ H Q ⟨ρ, s, h, S, R, po⟩ => ?_
  refine lE.first S R po fun v ρ1 H1 h1 u x1 S1 R1 e1 ru po1 => ?_
  refine lE.first S1 R1 po1 fun w ρ2 H2 h2 z x2 S2 R2 e2 rz po2 => ?_
  unfold lrgF at po2
  split at po2
  · rename_i eq; cases eq
  · rename_i i j eq
    cases eq
    split at po2 <;> try exact po2.elim
    rename_i hz
    cases ru
    cases rz
    exact ⟨_, _, rfl, rfl, lr_post S2 hz.1 hz.2.1 hz.2.2 po2⟩
  · exact po2.elim
end
end MP

set_option Elab.async false
set_option linter.all false
set_option maxRecDepth 100000
set_option maxHeartbeats 2000000
namespace MP
open PySem PySem.Spec PyProof.Rows L2

/-! ### is the text mine? -/
structure Sc where
  N : List Str
  sc : Scope
  blk : Option Scope
def Sc.inner (g : Sc) (scope : Scope) : Sc := ⟨g.N, relS scope g.sc, some scope⟩
def Sc.fn (g : Sc) (x : Str) : Bool := match g.blk with
  | none => true
  | some s => s.names.lookup x == some .cell
def visB (sc : Scope) (x : Str) : Bool := match sc.names.lookup x with
  | some .local => true
  | some .cell => true
  | some .free => true
  | _ => false
def locB (sc : Scope) (x : Str) : Bool := match sc.names.lookup x with
  | some .local => true
  | some .cell => true
  | _ => false
def isLocal (sc : Scope) (x : Str) : Bool := match sc.names.lookup x with
  | some .local => true
  | _ => false
def glB (sc : Scope) (x : Str) : Bool := match sc.names.lookup x with
  | some .globalImplicit => true
  | _ => false
def nameB (g : Sc) (x : Str) (i : Nat) : Bool := decide (g.N[i]? = some x) && locB g.sc x && (g.fn x || isLocal g.sc x)
def noStar : List Expr → Bool
  | [] => true
  | .Starred _ _ :: _ => false
  | _ :: r => noStar r
def isSlice : Expr → Bool
  | .Slice _ _ _ _ => true
  | _ => false
def isSet : Expr → Bool
  | .Set _ _ _ => true
  | _ => false
def isComp : Expr → Bool
  | .ListComp .. => true
  | .SetComp .. => true
  | .DictComp .. => true
  | _ => false
def okBase : Expr → Bool
  | .Call (.Name id _) [] [] _ => id != "super"
  | _ => true
def plainT : Expr → Bool
  | .UnaryOp .Not _ _ => false
  | .BoolOp _ _ _ => false
  | .IfExp _ _ _ _ => false
  | .Compare _ _ _ _ => false
  | _ => true
def ownOf (N : List Str) (own : List Nat) : List (Str × Nat) := own.map fun i => (N[i]?.getD "", i)
/-- the names of a tuple's target -/
def namesB (g : Sc) : List Nat → List Expr → Bool
  | [], [] => true
  | i :: is, .Name x _ :: es => nameB g x i && namesB g is es
  | _, _ => false
def tgSlots : Tg → List Nat
  | .nm i => [i]
  | .tup is => is
  | _ => []
def invB (neg : Bool) : CmpOp → Bool
  | .In => !neg
  | .NotIn => neg
  | _ => false
mutual
def chkE (g : Sc) : E → Expr → Bool
  | .non, .Constant .none _ _ => true
  | .bl b, .Constant (.bool c) _ _ => b == c
  | .int i, .Constant (.int j) _ _ => decide (i = j)
  | .str x, .Constant (.str y) _ _ => decide (x = y)
  | .var i, .Name x _ => decide (g.N[i]? = some x) && visB g.sc x && !(x == ("__debug__" : Str)) && !(x == ("__classdict__" : Str))
  | .bin op a b, .BinOp l o r _ => decide (op = o) && chkE g a l && chkE g b r
  | .neg a, .UnaryOp .USub x _ => chkE g a x
  | .cmp op a b, .Compare l [o] [r] _ => decide (op = o) && chkE g a l && chkE g b r && !behindInMarks o r
  | .cmp2 op op' a b c, .Compare l [o, o'] [r, t] _ => decide (op = o) && decide (op' = o') && chkE g a l && chkE g b r && chkE g c t && !lastMarks [o, o'] [r, t]
  | .and a b, .BoolOp .And (x :: y :: r) p => chkE g a x && (match r with
    | [] => chkE g b y
    | _ => chkE g b (.BoolOp .And (y :: r) p))
  | .or a b, .BoolOp .Or (x :: y :: r) p => chkE g a x && (match r with
    | [] => chkE g b y
    | _ => chkE g b (.BoolOp .Or (y :: r) p))
  | .not a, .UnaryOp .Not x _ => chkE g a x
  | .ite c a b, .IfExp t x y _ => chkT g c t && chkE g a x && chkE g b y
  | .tup es, .Tuple xs _ _ => noStar xs && chkEs g es xs
  | .lst es, .List xs _ => noStar xs && chkEs g es xs
  | .dic ks, .Dict keys vals _ => (match keys with
    | [] => (match ks, vals with
      | .nil, [] => true
      | _, _ => false)
    | _ => chkKs g ks keys vals && decide (keys.length ≤ 15))
  | .sub a i, .Subscript x y _ => !isSlice y && chkE g a x && chkE g i y
  | .slc a lo hi, .Subscript x (.Slice l h none _) _ => chkE g a x && chkP g lo l && chkP g hi h
  | .call f es, .Call (.Name x _) xs [] _ => decide (f = x) && glB g.sc x && !(x == ("__debug__" : Str)) && noStar xs && chkEs g es xs
  | .bi f es, .Call (.Name x _) (y :: xs) [] _ => decide (f.name = x) && glB g.sc x && noStar (y :: xs) && chkEs g es (y :: xs)
  | .mt m o es, .Call (.Attribute oe n apos) xs [] pos => decide (m.name = n) && (apos.endLine == pos.line) && okBase oe && noStar xs && decide (xs.length ≤ 2) && chkE g o oe && chkEs g es xs
  | .lc elt tg it ifs own, .ListComp ee [c] scope _ => (match c.is_async with
    | 0 => blkC g.N g.sc scope (ownOf g.N own) && (tgSlots tg).all (own.contains ·) && chkI g it c.iter && !isSet c.iter && chkG (g.inner scope) tg c.target && chkTs (g.inner scope) ifs c.ifs && chkE (g.inner scope) elt ee
    | _ => false)
  | .dc kx vx tg it ifs own, .DictComp ke ve [c] scope _ => (match c.is_async with
    | 0 => blkC g.N g.sc scope (ownOf g.N own) && (tgSlots tg).all (own.contains ·) && chkI g it c.iter && !isSet c.iter && chkG (g.inner scope) tg c.target && chkTs (g.inner scope) ifs c.ifs && chkE (g.inner scope) kx ke && chkE (g.inner scope) vx ve
    | _ => false)
  | .isi f e, .Call (.Name x _) [y, .Name t _] [] _ => decide (x = ("isinstance" : Str)) && decide (f.name = t) && f.ty.isSome && glB g.sc x && glB g.sc t && noStar [y] && chkE g e y
  | .lock _ e, x => chkE g e x
  | .lrg t es, .Call (.Name x _) [.Call (.Name y _) xs [] _] [] _ => decide (x = if t = true then ("tuple" : Str) else "list") && decide (y = ("range" : Str)) && glB g.sc x && glB g.sc y && noStar xs && (decide (xs.length = 1) || decide (xs.length = 2)) && chkEs g es xs
  | .inv neg a d, .Compare l [o] [.Call (.Attribute de n apos) [] [] cpos] _ => decide (n = ("values" : Str)) && invB neg o && (apos.endLine == cpos.line) && okBase de && chkE g a l && chkE g d de
  | _, _ => false
def chkEs (g : Sc) : Es → List Expr → Bool
  | .nil, [] => true
  | .cons e r, x :: xs => chkE g e x && chkEs g r xs
  | _, _ => false
def chkKs (g : Sc) : Ks → List (Option Expr) → List Expr → Bool
  | .nil, [], [] => true
  | .cons k v r, some x :: xs, y :: ys => chkE g k x && chkE g v y && chkKs g r xs ys
  | _, _, _ => false
def chkT (g : Sc) : T → Expr → Bool
  | .e c, x => plainT x && chkE g c x
  | .and a b, .BoolOp .And (x :: y :: r) p => chkT g a x && (match r with
    | [] => chkT g b y
    | _ => chkT g b (.BoolOp .And (y :: r) p))
  | .or a b, .BoolOp .Or (x :: y :: r) p => chkT g a x && (match r with
    | [] => chkT g b y
    | _ => chkT g b (.BoolOp .Or (y :: r) p))
  | .not a, .UnaryOp .Not x _ => chkT g a x
  | .cmp op a b, .Compare l [o] [r] _ => decide (op = o) && chkE g a l && chkE g b r && !behindInMarks o r
  | .cmp2 op op' a b c, .Compare l [o, o'] [r, t] _ => decide (op = o) && decide (op' = o') && chkE g a l && chkE g b r && chkE g c t && !lastMarks [o, o'] [r, t]
  | .inv neg a d, .Compare l [o] [.Call (.Attribute de n apos) [] [] cpos] _ => decide (n = ("values" : Str)) && invB neg o && (apos.endLine == cpos.line) && okBase de && chkE g a l && chkE g d de
  | _, _ => false
def chkTs (g : Sc) : Ts → List Expr → Bool
  | .nil, [] => true
  | .cons t r, [x] => chkT g t x && (match r with
    | .nil => true
    | _ => false)
  | _, _ => false
def chkP (g : Sc) : Pt → Option Expr → Bool
  | .none, none => true
  | .some e, some x => chkE g e x
  | _, _ => false
def chkI (g : Sc) : It → Expr → Bool
  | .ex e, x => chkE g e x
  | .keys e, x => chkE g e x
  | .rng es, .Call (.Name x _) xs [] _ => decide (x = ("range" : Str)) && glB g.sc x && noStar xs && (decide (xs.length = 1) || decide (xs.length = 2)) && chkEs g es xs
  | _, _ => false
def chkG (g : Sc) : Tg → Expr → Bool
  | .nm i, .Name x _ => nameB g x i
  | .tup is, .Tuple es _ _ => namesB g is es
  | .sub o i, .Subscript x y _ => chkE g o x && chkE g i y && !isSlice y
  | _, _ => false
end
/-- a comprehension that is stored at once on its line -/
def atOnce (sc : Scope) (v tg : Expr) : Bool := match v, tg with
  | .ListComp _ _ s p, .Name t q => isLocal sc t && (q.line == p.line) && !(s.names.any fun (n, k) => n == t && (k == .local || k == .cell))
  | .SetComp _ _ s p, .Name t q => isLocal sc t && (q.line == p.line) && !(s.names.any fun (n, k) => n == t && (k == .local || k == .cell))
  | .DictComp _ _ _ s p, .Name t q => isLocal sc t && (q.line == p.line) && !(s.names.any fun (n, k) => n == t && (k == .local || k == .cell))
  | _, _ => false
def twoTuples : Expr → Expr → Bool
  | .Tuple _ _ _, .Tuple _ _ _ => true
  | .List _ _, .Tuple _ _ _ => true
  | _, _ => false
def opOk : Operator → Bool
  | .Add => true | .Sub => true | .BitOr => true | .Mult => true | _ => false
def isLc : E → Bool
  | .lc .. => true
  | _ => false
def isStarE : Expr → Bool
  | .Starred .. => true
  | _ => false
mutual
def chkS (g : Sc) : S → Stmt → Bool
  | .pass, .Pass _ => true
  | .brk, .Break _ => true
  | .cont, .Continue _ => true
  | .retN, .Return none _ => true
  | .ret e, .Return (some x) _ => chkE g e x
  | .ex e, .Expr x _ => chkE g e x && !isComp x
  | .asg t e, .Assign [tg] v _ => chkG g t tg && chkE g e v && !twoTuples tg v && (match atOnce g.sc v tg with
    | false => true
    | true => isLc e)
  | .aug i op e, .AugAssign (.Name x _) o v _ => decide (op = o) && opOk o && nameB g x i && chkE g e v
  | .ite c a b, .If t x y _ => chkT g c t && chkSs g a x && chkSs g b y
  | .whl c b, .While t x [] _ => chkT g c t && chkSs g b x
  | .frr t it b, .For tg ie x [] _ => chkG g t tg && chkI g it ie && !isSet ie && chkSs g b x
  | .never, _ => true
  | _, _ => false
def chkSs (g : Sc) : Ss → List Stmt → Bool
  | .nil, [] => true
  | .cons s r, x :: xs => chkS g s x && chkSs g r xs
  | _, _ => false
end

/-! ### the context -/
structure Ctx (X : Cx) (g : Sc) (C : Str → List PV → PH → Out PV) (k : Nat) : Prop where
  N : X.N = g.N
  sc : X.env.scope = g.sc
  fn : ∀ x, g.fn x = true → X.fn x = true
  calm : X.calm = true
  nd : X.N.Nodup
  xe : X.xe = fun _ _ => False
  kind : X.env.scope.kind = .function
  room : Room k X.A
  bi : ∀ f : Bi, X.mg f.name = none
  range : X.mg "range" = none
  fns : ∀ f, FnAt X k f (C f) ∨ ∀ xs h, C f xs h = .bad
theorem inv_op {neg : Bool} {o : CmpOp} (h : invB neg o = true) : (o = .In ∨ o = .NotIn) ∧ neg = decide (o = .NotIn) := by
  cases o <;> cases neg <;> simp [invB] at h ⊢
section
variable {X : Cx} {g : Sc} {C : Str → List PV → PH → Out PV} {k : Nat}
theorem Ctx.blk (c : Ctx X g C k) {scope : Scope} (hk : scope.kind = .function) (s : Shared) (H : Hp) (C' : Addr) (cl : List (Str × Addr)) (fp : List Addr) : Ctx (X.blk s H scope (compEnvC scope cl C' X.env) fp) (g.inner scope) C k where
  N := c.N
  sc := by
    show relabel scope X.env = relS scope g.sc
    rw [← c.sc]
    rfl
  fn := fun x h => h
  calm := c.calm
  nd := c.nd
  xe := rfl
  kind := hk
  room := c.room
  bi := c.bi
  range := c.range
  fns := fun f => (c.fns f).imp (fun ⟨ex⟩ => ⟨ex⟩) id
theorem Ctx.vis (c : Ctx X g C k) {x : Str} (h : visB g.sc x = true) : Vis X.env.scope x := by
  rw [c.sc]
  unfold visB at h
  split at h
  · exact .inl (by assumption)
  · exact .inr (.inl (by assumption))
  · exact .inr (.inr (by assumption))
  · cases h
theorem Ctx.loc (c : Ctx X g C k) {x : Str} (h : locB g.sc x = true) : Loc X.env.scope x := by
  rw [c.sc]
  unfold locB at h
  split at h
  · exact .inl (by assumption)
  · exact .inr (by assumption)
  · cases h
theorem Ctx.gl (c : Ctx X g C k) {x : Str} (h : glB g.sc x = true) : Gl X x := by
  unfold Gl Env.kindOf
  rw [c.sc]
  unfold glB at h
  split at h
  · assumption
  · cases h
theorem isLocal_of {sc : Scope} {x : Str} (h : isLocal sc x = true) : sc.names.lookup x = some .local := by
  unfold isLocal at h
  split at h
  · assumption
  · cases h
theorem Ctx.name (c : Ctx X g C k) {x : Str} {i : Nat} (h : nameB g x i = true) : NameAt X x i := by
  unfold nameB at h
  simp only [Bool.and_eq_true, Bool.or_eq_true, decide_eq_true_eq] at h
  refine ⟨by rw [c.N]; exact h.1.1, c.loc h.1.2, h.2.imp (c.fn x) fun z => ?_⟩
  rw [c.sc]
  exact isLocal_of z
theorem Ctx.hu (c : Ctx X g C k) : X.A.units + 65 < cLine := by have := c.room.un; omega
theorem star_cons {env : Env} {x : Expr} {xs : List Expr} (h : noStar (x :: xs) = true) : starEach (x :: xs) env = (false, eval x env) :: starEach xs env ∧ noStar xs = true := by
  cases x <;> first | exact ⟨rfl, h⟩ | (simp [noStar] at h)
theorem star_any {env : Env} : ∀ {xs : List Expr} {pos : Pos}, noStar xs = true → (backTo pos (starEach xs env)).any (·.1) = false
  | [], _, _ => rfl
  | x :: xs, pos, h => by
    obtain ⟨h1, h2⟩ := star_cons (env := env) h
    rw [h1]
    unfold backTo
    rw [List.map_cons, List.any_cons]
    have := star_any (env := env) (pos := pos) h2
    unfold backTo at this
    rw [this]
    rfl
theorem plainIx_of {e : Expr} (h : isSlice e = false) : PlainIx e := by
  intro o i
  cases e <;> first | rfl | (simp [isSlice] at h)
theorem base_of {e : Expr} {n : Str} {env : Env} {w : Sem Value} (h : okBase e = true) : attributeBase e n env w = w := by
  unfold attributeBase
  split
  · rename_i id p pos
    simp only [okBase] at h
    rw [if_pos (by simp only [Bool.or_eq_true]; left; left; left; exact h)]
  · rfl
theorem set_of {e : Expr} {env : Env} (h : isSet e = false) (x : Value) : foldedSetIterable e env x = pure x := by
  cases e <;> first | rfl | (simp [isSet] at h)
theorem plainT_of {e : Expr} {env : Env} (h : plainT e = true) (w : Sem Value) : isTrue e env w = (do let v ← w; standAt e.pos; holding [v] (truthy v)) := by
  cases e with
  | UnaryOp op x p => cases op <;> first | rfl | (simp [plainT] at h)
  | BoolOp _ _ _ => simp [plainT] at h
  | IfExp _ _ _ _ => simp [plainT] at h
  | Compare _ _ _ _ => simp [plainT] at h
  | _ => rfl
theorem swaps_none {e : Expr} {env : Env} {t : Option Expr} {l : Nat} (h : isComp e = false) : swapsWith e t l env = pure false := by
  cases e <;> first | rfl | (simp [isComp] at h)
end
end MP

set_option Elab.async false
set_option linter.all false
set_option maxRecDepth 100000
set_option maxHeartbeats 4000000
namespace MP
open PySem PySem.Spec PyProof.Rows L2

theorem PE.fn {X : Cx} {e : Expr} {f f' : PSt → PH → Out PV} (h : PE X e (lE X.K f)) (q : f' = f) : PE X e (lE X.K f') := q ▸ h
theorem PT.fn {X : Cx} {e : Expr} {f f' : PSt → PH → Out Bool} (h : PT X e (lB X.K f)) (q : f' = f) : PT X e (lB X.K f') := q ▸ h
theorem PW.fn {X : Cx} {e : Expr} {f f' : PSt → PH → Out Bool} (h : PW X e (lB X.K f)) (q : f' = f) : PW X e (lB X.K f') := q ▸ h
theorem PA.fn {X : Cx} {e : List Expr} {f f' : PSt → PH → Out (List PV)} (h : PA X e (lA X.K f)) (q : f' = f) : PA X e (lA X.K f') := q ▸ h
theorem PI.fn {X : Cx} {tg e : Expr} {f f' : PSt → PH → Out MP.Itr} (h : PI X tg e (lI X.K f)) (q : f' = f) : PI X tg e (lI X.K f') := q ▸ h
theorem PS.fn {X : Cx} {e : Stmt} {f f' : PSt → PH → SO} (h : PS X e (lS X.K f)) (q : f' = f) : PS X e (lS X.K f') := q ▸ h
theorem PSs.fn {X : Cx} {e : List Stmt} {f f' : PSt → PH → SO} (h : PSs X e (lS X.K f)) (q : f' = f) : PSs X e (lS X.K f') := q ▸ h
theorem PG.fn {X : Cx} {e : Expr} {ws : List Nat} {f f' : PV → PSt → PH → Out PSt} (h : PG X e (lT X.K ws f)) (q : f' = f) : PG X e (lT X.K ws f') := q ▸ h

theorem own_slots {N : List Str} {own ws : List Nat} (h : ws.all (own.contains ·) = true) : ∀ w ∈ ws, w ∈ (ownOf N own).map (·.2) := fun w hw => by
  have := List.all_eq_true.mp h w hw
  unfold ownOf
  rw [List.map_map]
  simpa using this
theorem own_map {N : List Str} {own : List Nat} : (ownOf N own).map (·.2) = own := by
  unfold ownOf
  rw [List.map_map]
  simp [Function.comp_def]
theorem names_of {X : Cx} {g : Sc} {C : Str → List PV → PH → Out PV} {k : Nat} (c : Ctx X g C k) : ∀ {is : List Nat} {es : List Expr}, namesB g is es = true → ∃ xs : List (Str × Pos), es = xs.map (fun x => Expr.Name x.1 x.2) ∧ Paired (fun (x : Str × Pos) i => NameAt X x.1 i) xs is
  | [], [], _ => ⟨[], rfl, .nil⟩
  | [], _ :: _, h => by simp [namesB] at h
  | i :: is, [], h => by simp [namesB] at h
  | i :: is, e :: es, h => by
    cases e <;> simp [namesB] at h
    rename_i x p
    obtain ⟨xs, e1, e2⟩ := names_of c h.2
    exact ⟨(x, p) :: xs, by rw [e1]; rfl, .cons (c.name h.1) e2⟩

mutual
theorem sndE {C : Str → List PV → PH → Out PV} {k : Nat} : ∀ (c : E) {X : Cx} {g : Sc} {e : Expr}, Ctx X g C k → chkE g c e = true → PE X e (lE X.K (evE C c))
  | .non, X, g, e, ctx, h => by
    unfold chkE at h; split at h <;> first | contradiction | skip
    exact se_const pe_non fun _ _ => .non
  | .bl b, X, g, e, ctx, h => by
    unfold chkE at h; split at h <;> first | contradiction | skip
    rename_i q; cases q
    have := eq_of_beq h
    subst this
    exact se_const pe_bl fun _ _ => .bl _
  | .int i, X, g, e, ctx, h => by
    unfold chkE at h; split at h <;> first | contradiction | skip
    rename_i q; cases q
    have := of_decide_eq_true h
    subst this
    exact se_const pe_int fun _ _ => .int _
  | .str x, X, g, e, ctx, h => by
    unfold chkE at h; split at h <;> first | contradiction | skip
    rename_i q; cases q
    have := of_decide_eq_true h
    subst this
    exact se_const pe_str fun _ _ => .str _
  | .var i, X, g, e, ctx, h => by
    unfold chkE at h; split at h <;> first | contradiction | skip
    rename_i q; cases q
    simp only [Bool.and_eq_true, Bool.not_eq_true', decide_eq_true_eq] at h
    exact se_var (by rw [ctx.N]; exact h.1.1.1) (ctx.vis h.1.1.2) h.1.2 h.2
  | .cst x v, X, g, e, ctx, h => by
    simp [chkE] at h
  | .bin op a b, X, g, e, ctx, h => by
    unfold chkE at h; split at h <;> first | contradiction | skip
    rename_i q; cases q
    simp only [Bool.and_eq_true, decide_eq_true_eq] at h
    obtain ⟨⟨rfl, h1⟩, h2⟩ := h
    exact PE.fn (se_bin (sndE a ctx h1) (sndE b ctx h2)) (by funext s h; rfl)
  | .neg a, X, g, e, ctx, h => by
    unfold chkE at h; split at h <;> first | contradiction | skip
    rename_i q; cases q
    exact PE.fn (se_neg (sndE a ctx h)) (by funext s h; rfl)
  | .cmp op a b, X, g, e, ctx, h => by
    unfold chkE at h; split at h <;> first | contradiction | skip
    rename_i q; cases q
    simp only [Bool.and_eq_true, decide_eq_true_eq, Bool.not_eq_true'] at h
    obtain ⟨⟨⟨rfl, h1⟩, h2⟩, h3⟩ := h
    exact PE.fn (se_cmp ctx.hu (sndE a ctx h1) (sndE b ctx h2) h3) (by funext s h; rfl)
  | .cmp2 op op' a b c, X, g, e, ctx, h => by
    unfold chkE at h; split at h <;> first | contradiction | skip
    rename_i q; cases q
    simp only [Bool.and_eq_true, decide_eq_true_eq, Bool.not_eq_true'] at h
    obtain ⟨⟨⟨⟨⟨rfl, rfl⟩, h1⟩, h2⟩, h3⟩, h4⟩ := h
    exact PE.fn (se_cmp2 ctx.hu (sndE a ctx h1) (sndE b ctx h2) (sndE c ctx h3) h4) (by funext s h; rfl)
  | .and a b, X, g, e, ctx, h => by
    unfold chkE at h; split at h <;> first | contradiction | skip
    rename_i q; cases q
    simp only [Bool.and_eq_true] at h
    obtain ⟨h1, h2⟩ := h
    refine PE.fn (se_and (sndE a ctx h1) (fb := evE C b) ?_) (by funext s h; rfl)
    split at h2
    · exact pe_one (sndE b ctx h2)
    · exact sndE b ctx h2
  | .or a b, X, g, e, ctx, h => by
    unfold chkE at h; split at h <;> first | contradiction | skip
    rename_i q; cases q
    simp only [Bool.and_eq_true] at h
    obtain ⟨h1, h2⟩ := h
    refine PE.fn (se_or (sndE a ctx h1) (fb := evE C b) ?_) (by funext s h; rfl)
    split at h2
    · exact pe_one (sndE b ctx h2)
    · exact sndE b ctx h2
  | .not a, X, g, e, ctx, h => by
    unfold chkE at h; split at h <;> first | contradiction | skip
    rename_i q; cases q
    exact PE.fn (se_not (sndE a ctx h)) (by funext s h; rfl)
  | .ite c a b, X, g, e, ctx, h => by
    unfold chkE at h; split at h <;> first | contradiction | skip
    rename_i q; cases q
    simp only [Bool.and_eq_true] at h
    exact PE.fn (se_ite (sndT c ctx h.1.1) (sndE a ctx h.1.2) (sndE b ctx h.2)) (by funext s h; rfl)
  | .tup es, X, g, e, ctx, h => by
    unfold chkE at h; split at h <;> first | contradiction | skip
    rename_i q; cases q
    simp only [Bool.and_eq_true] at h
    exact PE.fn (se_tup (sndEs es ctx h.1 h.2)) (by funext s h; rfl)
  | .lst es, X, g, e, ctx, h => by
    unfold chkE at h; split at h <;> first | contradiction | skip
    rename_i q; cases q
    simp only [Bool.and_eq_true] at h
    exact PE.fn (se_lst (sndEs es ctx h.1 h.2)) (by funext s h; rfl)
  | .dic ks, X, g, e, ctx, h => by
    unfold chkE at h; split at h <;> first | contradiction | skip
    rename_i q; cases q
    split at h
    · split at h <;> first | contradiction | skip
      exact PE.fn se_dic0 (by funext s h; rfl)
    · rename_i hne
      simp only [Bool.and_eq_true, decide_eq_true_eq] at h
      obtain ⟨d1, d2, d3⟩ := sndKs ks ctx h.1
      exact PE.fn (se_dic (d1 _) d2 d3 (fun z => hne z) h.2) (by funext s h; rfl)
  | .sub a i, X, g, e, ctx, h => by
    unfold chkE at h; split at h <;> first | contradiction | skip
    rename_i q; cases q
    simp only [Bool.and_eq_true, Bool.not_eq_true'] at h
    exact PE.fn (se_sub ctx.hu (sndE a ctx h.1.2) (sndE i ctx h.2) (plainIx_of h.1.1)) (by funext s h; rfl)
  | .slc a lo hi, X, g, e, ctx, h => by
    unfold chkE at h; split at h <;> first | contradiction | skip
    rename_i q; cases q
    simp only [Bool.and_eq_true] at h
    exact PE.fn (se_slc (sndE a ctx h.1.1) (sndP lo ctx h.1.2) (sndP hi ctx h.2)) (by funext s h; rfl)
  | .call f es, X, g, e, ctx, h => by
    unfold chkE at h; split at h <;> first | contradiction | skip
    rename_i q; cases q
    simp only [Bool.and_eq_true, decide_eq_true_eq, Bool.not_eq_true'] at h
    obtain ⟨⟨⟨⟨rfl, h1⟩, h2⟩, h3⟩, h4⟩ := h
    have ha := sndEs es ctx h3 h4
    rcases ctx.fns f with F | F
    · refine PE.fn (se_call F ctx.room (ctx.gl h1) h2 ha (fun a t e => ?_) (fun a t e => ?_) fun e => ?_) (by funext s h; rfl)
      · subst e; exact (star_cons h3).1
      · subst e; exact star_any (star_cons (env := X.env) h3).2
      · subst e
        cases es with
        | nil => exact fun s h => rfl
        | cons _ _ => simp [chkEs] at h4
    · refine ⟨fun pins s σ H Q I ⟨ρ, s', h', S, R, po⟩ => ?_⟩
      have po : PostV X.K ρ H ((evEs C es s' h').bnd fun xs h => C f xs h) Q := po
      obtain ⟨v, h2, _, po2⟩ := po.okOf
      rw [F] at po2
      exact po2.elim
  | .bi f es, X, g, e, ctx, h => by
    unfold chkE at h; split at h <;> first | contradiction | skip
    rename_i q; cases q
    simp only [Bool.and_eq_true, decide_eq_true_eq] at h
    obtain ⟨⟨⟨rfl, h1⟩, h2⟩, h3⟩ := h
    exact PE.fn (se_bi ctx.calm (ctx.gl h1) (ctx.bi f) (sndEs es ctx h2 h3) (star_cons h2).1 (star_any (star_cons (env := X.env) h2).2)) (by funext s h; rfl)
  | .mt m o es, X, g, e, ctx, h => by
    unfold chkE at h; split at h <;> first | contradiction | skip
    rename_i q; cases q
    simp only [Bool.and_eq_true, decide_eq_true_eq] at h
    obtain ⟨⟨⟨⟨⟨⟨rfl, h1⟩, h2⟩, h3⟩, h4⟩, h5⟩, h6⟩ := h
    have ho := sndE o ctx h5
    cases es with
    | nil =>
      cases ‹List Expr› with
      | cons _ _ => simp [chkEs] at h6
      | nil =>
        refine PE.fn (se_mt0 (fun n => base_of h2) h1 ho) ?_
        funext s h
        simp only [evE, evEs]
        cases evE C o s h with
        | ok v h' => simp only [Out.bnd, if_pos]
        | exc _ _ => rfl
        | bad => rfl
    | cons c r =>
      cases ‹List Expr› with
      | nil => simp [chkEs] at h6
      | cons x xs =>
        simp only [chkEs, Bool.and_eq_true] at h6
        have hx := sndE c ctx h6.1
        cases r with
        | nil =>
          cases xs with
          | cons _ _ => simp [chkEs] at h6
          | nil =>
            refine PE.fn (se_mt1 ctx.hu (fun n => base_of h2) h1 (star_cons h3).1 ho hx) ?_
            funext s h
            simp only [evE, evEs, Out.bnd_bnd]
            rfl
        | cons c2 r2 =>
          cases xs with
          | nil => simp [chkEs] at h6
          | cons y ys =>
            have h6' : chkE g c2 y = true ∧ chkEs g r2 ys = true := by simpa [chkEs] using h6.2
            have hy := sndE c2 ctx h6'.1
            cases ys with
            | cons _ _ => simp at h4
            | nil =>
              cases r2 with
              | cons _ _ => simp [chkEs] at h6'
              | nil =>
                have s1 := star_cons (env := X.env) h3
                have s2 := star_cons (env := X.env) s1.2
                refine PE.fn (se_mt2 ctx.hu (fun n => base_of h2) h1 (by rw [s1.1, s2.1]; rfl) (by rw [s2.1]; rfl) ho hx hy) ?_
                funext s h
                simp only [evE, evEs, Out.bnd_bnd]
                rfl
  | .fld o f, X, g, e, ctx, h => by
    simp [chkE] at h
  | .mk c es, X, g, e, ctx, h => by
    simp [chkE] at h
  | .um m o es, X, g, e, ctx, h => by
    simp [chkE] at h
  | .lc elt tg it ifs own, X, g, e, ctx, h => by
    unfold chkE at h; split at h <;> first | contradiction | skip
    rename_i q; cases q
    rename_i c scope _
    obtain ⟨ct, ci, cf, ca⟩ := c
    split at h <;> first | contradiction | skip
    rename_i hca
    have hca : ca = 0 := hca
    subst hca
    simp only [Bool.and_eq_true, Bool.not_eq_true'] at h
    obtain ⟨⟨⟨⟨⟨⟨h1, h2⟩, h3⟩, h4⟩, h5⟩, h6⟩, h7⟩ := h
    have ok : BlkOk X.N X.env.scope scope (ownOf g.N own) := by rw [ctx.N, ctx.sc]; exact blkOk_by h1
    refine PE.fn (se_lc (ws := tgSlots tg) ctx.calm ctx.nd (sndI it ctx h3) ok (own_slots h2) (fun s H C' cl fp => sndG tg (ctx.blk ok.kind s H C' cl fp) h5) (fun s H C' cl fp => sndTs ifs (ctx.blk ok.kind s H C' cl fp) h6) (fun s H C' cl fp => sndE elt (ctx.blk ok.kind s H C' cl fp) h7) (set_of h4)) ?_
    funext s h
    rw [own_map]
    rfl
  | .dc kx vx tg it ifs own, X, g, e, ctx, h => by
    unfold chkE at h; split at h <;> first | contradiction | skip
    rename_i q; cases q
    rename_i c scope _
    obtain ⟨ct, ci, cf, ca⟩ := c
    split at h <;> first | contradiction | skip
    rename_i hca
    have hca : ca = 0 := hca
    subst hca
    simp only [Bool.and_eq_true, Bool.not_eq_true'] at h
    obtain ⟨⟨⟨⟨⟨⟨⟨h1, h2⟩, h3⟩, h4⟩, h5⟩, h6⟩, h7⟩, h8⟩ := h
    have ok : BlkOk X.N X.env.scope scope (ownOf g.N own) := by rw [ctx.N, ctx.sc]; exact blkOk_by h1
    refine PE.fn (se_dc (ws := tgSlots tg) ctx.calm ctx.nd (sndI it ctx h3) ok (own_slots h2) (fun s H C' cl fp => sndG tg (ctx.blk ok.kind s H C' cl fp) h5) (fun s H C' cl fp => sndTs ifs (ctx.blk ok.kind s H C' cl fp) h6) (fun s H C' cl fp => sndE kx (ctx.blk ok.kind s H C' cl fp) h7) (fun s H C' cl fp => sndE vx (ctx.blk ok.kind s H C' cl fp) h8) (set_of h4)) ?_
    funext s h
    rw [own_map]
    rfl
  | .isi f e, X, g, ex, ctx, h => by
    unfold chkE at h; split at h <;> first | contradiction | skip
    rename_i q; cases q
    simp only [Bool.and_eq_true, decide_eq_true_eq] at h
    obtain ⟨⟨⟨⟨⟨⟨rfl, rfl⟩, h2⟩, h3⟩, h4⟩, h5⟩, h6⟩ := h
    exact PE.fn (se_isi h2 (ctx.gl h3) (ctx.bi .isList) (ctx.gl h4) (ctx.bi f) (sndE e ctx h6) (star_cons (by rename_i y _ _; cases y <;> first | rfl | (simp [noStar] at h5))).1) (by funext s h; rfl)
  | .lock i e, X, g, ex, ctx, h => by
    unfold chkE at h
    exact PE.fn (se_lock (i := i) (sndE e ctx h)) (by funext s h; rfl)
  | .inv neg a d, X, g, ex, ctx, h => by
    unfold chkE at h; split at h <;> first | contradiction | skip
    rename_i q; cases q
    simp only [Bool.and_eq_true, decide_eq_true_eq] at h
    obtain ⟨⟨⟨⟨⟨rfl, h1⟩, h2⟩, h3⟩, h4⟩, h5⟩ := h
    obtain ⟨ho, rfl⟩ := inv_op h1
    exact PE.fn (se_inv ctx.calm ho (sndE a ctx h4) (sndE d ctx h5) (base_of h3) h2) (by funext s h; rfl)
  | .lrg t es, X, g, ex, ctx, h => by
    unfold chkE at h; split at h <;> first | contradiction | skip
    rename_i q; cases q
    simp only [Bool.and_eq_true, Bool.or_eq_true, decide_eq_true_eq] at h
    obtain ⟨⟨⟨⟨⟨⟨hx, rfl⟩, h1⟩, h1'⟩, h2⟩, h3⟩, h4⟩ := h
    have hm : X.mg (if t = true then ("tuple" : Str) else "list") = none := by
      cases t with
      | true => exact ctx.bi .tuple
      | false => exact ctx.bi .list
    rw [← hx] at hm
    cases es with
    | nil =>
      cases ‹List Expr› with
      | nil => simp at h3
      | cons _ _ => simp [chkEs] at h4
    | cons c r =>
      cases ‹List Expr› with
      | nil => simp [chkEs] at h4
      | cons x xs =>
        have h4' : chkE g c x = true ∧ chkEs g r xs = true := by simpa [chkEs] using h4
        have hx' := sndE c ctx h4'.1
        cases r with
        | nil =>
          cases xs with
          | cons _ _ => simp [chkEs] at h4'
          | nil =>
            refine PE.fn (se_lrg1 ctx.calm hx (ctx.gl h1) hm (ctx.gl h1') ctx.range hx' (star_cons h2).1) ?_
            funext s h
            simp only [evE, evEs, Out.bnd_bnd]
            rfl
        | cons c2 r2 =>
          cases xs with
          | nil => simp [chkEs] at h4'
          | cons y ys =>
            have h5 : chkE g c2 y = true ∧ chkEs g r2 ys = true := by simpa [chkEs] using h4'.2
            have hy := sndE c2 ctx h5.1
            cases ys with
            | cons _ _ => simp at h3
            | nil =>
              cases r2 with
              | cons _ _ => simp [chkEs] at h5
              | nil =>
                have s1 := star_cons (env := X.env) h2
                have s2 := star_cons (env := X.env) s1.2
                refine PE.fn (se_lrg2 ctx.calm hx (ctx.gl h1) hm (ctx.gl h1') ctx.range hx' hy s1.1 s2.1 (by rw [s2.1]; rfl)) ?_
                funext s h
                simp only [evE, evEs, Out.bnd_bnd]
                rfl
theorem sndEs {C : Str → List PV → PH → Out PV} {k : Nat} : ∀ (c : Es) {X : Cx} {g : Sc} {e : List Expr}, Ctx X g C k → noStar e = true → chkEs g c e = true → PA X e (lA X.K (evEs C c))
  | .nil, X, g, e, ctx, hs, h => by
    unfold chkEs at h; split at h <;> first | contradiction | skip
    exact PA.fn sa_nil (by funext s h; rfl)
  | .cons c r, X, g, e, ctx, hs, h => by
    unfold chkEs at h; split at h <;> first | contradiction | skip
    rename_i q; cases q
    simp only [Bool.and_eq_true] at h
    exact PA.fn (sa_cons (sndE c ctx h.1) (sndEs r ctx (star_cons (env := X.env) hs).2 h.2) (star_cons hs).1) (by funext s h; rfl)
theorem sndKs {C : Str → List PV → PH → Out PV} {k : Nat} : ∀ (c : Ks) {X : Cx} {g : Sc} {ks : List (Option Expr)} {vs : List Expr}, Ctx X g C k → chkKs g c ks vs = true → (∀ pos, DispOk X pos ks vs (evD C c)) ∧ ks.all (·.isSome) = true ∧ ks.length = vs.length
  | .nil, X, g, ks, vs, ctx, h => by
    unfold chkKs at h; split at h <;> first | contradiction | skip
    exact ⟨fun pos => disp_nil, rfl, rfl⟩
  | .cons a b r, X, g, ks, vs, ctx, h => by
    unfold chkKs at h; split at h <;> first | contradiction | skip
    rename_i q; cases q
    simp only [Bool.and_eq_true] at h
    obtain ⟨d1, d2, d3⟩ := sndKs r ctx h.2
    exact ⟨fun pos => disp_cons (sndE a ctx h.1.1) (sndE b ctx h.1.2) (d1 pos), by simpa using d2, by simp [d3]⟩
theorem sndT {C : Str → List PV → PH → Out PV} {k : Nat} : ∀ (c : T) {X : Cx} {g : Sc} {e : Expr}, Ctx X g C k → chkT g c e = true → PT X e (lB X.K (evT C c))
  | .e c, X, g, e, ctx, h => by
    unfold chkT at h
    simp only [Bool.and_eq_true] at h
    exact PT.fn (st_plain (sndE c ctx h.2) (plainT_of h.1)) (by funext s h; rfl)
  | .and a b, X, g, e, ctx, h => by
    unfold chkT at h; split at h <;> first | contradiction | skip
    rename_i q; cases q
    simp only [Bool.and_eq_true] at h
    obtain ⟨h1, h2⟩ := h
    refine PT.fn (PW.pt (sw_and (sndT a ctx h1) (gb := evT C b) ?_)) (by funext s h; rfl)
    split at h2
    · exact pw_and1 (sndT b ctx h2)
    · exact sndW .And b ctx h2
  | .or a b, X, g, e, ctx, h => by
    unfold chkT at h; split at h <;> first | contradiction | skip
    rename_i q; cases q
    simp only [Bool.and_eq_true] at h
    obtain ⟨h1, h2⟩ := h
    refine PT.fn (PW.pt (sw_or (sndT a ctx h1) (gb := evT C b) ?_)) (by funext s h; rfl)
    split at h2
    · exact pw_or1 (sndT b ctx h2)
    · exact sndW .Or b ctx h2
  | .not a, X, g, e, ctx, h => by
    unfold chkT at h; split at h <;> first | contradiction | skip
    rename_i q; cases q
    exact PT.fn (st_not (sndT a ctx h)) (by funext s h; rfl)
  | .ite c a b, X, g, e, ctx, h => by
    simp [chkT] at h
  | .cmp op a b, X, g, e, ctx, h => by
    unfold chkT at h; split at h <;> first | contradiction | skip
    rename_i q; cases q
    simp only [Bool.and_eq_true, decide_eq_true_eq, Bool.not_eq_true'] at h
    obtain ⟨⟨⟨rfl, h1⟩, h2⟩, h3⟩ := h
    exact PT.fn (st_cmp ctx.hu (sndE a ctx h1) (sndE b ctx h2) h3) (by funext s h; rfl)
  | .cmp2 op op' a b c, X, g, e, ctx, h => by
    unfold chkT at h; split at h <;> first | contradiction | skip
    rename_i q; cases q
    simp only [Bool.and_eq_true, decide_eq_true_eq, Bool.not_eq_true'] at h
    obtain ⟨⟨⟨⟨⟨rfl, rfl⟩, h1⟩, h2⟩, h3⟩, h4⟩ := h
    exact PT.fn (st_cmp2 ctx.hu (sndE a ctx h1) (sndE b ctx h2) (sndE c ctx h3) h4) (by funext s h; rfl)
  | .inv neg a d, X, g, e, ctx, h => by
    unfold chkT at h; split at h <;> first | contradiction | skip
    rename_i q; cases q
    simp only [Bool.and_eq_true, decide_eq_true_eq] at h
    obtain ⟨⟨⟨⟨⟨rfl, h1⟩, h2⟩, h3⟩, h4⟩, h5⟩ := h
    obtain ⟨ho, rfl⟩ := inv_op h1
    exact PT.fn (st_inv ctx.calm ho (sndE a ctx h4) (sndE d ctx h5) (base_of h3) h2) (by funext s h; rfl)
/-- .. of a chain of and, or, that goes on -/
theorem sndW {C : Str → List PV → PH → Out PV} {k : Nat} (op : BoolOp) : ∀ (c : T) {X : Cx} {g : Sc} {x : Expr} {r : List Expr} {pos : Pos}, Ctx X g C k → chkT g c (.BoolOp op (x :: r) pos) = true → PW X (.BoolOp op (x :: r) pos) (lB X.K (evT C c))
  | .e c, X, g, x, r, pos, ctx, h => by
    simp [chkT, plainT] at h
  | .and a b, X, g, x, r, pos, ctx, h => by
    unfold chkT at h; split at h <;> first | contradiction | skip
    rename_i q q'
    cases q
    cases q'
    simp only [Bool.and_eq_true] at h
    obtain ⟨h1, h2⟩ := h
    refine PW.fn (sw_and (sndT a ctx h1) (gb := evT C b) ?_) (by funext s h; rfl)
    split at h2
    · exact pw_and1 (sndT b ctx h2)
    · exact sndW .And b ctx h2
  | .or a b, X, g, x, r, pos, ctx, h => by
    unfold chkT at h; split at h <;> first | contradiction | skip
    rename_i q q'
    cases q
    cases q'
    simp only [Bool.and_eq_true] at h
    obtain ⟨h1, h2⟩ := h
    refine PW.fn (sw_or (sndT a ctx h1) (gb := evT C b) ?_) (by funext s h; rfl)
    split at h2
    · exact pw_or1 (sndT b ctx h2)
    · exact sndW .Or b ctx h2
  | .not a, X, g, x, r, pos, ctx, h => by simp [chkT] at h
  | .ite c a b, X, g, x, r, pos, ctx, h => by simp [chkT] at h
  | .cmp op a b, X, g, x, r, pos, ctx, h => by simp [chkT] at h
  | .cmp2 op op' a b c, X, g, x, r, pos, ctx, h => by simp [chkT] at h
  | .inv neg a d, X, g, x, r, pos, ctx, h => by simp [chkT] at h
theorem sndTs {C : Str → List PV → PH → Out PV} {k : Nat} : ∀ (c : Ts) {X : Cx} {g : Sc} {e : List Expr}, Ctx X g C k → chkTs g c e = true → PTs X e (lB X.K (evTs C c))
  | .nil, X, g, e, ctx, h => by
    unfold chkTs at h; split at h <;> first | contradiction | skip
    exact ⟨fun pins s σ H Q I ⟨ρ, s', h', S, R, po⟩ => pts_nil.run pins s σ H Q I (po ρ H .refl S)⟩
  | .cons t r, X, g, e, ctx, h => by
    unfold chkTs at h; split at h <;> first | contradiction | skip
    rename_i q; cases q
    simp only [Bool.and_eq_true] at h
    obtain ⟨h1, h2⟩ := h
    split at h2 <;> first | contradiction | skip
    refine pts_one (PT.fn (sndT t ctx h1) ?_)
    funext s h
    simp only [evTs]
    cases evT C t s h with
    | ok b h' => cases b <;> rfl
    | exc _ _ => rfl
    | bad => rfl
theorem sndP {C : Str → List PV → PH → Out PV} {k : Nat} : ∀ (c : Pt) {X : Cx} {g : Sc} {e : Option Expr}, Ctx X g C k → chkP g c e = true → L2.PO X e (lP X.K (evP C c))
  | .none, X, g, e, ctx, h => by
    unfold chkP at h; split at h <;> first | contradiction | skip
    exact sp_none
  | .some c, X, g, e, ctx, h => by
    unfold chkP at h; split at h <;> first | contradiction | skip
    rename_i q; cases q
    exact sp_some (sndE c ctx h)
theorem sndI {C : Str → List PV → PH → Out PV} {k : Nat} : ∀ (c : It) {X : Cx} {g : Sc} {tg e : Expr}, Ctx X g C k → chkI g c e = true → PI X tg e (lI X.K (evI C c))
  | .ex c, X, g, tg, e, ctx, h => by
    unfold chkI at h
    exact PI.fn (si_ex (sndE c ctx h)) (by funext s h; rfl)
  | .rng es, X, g, tg, e, ctx, h => by
    unfold chkI at h; split at h <;> first | contradiction | skip
    rename_i q; cases q
    simp only [Bool.and_eq_true, Bool.or_eq_true, decide_eq_true_eq] at h
    obtain ⟨⟨⟨⟨rfl, h1⟩, h2⟩, h3⟩, h4⟩ := h
    cases es with
    | nil =>
      cases ‹List Expr› with
      | nil => simp at h3
      | cons _ _ => simp [chkEs] at h4
    | cons c r =>
      cases ‹List Expr› with
      | nil => simp [chkEs] at h4
      | cons x xs =>
        have h4' : chkE g c x = true ∧ chkEs g r xs = true := by simpa [chkEs] using h4
        have hx := sndE c ctx h4'.1
        cases r with
        | nil =>
          cases xs with
          | cons _ _ => simp [chkEs] at h4'
          | nil =>
            refine PI.fn (si_rng1 (ctx.gl h1) ctx.range hx (star_cons h2).1) ?_
            funext s h
            simp only [evI, evEs, Out.bnd_bnd]
            cases evE C c s h with
            | ok v h' => cases v <;> rfl
            | exc _ _ => rfl
            | bad => rfl
        | cons c2 r2 =>
          cases xs with
          | nil => simp [chkEs] at h4'
          | cons y ys =>
            have h5 : chkE g c2 y = true ∧ chkEs g r2 ys = true := by simpa [chkEs] using h4'.2
            have hy := sndE c2 ctx h5.1
            cases ys with
            | cons _ _ => simp at h3
            | nil =>
              cases r2 with
              | cons _ _ => simp [chkEs] at h5
              | nil =>
                have s1 := star_cons (env := X.env) h2
                have s2 := star_cons (env := X.env) s1.2
                refine PI.fn (si_rng2 (ctx.gl h1) ctx.range hx hy (by rw [s1.1, s2.1]; rfl) (by rw [s2.1]; rfl)) ?_
                funext s h
                simp only [evI, evEs, Out.bnd_bnd]
                cases evE C c s h with
                | ok v h' =>
                  simp only [Out.bnd]
                  cases evE C c2 s h' with
                  | ok w h2 => cases v <;> cases w <;> rfl
                  | exc _ _ => rfl
                  | bad => rfl
                | exc _ _ => rfl
                | bad => rfl
  | .enu c, X, g, tg, e, ctx, h => by simp [chkI] at h
  | .rev c, X, g, tg, e, ctx, h => by simp [chkI] at h
  | .keys c, X, g, tg, e, ctx, h => by
    unfold chkI at h
    exact PI.fn (si_keys (sndE c ctx h)) (by funext s h; rfl)
  | .vals c, X, g, tg, e, ctx, h => by simp [chkI] at h
  | .items c, X, g, tg, e, ctx, h => by simp [chkI] at h
theorem sndG {C : Str → List PV → PH → Out PV} {k : Nat} : ∀ (c : Tg) {X : Cx} {g : Sc} {e : Expr}, Ctx X g C k → chkG g c e = true → PG X e (lT X.K (tgSlots c) (evG C c))
  | .nm i, X, g, e, ctx, h => by
    unfold chkG at h; split at h <;> first | contradiction | skip
    rename_i q; cases q
    have n := ctx.name h
    exact PG.fn (sg_nm ctx.nd n.ix n.loc n.fn) (by funext v s h; rfl)
  | .tup is, X, g, e, ctx, h => by
    unfold chkG at h; split at h <;> first | contradiction | skip
    rename_i q; cases q
    obtain ⟨xs, rfl, n⟩ := names_of ctx h
    exact PG.fn (sg_tup ctx.calm ctx.nd n) (by funext v s h; rfl)
  | .sub o i, X, g, e, ctx, h => by
    unfold chkG at h; split at h <;> first | contradiction | skip
    rename_i q; cases q
    simp only [Bool.and_eq_true, Bool.not_eq_true'] at h
    refine PG.fn (sg_sub ctx.hu (sndE o ctx h.1.1) (sndE i ctx h.1.2) ?_) (by funext v s h; rfl)
    intro v
    rename_i y _
    cases y <;> first | rfl | (simp [isSlice] at h)
  | .fld o f, X, g, e, ctx, h => by simp [chkG] at h
end
end MP

set_option Elab.async false
set_option linter.all false
set_option maxRecDepth 100000
set_option maxHeartbeats 4000000
namespace MP
open PySem PySem.Spec PyProof.Rows L2

theorem swapped_none {tg v : Expr} {env : Env} (h : twoTuples tg v = false) : swappedStores [tg] v env = pure none := by
  unfold swappedStores
  cases tg <;> cases v <;> first | rfl | (simp [twoTuples] at h)
theorem tgt_one {tg : Expr} {env : Env} {X : Cx} {g : Sc} {C : Str → List PV → PH → Out PV} {k : Nat} {t : Tg} (ctx : Ctx X g C k) (h : chkG g t tg = true) : (assignEach [tg] env).map (·.2) = [assign tg env] := by
  cases tg <;> first | rfl | (cases t <;> simp [chkG] at h)
theorem blockKind_fn {env : Env} (h : env.scope.kind = .function) : env.blockKind = .function := by
  unfold Env.blockKind; rw [h]; rfl
theorem atOnce_false {X : Cx} {g : Sc} {C : Str → List PV → PH → Out PV} {k : Nat} {tg v : Expr} {l : Nat} (ctx : Ctx X g C k) (h : atOnce g.sc v tg = false) : swapsWith v (some tg) l X.env = pure false := by
  have hb := blockKind_fn ctx.kind
  have key : ∀ (t : Str) (q p : Pos) (s : Scope), (isLocal g.sc t && (q.line == p.line) && !(s.names.any fun (n, k) => n == t && (k == .local || k == .cell))) = false →
      (X.env.blockKind == .function && X.env.kindOf t == some .local && q.line == p.line && !(s.names.any fun (n, k) => n == t && (k == .local || k == .cell))) = false := fun t q p s e => by
    have : (X.env.kindOf t == some .local) = isLocal g.sc t := by
      unfold Env.kindOf isLocal
      rw [ctx.sc]
      cases g.sc.names.lookup t with
      | none => rfl
      | some k => cases k <;> rfl
    rw [hb, this]
    simpa using e
  cases hc : isComp v with
  | false => exact swaps_none hc
  | true =>
    cases v <;> simp [isComp] at hc
    all_goals
      cases tg <;> first | rfl | skip
      simp only [atOnce] at h
      unfold swapsWith
      exact congrArg pure (key _ _ _ _ h)
theorem atOnce_true {X : Cx} {g : Sc} {C : Str → List PV → PH → Out PV} {k : Nat} {elt : Expr} {gs : List Comprehension} {scope : Scope} {pos py : Pos} {y : Str} {l : Nat} (ctx : Ctx X g C k) (h : atOnce g.sc (.ListComp elt gs scope pos) (.Name y py) = true) :
    X.env.scope.names.lookup y = some .local ∧ swapsWith (.ListComp elt gs scope pos) (some (.Name y py)) l X.env = pure true := by
  simp only [atOnce, Bool.and_eq_true, Bool.not_eq_true'] at h
  have h1 : X.env.scope.names.lookup y = some .local := by rw [ctx.sc]; exact isLocal_of h.1.1
  exact ⟨h1, sw_true ctx.kind h1 h.1.2 h.2⟩

mutual
theorem sndS {C : Str → List PV → PH → Out PV} {k : Nat} : ∀ (c : S) {X : Cx} {g : Sc} {e : Stmt}, Ctx X g C k → chkS g c e = true → PS X e (lS X.K (evS C c))
  | .pass, X, g, e, ctx, h => by
    unfold chkS at h; split at h <;> first | contradiction | skip
    exact PS.fn ss_pass (by funext s h; rfl)
  | .brk, X, g, e, ctx, h => by
    unfold chkS at h; split at h <;> first | contradiction | skip
    exact PS.fn ss_brk (by funext s h; rfl)
  | .cont, X, g, e, ctx, h => by
    unfold chkS at h; split at h <;> first | contradiction | skip
    exact PS.fn ss_cont (by funext s h; rfl)
  | .retN, X, g, e, ctx, h => by
    unfold chkS at h; split at h <;> first | contradiction | skip
    exact PS.fn ss_retN (by funext s h; rfl)
  | .ret c, X, g, e, ctx, h => by
    unfold chkS at h; split at h <;> first | contradiction | skip
    rename_i q; cases q
    exact PS.fn (ss_ret (sndE c ctx h)) (by funext s h; rfl)
  | .ex c, X, g, e, ctx, h => by
    unfold chkS at h; split at h <;> first | contradiction | skip
    rename_i q; cases q
    simp only [Bool.and_eq_true, Bool.not_eq_true'] at h
    exact PS.fn (ss_ex (sndE c ctx h.1) (swaps_none h.2)) (by funext s h; rfl)
  | .asg t c, X, g, e, ctx, h => by
    unfold chkS at h; split at h <;> first | contradiction | skip
    rename_i q; cases q
    simp only [Bool.and_eq_true, Bool.not_eq_true'] at h
    obtain ⟨⟨⟨h1, h2⟩, h3⟩, h4⟩ := h
    split at h4
    · rename_i h5
      exact PS.fn (ss_asg (sndE c ctx h2) (sndG t ctx h1) (atOnce_false ctx h5) (swapped_none h3) (tgt_one ctx h1)) (by funext s h; rfl)
    · rename_i h5
      cases c with
      | lc elt tg it ifs own =>
        unfold chkE at h2; split at h2 <;> first | contradiction | skip
        rename_i q; cases q
        rename_i cc scope _
        obtain ⟨ct, ci, cf, ca⟩ := cc
        split at h2 <;> first | contradiction | skip
        rename_i hca
        have hca : ca = 0 := hca
        subst hca
        simp only [Bool.and_eq_true, Bool.not_eq_true'] at h2
        obtain ⟨⟨⟨⟨⟨⟨k1, k2⟩, k3⟩, k4⟩, k5⟩, k6⟩, k7⟩ := h2
        have ok : BlkOk X.N X.env.scope scope (ownOf g.N own) := by rw [ctx.N, ctx.sc]; exact blkOk_by k1
        rename_i tgx _ _ _ _ _ _ _
        cases tgx <;> first | (simp [atOnce] at h5; done) | skip
        rename_i y py
        cases t <;> first | (simp [chkG] at h1; done) | skip
        rename_i i
        have n := ctx.name (by simpa [chkG] using h1)
        obtain ⟨a1, a2⟩ := atOnce_true ctx h5
        refine PS.fn (ss_setLc (ws := tgSlots tg) ctx.calm ctx.nd n.ix a1 a2 (sndI it ctx k3) ok (own_slots k2) (fun s H C' cl fp => sndG tg (ctx.blk ok.kind s H C' cl fp) k5) (fun s H C' cl fp => sndTs ifs (ctx.blk ok.kind s H C' cl fp) k6) (fun s H C' cl fp => sndE elt (ctx.blk ok.kind s H C' cl fp) k7) (set_of k4)) ?_
        funext s h
        rw [own_map]
        rfl
      | _ => simp [isLc] at h4
  | .par i j a b, X, g, e, ctx, h => by simp [chkS] at h
  | .aug i op c, X, g, e, ctx, h => by
    unfold chkS at h; split at h <;> first | contradiction | skip
    rename_i q; cases q
    simp only [Bool.and_eq_true, decide_eq_true_eq] at h
    obtain ⟨⟨⟨rfl, h1⟩, h2⟩, h3⟩ := h
    have n := ctx.name h2
    refine PS.fn (ss_aug ?_ ctx.nd n.ix n.loc n.fn (sndE c ctx h3)) (by funext s h; rfl)
    cases op <;> simp [opOk] at h1 <;> simp
  | .augF o f op c, X, g, e, ctx, h => by simp [chkS] at h
  | .augS o i op c, X, g, e, ctx, h => by simp [chkS] at h
  | .ite c a b, X, g, e, ctx, h => by
    unfold chkS at h; split at h <;> first | contradiction | skip
    rename_i q; cases q
    simp only [Bool.and_eq_true] at h
    exact PS.fn (ss_if (sndT c ctx h.1.1) (sndSs a ctx h.1.2) (sndSs b ctx h.2)) (by funext s h; rfl)
  | .whl c b, X, g, e, ctx, h => by
    unfold chkS at h; split at h <;> first | contradiction | skip
    rename_i q; cases q
    simp only [Bool.and_eq_true] at h
    exact PS.fn (ss_whl ctx.xe (sndT c ctx h.1) (sndSs b ctx h.2) big) (by funext s h; rfl)
  | .frr t it b, X, g, e, ctx, h => by
    unfold chkS at h; split at h <;> first | contradiction | skip
    rename_i q; cases q
    simp only [Bool.and_eq_true, Bool.not_eq_true'] at h
    obtain ⟨⟨⟨h1, h2⟩, h3⟩, h4⟩ := h
    exact PS.fn (ss_for ctx.xe ctx.calm (sndI it ctx h2) (sndG t ctx h1) (sndSs b ctx h4) (set_of h3)) (by funext s h; rfl)
  | .never, X, g, e, ctx, h => PS.fn ss_never (by funext s h; rfl)
theorem sndSs {C : Str → List PV → PH → Out PV} {k : Nat} : ∀ (c : Ss) {X : Cx} {g : Sc} {e : List Stmt}, Ctx X g C k → chkSs g c e = true → PSs X e (lS X.K (evSs C c))
  | .nil, X, g, e, ctx, h => by
    unfold chkSs at h; split at h <;> first | contradiction | skip
    exact PSs.fn sss_nil (by funext s h; rfl)
  | .cons c r, X, g, e, ctx, h => by
    unfold chkSs at h; split at h <;> first | contradiction | skip
    rename_i q; cases q
    simp only [Bool.and_eq_true] at h
    refine PSs.fn (sss_cons (sndS c ctx h.1) (sndSs r ctx h.2)) ?_
    funext s h
    simp only [evSs]
    all_goals (cases evS C c s h <;> rfl)
end

/-! ### defs -/
/-- the def f of the table stands behind the top, and its text is mine -/
structure DefIs (K : Fg) (mg : Str → Option Value) (f : Str) (d : Df) (name qual : Str) (st : Stmt) (fa : Addr) (fd : FuncData) (N ps : List Str) : Prop where
  fn : FunD K name qual (defArgs st) (defBody st) (defScope st) [] [] fa fd
  at_ : mg f = some (.ref fa)
  bd : Binds K fd ps []
  sc : FnScope N ps (defScope st)
  chk : chkSs ⟨N, defScope st, none⟩ d.body (defBody st) = true
  np : ps.length = d.np
  ns : N.length = d.ns
def DefAt (K : Fg) (mg : Str → Option Value) (f : Str) (d : Df) : Prop := ∃ name qual st fa fd N ps, DefIs K mg f d name qual st fa fd N ps
/-- the module's names -/
structure ModOk (mg : Str → Option Value) : Prop where
  bi : ∀ f : Bi, mg f.name = none
  range : mg "range" = none
section
variable {P : Program} {w : World} {K : Fg} {mg : Str → Option Value} {base : Heap} {T : Str → Option Df}
theorem RepVs.start {ρ : List Addr} {H : Hp} : ∀ {ps : List PV} {vs : List V} (n : Nat), RepVs K ρ H ps vs → RepSt K ρ H (ps.map some ++ List.replicate n none) (vs.map some ++ List.replicate n none) := by
  intro ps vs n r
  refine ⟨by simp [r.length], fun i v e => ?_⟩
  by_cases lt : i < ps.length
  · rw [List.getElem?_append_left (by simpa using lt), List.getElem?_map] at e
    obtain ⟨p, hp, e⟩ := Option.map_eq_some_iff.mp e
    cases e
    obtain ⟨u, hu, ru⟩ := r.get hp
    refine ⟨u, ?_, ru⟩
    rw [List.getElem?_append_left (by rw [List.length_map, ← r.length]; exact lt), List.getElem?_map, hu]
    rfl
  · rw [List.getElem?_append_right (by simpa using lt), List.getElem?_replicate] at e
    split at e <;> cases e
theorem evCall_len {k : Nat} {f : Str} {d : Df} (e : T f = some d) {xs : List PV} {h : PH} {v : PV} {h' : PH} (q : evCall T k f xs h = .ok v h') : xs.length = d.np := by
  cases k with
  | zero => simp [evCall] at q
  | succ k =>
    simp only [evCall, e] at q
    split at q <;> try (cases q; done)
    rename_i hq
    exact hq.1
theorem defs_ok (M : ModOk mg) (D : ∀ f d, T f = some d → DefAt K mg f d) : ∀ (k : Nat) (f : Str) (d : Df), T f = some d → ∀ {name qual st fa fd N ps}, DefIs K mg f d name qual st fa fd N ps →
    FnOk P w K mg base CX0 k fa fd ps (spOf K ps.length (evCall T k f))
  | 0, f, d, e, name, qual, st, fa, fd, N, ps, Di => by
    refine ⟨fun vs H Q E h => h.1, fun A outer s H args us vs Q E hr e0 hb r h => ?_⟩
    obtain ⟨_, ρ, h, ps, S, r, po⟩ := h
    exact (show False from po).elim
  | k + 1, f, d, e, name, qual, st, fa, fd, N, ps, Di => by
    obtain ⟨F, hm, hb, S, hc, hp, hn⟩ := Di
    have ih := defs_ok M D k
    refine F.ok S (fun vs H Q E h => h.1) fun cdv A outer s H vs Q E hr h => ?_
    refine ⟨lS K (evSs (evCall T k) d.body), PSs.nox ?_, ?_⟩
    · refine sndSs (k := k) d.body (X := (cxOf CX0 P w K mg base N qual (defScope st) fa cdv A outer s H E).nox) ?_ hc
      refine ⟨rfl, rfl, fun _ _ => rfl, rfl, S.nd, rfl, S.kind, hr, M.bi, M.range, fun f' => ?_⟩
      cases e' : T f' with
      | none =>
        refine .inr fun xs h => ?_
        cases k with
        | zero => rfl
        | succ k => simp only [evCall, e']
      | some d' =>
        obtain ⟨_, _, _, fa', fd', _, ps', Di'⟩ := D f' d' e'
        exact .inl ⟨fa', fd', ps', Di'.at_, Di'.fn.kp, Di'.bd, ih f' d' e' Di', fun xs h v h' q => by rw [Di'.np]; exact evCall_len e' q⟩
    · obtain ⟨hl, ρ, h, qs, S', r, po⟩ := h
      have r' := r.start (N.length - vs.length)
      refine ⟨ρ, _, h, S', r', ?_⟩
      have el : qs.length = d.np := by rw [r.length, hl, hp]
      have po : PostV K ρ H (evCall T (k + 1) f qs h) Q := po
      simp only [evCall, e] at po
      split at po <;> try exact po.elim
      rename_i hq
      rw [show N.length - vs.length = d.ns - d.np by rw [hn, hl, hp]]
      cases eb : evSs (evCall T k) d.body (qs.map some ++ List.replicate (d.ns - d.np) none) h with
      | rt v h' => rw [eb] at po; exact fun ρ' H' V x S r => po ρ' H' x S V r
      | nx s' h' => rw [eb] at po; exact fun ρ' H' σ' x S r => po ρ' H' x S _ .non
      | bk _ _ => rw [eb] at po; exact po.elim
      | ct _ _ => rw [eb] at po; exact po.elim
      | exc _ _ => rw [eb] at po; exact po.elim
      | bad => rw [eb] at po; exact po.elim
end
/-! ### the end of a law -/
theorem frl_of {K : Fg} {H : Hp} {a : Addr} {xs : List V} (hO : Only H) (h : SqL K H a xs) : FrL K H a xs := by
  rcases h with (h | ⟨o, h⟩) | h
  · rcases hO a with q | ⟨o, ys, q⟩
    · rw [h] at q; cases q
    · rw [h] at q; cases q
  · exact .inl ⟨o, h⟩
  · exact .inr h
theorem law_end {l : PySem.W.OpenLaw} {q : Program} {loose : List Str} {XP : (Str → Option Value) → Heap → Prop} {d : DefRec} {T : Str → Option Df} {dl : Df} {k n : Nat} {m : Nat} {fas : List He.Fa} {fns : List He.DefD}
    (hn : l.most = some n) (hn2 : n ≤ sizeLine) (hdf : d.params.defaults = []) (hr : Room k callerA) (hname : d.name = ("law" : Str)) (hT : T "law" = some dl)
    (defs : ∀ (K : Fg) (mg : Str → Option Value) (h : Heap), K.In h → h.Ns mainGlobals mg → He.SaysD fas fns K → ModOk mg ∧ (∀ f d, T f = some d → DefAt K mg f d) ∧
      ∃ name qual st fa fd N, DefIs K mg "law" dl name qual st fa fd N ["script"] ∧ ∀ (s : Shared) (u : Value), BindsTo s fd ⟨[u], []⟩ [("script", u)])
    (holds : ∀ ns : List Int, ns.length ≤ n → ∃ h, evCall T k "law" [.fro (ns.map PV.int)] [] = .ok (.bl true) h) :
    PySem.W.WalkO q loose XP (He.hookD m fas fns).says l.row.toRowW d [] (fun f vs => PySem.call f vs) := by
  refine L2.walk_ofE (n := n) (k := k) (x := "script") (CX := CX0) hn hn2 hdf hr ?_ (fun _ _ _ _ z => z)
  intro w mg fa h Y G hmg0
  obtain ⟨K, KX, c⟩ := Y
  obtain ⟨M, D, name, qual, st, fa', fd, N, Di, hb⟩ := defs K mg h KX G c
  have e : fa' = fa := by
    rw [hname, Di.at_] at hmg0
    injection hmg0 with e1
    injection e1
  subst e
  refine ⟨K, fd, spOf K 1 (evCall T k "law"), KX, hb, fun H a ns hl hO hS => ?_, fun base _ _ => defs_ok M D k "law" dl hT Di⟩
  obtain ⟨h', e⟩ := holds ns hl
  refine ⟨rfl, [], [], [.fro (ns.map PV.int)], ⟨rfl, List.nodup_nil, fun l o a e _ => by simp at e⟩, .cons (.fro (frl_of hO hS) (RepVs.ofInts ns)) .nil, ?_⟩
  rw [e]
  exact fun ρ' H' _ _ V rV => rV.blV
end MP

set_option Elab.async false
set_option linter.all false
set_option maxRecDepth 100000
namespace MP
open PySem
open Out (ok bad)
/-! ### steps of the evaluator, one after the other -/
def SO.seq (o : SO) (f : PSt → PH → SO) : SO :=
  match o with
  | .nx s h => f s h
  | o => o
theorem bnd_ok {α β : Type} {v : α} {h : PH} {f : α → PH → Out β} : (Out.ok v h).bnd f = f v h := rfl
theorem sbnd_ok {α : Type} {v : α} {h : PH} {f : α → PH → SO} : (Out.ok v h).sbnd f = f v h := rfl
theorem seq_nx {s : PSt} {h : PH} {f : PSt → PH → SO} : (SO.nx s h).seq f = f s h := rfl
theorem seq_rt {v : PV} {h : PH} {f : PSt → PH → SO} : (SO.rt v h).seq f = .rt v h := rfl
theorem seq_bk {s : PSt} {h : PH} {f : PSt → PH → SO} : (SO.bk s h).seq f = .bk s h := rfl
theorem seq_ct {s : PSt} {h : PH} {f : PSt → PH → SO} : (SO.ct s h).seq f = .ct s h := rfl
section
variable {C : Str → List PV → PH → Out PV}
theorem ss_cons {a : S} {r : Ss} {s : PSt} {h : PH} : evSs C (.cons a r) s h = (evS C a s h).seq (evSs C r) := by
  unfold evSs SO.seq
  rfl
theorem ss_nil {s : PSt} {h : PH} : evSs C .nil s h = .nx s h := by unfold evSs; rfl
end
section
variable {C : Str → List PV → PH → Out PV}
/-- a branch -/
def iteC (C : Str → List PV → PH → Out PV) (a b : Ss) (s : PSt) (k : Bool) (h : PH) : SO := if k = true then evSs C a s h else evSs C b s h
theorem iteC_t {a b : Ss} {s : PSt} {h : PH} : iteC C a b s true h = evSs C a s h := rfl
theorem iteC_f {a b : Ss} {s : PSt} {h : PH} : iteC C a b s false h = evSs C b s h := rfl
theorem iteC_d {a b : Ss} {s : PSt} {h : PH} {p : Prop} [Decidable p] : iteC C a b s (decide p) h = if p then evSs C a s h else evSs C b s h := by unfold iteC; by_cases q : p <;> simp [q]
theorem s_ite {c : T} {a b : Ss} {s : PSt} {h : PH} : evS C (.ite c a b) s h = (evT C c s h).sbnd (iteC C a b s) := by unfold evS; rfl
theorem s_asg {t : Tg} {e : E} {s : PSt} {h : PH} : evS C (.asg t e) s h = (evE C e s h).sbnd fun v h => (evG C t v s h).sbnd SO.nx := by unfold evS; rfl
theorem s_ret {e : E} {s : PSt} {h : PH} : evS C (.ret e) s h = (evE C e s h).sbnd SO.rt := by unfold evS; rfl
theorem s_ex {e : E} {s : PSt} {h : PH} : evS C (.ex e) s h = (evE C e s h).sbnd fun _ h => .nx s h := by unfold evS; rfl
/-- a while -/
def whlC (C : Str → List PV → PH → Out PV) (c : T) (b : Ss) (s : PSt) (h : PH) : SO := whl (evT C c) (evSs C b) big s h
theorem s_whl {c : T} {b : Ss} {s : PSt} {h : PH} : evS C (.whl c b) s h = whlC C c b s h := by unfold evS; rfl
/-- a for -/
def forC (C : Str → List PV → PH → Out PV) (t : Tg) (b : Ss) (s : PSt) (r : Itr) (h : PH) : SO := forI (evG C t) (evSs C b) r r.fuel 0 s h
theorem s_for {t : Tg} {it : It} {b : Ss} {s : PSt} {h : PH} : evS C (.frr t it b) s h = (evI C it s h).sbnd (forC C t b s) := by unfold evS; rfl
end
theorem slot_at {s : PSt} {i : Nat} {h : PH} {v : PV} (e : s[i]? = some (some v)) : slot s i h = .ok v h := by unfold slot; rw [e]
theorem pix_in {n : Nat} {i : Int} (h1 : 0 ≤ i) (h2 : i < n) : pix n i = some i.toNat := by
  unfold pix L2.ixN
  split <;> first | rfl | omega
theorem itemF_at {xs : List PV} {i : Int} {h : PH} {v : PV} (h1 : 0 ≤ i) (e : xs[i.toNat]? = some v) : itemF xs (.int i) h = .ok v h := by
  have h2 := (List.getElem?_eq_some_iff.mp e).1
  simp only [itemF, pix_in h1 (by omega : i < xs.length), Option.bind_some, e]
theorem sub_l {l : Nat} {xs : List PV} {h : PH} (e : h[l]? = some (.lst xs)) (y : PV) : subF (.ref l) y h = itemF xs y h := by simp only [subF, e]
theorem sub_t {xs : List PV} {y : PV} {h : PH} : subF (.tup xs) y h = itemF xs y h := rfl
theorem sub_d {l : Nat} {kvs : List (PV × PV)} {h : PH} (e : h[l]? = some (.dic kvs)) (y : PV) : subF (.ref l) y h = lookF kvs y h := by simp only [subF, e]
theorem item0 {x : PV} {r : List PV} {h : PH} : itemF (x :: r) (.int 0) h = .ok x h := itemF_at (by decide) rfl
theorem item1 {x y : PV} {r : List PV} {h : PH} : itemF (x :: y :: r) (.int 1) h = .ok y h := itemF_at (by decide) rfl
theorem item2 {x y z : PV} {r : List PV} {h : PH} : itemF (x :: y :: z :: r) (.int 2) h = .ok z h := itemF_at (by decide) rfl
theorem item3 {x y z w : PV} {r : List PV} {h : PH} : itemF (x :: y :: z :: w :: r) (.int 3) h = .ok w h := itemF_at (by decide) rfl
theorem b_add {i j : Int} {h : PH} : binF .Add (.int i) (.int j) h = .ok (.int (i + j)) h := rfl
theorem b_sub {i j : Int} {h : PH} : binF .Sub (.int i) (.int j) h = .ok (.int (i - j)) h := rfl
theorem b_mul {i j : Int} {h : PH} (q : j.natAbs < 2 ^ 64) : binF .Mult (.int i) (.int j) h = .ok (.int (i * j)) h := if_pos (.inr q)
theorem b_mul' {i j : Int} {h : PH} (q : i.natAbs < 2 ^ 64) : binF .Mult (.int i) (.int j) h = .ok (.int (i * j)) h := if_pos (.inl q)
theorem b_div {i j : Int} {h : PH} (q : 0 < j) (q2 : j < 1073741824) : binF .FloorDiv (.int i) (.int j) h = .ok (.int (i / j)) h := if_pos ⟨q, q2⟩
theorem b_mod {i j : Int} {h : PH} (q : 0 < j) : binF .Mod (.int i) (.int j) h = .ok (.int (i % j)) h := if_pos q
theorem i_int {i : Int} {h : PH} : biF .int [.int i] h = .ok (.int i) h := rfl
theorem i_abs {i : Int} {h : PH} : biF .abs [.int i] h = .ok (.int (if i < 0 then -i else i)) h := rfl
theorem i_lenL {l : Nat} {xs : List PV} {h : PH} (e : h[l]? = some (.lst xs)) : biF .len [.ref l] h = .ok (.int xs.length) h := by simp only [biF, e]
theorem i_lenD {l : Nat} {xs : List (PV × PV)} {h : PH} (e : h[l]? = some (.dic xs)) : biF .len [.ref l] h = .ok (.int xs.length) h := by simp only [biF, e]
theorem i_lenT {xs : List PV} {h : PH} : biF .len [.tup xs] h = .ok (.int xs.length) h := rfl
theorem c_eqI {i j : Int} {h : PH} : cmpF .Eq (.int i) (.int j) h = .ok (.bl (decide (i = j))) h := rfl
theorem c_neI {i j : Int} {h : PH} : cmpF .NotEq (.int i) (.int j) h = .ok (.bl (!decide (i = j))) h := rfl
theorem c_eqS {i j : Str} {h : PH} : cmpF .Eq (.str i) (.str j) h = .ok (.bl (decide (i = j))) h := rfl
theorem c_neS {i j : Str} {h : PH} : cmpF .NotEq (.str i) (.str j) h = .ok (.bl (!decide (i = j))) h := rfl
theorem c_lt {i j : Int} {h : PH} : cmpF .Lt (.int i) (.int j) h = .ok (.bl (decide (i < j))) h := rfl
theorem c_le {i j : Int} {h : PH} : cmpF .LtE (.int i) (.int j) h = .ok (.bl (decide (i ≤ j))) h := rfl
theorem c_gt {i j : Int} {h : PH} : cmpF .Gt (.int i) (.int j) h = .ok (.bl (decide (j < i))) h := rfl
theorem c_ge {i j : Int} {h : PH} : cmpF .GtE (.int i) (.int j) h = .ok (.bl (decide (j ≤ i))) h := rfl
theorem asB_bl {b : Bool} {h : PH} : asB (.bl b) h = .ok b h := rfl
theorem g_nm {C : Str → List PV → PH → Out PV} {i : Nat} {v : PV} {s : PSt} {h : PH} : evG C (.nm i) v s h = .ok (s.set i (some v)) h := rfl
theorem sub_lst {l : Nat} {xs : List PV} {y v : PV} {h : PH} (e : h[l]? = some (.lst xs)) (q : itemF xs y h = .ok v h) : subF (.ref l) y h = .ok v h := by
  simp only [subF, e, q]
theorem set_lst {l : Nat} {xs : List PV} {i : Int} {v : PV} {h : PH} (e : h[l]? = some (.lst xs)) (h1 : 0 ≤ i) (h2 : i < xs.length) : setF (.ref l) (.int i) v h = .ok () (h.set l (.lst (xs.set i.toNat v))) := by
  simp only [setF, e, pix_in h1 h2]
theorem lt_of_some {α : Type} {xs : List α} {i : Nat} {v : α} (e : xs[i]? = some v) : i < xs.length := (List.getElem?_eq_some_iff.mp e).1

section
variable {C : Str → List PV → PH → Out PV} {s : PSt} {h : PH} {a b c d e : E} {es : Es} {ks : Ks}
theorem e_non : evE C .non s h = .ok .non h := by unfold evE; rfl
theorem e_bl {x : Bool} : evE C (.bl x) s h = .ok (.bl x) h := by unfold evE; rfl
theorem e_int {x : Int} : evE C (.int x) s h = .ok (.int x) h := by unfold evE; rfl
theorem e_str {x : Str} : evE C (.str x) s h = .ok (.str x) h := by unfold evE; rfl
theorem e_var {i : Nat} : evE C (.var i) s h = slot s i h := by unfold evE; rfl
theorem e_bin {op : Operator} : evE C (.bin op a b) s h = (evE C a s h).bnd fun x h => (evE C b s h).bnd fun y h => binF op x y h := by conv => lhs; unfold evE
theorem e_neg : evE C (.neg a) s h = (evE C a s h).bnd fun x h => match x with
    | .int i => ok (.int (-i)) h
    | _ => bad := by
  conv => lhs; unfold evE
  all_goals rfl
theorem e_cmp {op : CmpOp} : evE C (.cmp op a b) s h = (evE C a s h).bnd fun x h => (evE C b s h).bnd fun y h => cmpF op x y h := by conv => lhs; unfold evE
theorem e_not : evE C (.not a) s h = (evE C a s h).bnd fun x h => (truth x h).bnd fun k h => ok (.bl (!k)) h := by conv => lhs; unfold evE
theorem e_ite {t : T} : evE C (.ite t a b) s h = (evT C t s h).bnd fun k h => if k = true then evE C a s h else evE C b s h := by conv => lhs; unfold evE
theorem e_tup : evE C (.tup es) s h = (evEs C es s h).bnd fun xs h => if xs.length ≤ sizeLine then ok (.tup xs) h else bad := by conv => lhs; unfold evE
theorem e_lst : evE C (.lst es) s h = (evEs C es s h).bnd fun xs h => if xs.length ≤ sizeLine then new (.lst xs) h else bad := by conv => lhs; unfold evE
theorem e_dic0 : evE C (.dic .nil) s h = new (.dic []) h := by
  conv => lhs; unfold evE
  unfold evD
  rfl
theorem e_sub : evE C (.sub a b) s h = (evE C a s h).bnd fun x h => (evE C b s h).bnd fun y h => subF x y h := by conv => lhs; unfold evE
theorem e_slc {lo hi : Pt} : evE C (.slc a lo hi) s h = (evE C a s h).bnd fun x h => (evP C lo s h).bnd fun y h => (evP C hi s h).bnd fun z h => slcF x y z h := by conv => lhs; unfold evE
theorem e_call {f : Str} : evE C (.call f es) s h = (evEs C es s h).bnd (C f) := by conv => lhs; unfold evE
theorem e_bi {f : Bi} : evE C (.bi f es) s h = (evEs C es s h).bnd (biF f) := by conv => lhs; unfold evE
def kindG (k1 k2 : Nat) (o : Out PV) : Out PV := if k1 = k2 then o else bad
theorem kindG_eq {k1 k2 : Nat} {o : Out PV} (e : k1 = k2) : kindG k1 k2 o = o := if_pos e
theorem kindG_same {k : Nat} {o : Out PV} : kindG k k o = o := if_pos rfl
theorem e_mt {m : Mt} : evE C (.mt m a es) s h = (evE C a s h).bnd fun x h1 => (evEs C es s h1).bnd fun xs h => kindG (kind x h1) (kind x h) (mtF m x xs h) := by
  conv => lhs; unfold evE
  all_goals rfl
theorem e_isi {f : Bi} : evE C (.isi f a) s h = (evE C a s h).bnd (isiF f) := by conv => lhs; unfold evE
theorem e_inv {n : Bool} : evE C (.inv n a d) s h = (evE C a s h).bnd fun x h => (evE C d s h).bnd fun y h => invF n x y h := by conv => lhs; unfold evE
theorem e_lrg {t : Bool} : evE C (.lrg t es) s h = (evEs C es s h).bnd (lrgF t) := by conv => lhs; unfold evE
/-- a comprehension's turn -/
def lcC (C : Str → List PV → PH → Out PV) (elt : E) (tg : Tg) (ifs : Ts) (s : PSt) (acc : List PV) (x : PV) (h : PH) : Out (List PV) :=
  (evG C tg x s h).bnd fun s2 h => (evTs C ifs s2 h).bnd fun k h => if k = true then (evE C elt s2 h).bnd fun y h => if acc.length < sizeLine then ok (acc ++ [y]) h else bad else ok acc h
def dcC (C : Str → List PV → PH → Out PV) (kx vx : E) (tg : Tg) (ifs : Ts) (s : PSt) (acc : List (PV × PV)) (x : PV) (h : PH) : Out (List (PV × PV)) :=
  (evG C tg x s h).bnd fun s2 h => (evTs C ifs s2 h).bnd fun k h => if k = true then (evE C kx s2 h).bnd fun y h => (evE C vx s2 h).bnd fun z h => if isKey y ∧ acc.length < sizeLine then ok (dPut acc y z) h else bad else ok acc h
theorem e_lc {tg : Tg} {it : It} {ifs : Ts} {own : List Nat} : evE C (.lc a tg it ifs own) s h = (evI C it s h).bnd fun r h => (each (lcC C a tg ifs (wipeP s own)) r [] h).bnd fun acc h => new (.lst acc) h := by
  conv => lhs; unfold evE
  all_goals rfl
theorem e_dc {tg : Tg} {it : It} {ifs : Ts} {own : List Nat} : evE C (.dc a b tg it ifs own) s h = (evI C it s h).bnd fun r h => (each (dcC C a b tg ifs (wipeP s own)) r [] h).bnd fun acc h => new (.dic acc) h := by
  conv => lhs; unfold evE
  all_goals rfl
end
/-! ### the first step to the front -/
theorem bnd_bnd {α β γ : Type} {o : Out α} {f : α → PH → Out β} {g : β → PH → Out γ} : (o.bnd f).bnd g = o.bnd fun v h => (f v h).bnd g := by cases o <;> rfl
theorem bnd_sbnd {α β : Type} {o : Out α} {f : α → PH → Out β} {g : β → PH → SO} : (o.bnd f).sbnd g = o.sbnd fun v h => (f v h).sbnd g := by cases o <;> rfl
theorem sbnd_seq {α : Type} {o : Out α} {f : α → PH → SO} {g : PSt → PH → SO} : (o.sbnd f).seq g = o.sbnd fun v h => (f v h).seq g := by cases o <;> rfl
def seqC (f g : PSt → PH → SO) (s : PSt) (h : PH) : SO := (f s h).seq g
theorem seq_seq {o : SO} {f g : PSt → PH → SO} : (o.seq f).seq g = o.seq (seqC f g) := by cases o <;> rfl
theorem seqC_ap {f g : PSt → PH → SO} {s : PSt} {h : PH} : seqC f g s h = (f s h).seq g := rfl
/-! ### what comes out -/
def Out.Ok {α : Type} (o : Out α) (Q : α → PH → Prop) : Prop :=
  match o with
  | .ok v h => Q v h
  | _ => False
def SO.To (o : SO) (Q : PSt → PH → Prop) : Prop :=
  match o with
  | .nx s h => Q s h
  | _ => False
def SO.Go (o : SO) (Q : PSt → PH → Prop) : Prop :=
  match o with
  | .nx s h => Q s h
  | .ct s h => Q s h
  | _ => False
def SO.Rt (o : SO) (Q : PV → PH → Prop) : Prop :=
  match o with
  | .rt v h => Q v h
  | _ => False
theorem ok_ok {α : Type} {v : α} {h : PH} {Q : α → PH → Prop} : (Out.ok v h).Ok Q = Q v h := rfl
theorem to_nx {s : PSt} {h : PH} {Q : PSt → PH → Prop} : (SO.nx s h).To Q = Q s h := rfl
theorem go_nx {s : PSt} {h : PH} {Q : PSt → PH → Prop} : (SO.nx s h).Go Q = Q s h := rfl
theorem go_ct {s : PSt} {h : PH} {Q : PSt → PH → Prop} : (SO.ct s h).Go Q = Q s h := rfl
theorem rt_rt {v : PV} {h : PH} {Q : PV → PH → Prop} : (SO.rt v h).Rt Q = Q v h := rfl
theorem Out.Ok.ex {α : Type} {o : Out α} {Q : α → PH → Prop} (e : o.Ok Q) : ∃ v h, o = .ok v h ∧ Q v h := by
  cases o with
  | ok v h => exact ⟨v, h, rfl, e⟩
  | exc _ _ => exact e.elim
  | bad => exact e.elim
theorem SO.To.ex {o : SO} {Q : PSt → PH → Prop} (e : o.To Q) : ∃ s h, o = .nx s h ∧ Q s h := by
  cases o <;> first | exact ⟨_, _, rfl, e⟩ | exact e.elim
theorem SO.Rt.ex {o : SO} {Q : PV → PH → Prop} (e : o.Rt Q) : ∃ s h, o = .rt s h ∧ Q s h := by
  cases o <;> first | exact ⟨_, _, rfl, e⟩ | exact e.elim
theorem Out.Ok.bnd {α β : Type} {o : Out α} {Q : α → PH → Prop} {f : α → PH → Out β} {R : β → PH → Prop} (e : o.Ok Q) (k : ∀ v h, Q v h → (f v h).Ok R) : (o.bnd f).Ok R := by
  obtain ⟨v, h, rfl, q⟩ := e.ex; exact k v h q
theorem Out.Ok.to {α : Type} {o : Out α} {Q : α → PH → Prop} {f : α → PH → SO} {R : PSt → PH → Prop} (e : o.Ok Q) (k : ∀ v h, Q v h → (f v h).To R) : (o.sbnd f).To R := by
  obtain ⟨v, h, rfl, q⟩ := e.ex; exact k v h q
theorem Out.Ok.go {α : Type} {o : Out α} {Q : α → PH → Prop} {f : α → PH → SO} {R : PSt → PH → Prop} (e : o.Ok Q) (k : ∀ v h, Q v h → (f v h).Go R) : (o.sbnd f).Go R := by
  obtain ⟨v, h, rfl, q⟩ := e.ex; exact k v h q
theorem Out.Ok.rt {α : Type} {o : Out α} {Q : α → PH → Prop} {f : α → PH → SO} {R : PV → PH → Prop} (e : o.Ok Q) (k : ∀ v h, Q v h → (f v h).Rt R) : (o.sbnd f).Rt R := by
  obtain ⟨v, h, rfl, q⟩ := e.ex; exact k v h q
theorem SO.To.to {o : SO} {Q : PSt → PH → Prop} {f : PSt → PH → SO} {R : PSt → PH → Prop} (e : o.To Q) (k : ∀ s h, Q s h → (f s h).To R) : (o.seq f).To R := by
  obtain ⟨v, h, rfl, q⟩ := e.ex; exact k v h q
theorem SO.To.go {o : SO} {Q : PSt → PH → Prop} {f : PSt → PH → SO} {R : PSt → PH → Prop} (e : o.To Q) (k : ∀ s h, Q s h → (f s h).Go R) : (o.seq f).Go R := by
  obtain ⟨v, h, rfl, q⟩ := e.ex; exact k v h q
theorem SO.To.rt {o : SO} {Q : PSt → PH → Prop} {f : PSt → PH → SO} {R : PV → PH → Prop} (e : o.To Q) (k : ∀ s h, Q s h → (f s h).Rt R) : (o.seq f).Rt R := by
  obtain ⟨v, h, rfl, q⟩ := e.ex; exact k v h q
theorem SO.To.mono {o : SO} {Q R : PSt → PH → Prop} (e : o.To Q) (k : ∀ s h, Q s h → R s h) : o.To R := by
  obtain ⟨v, h, rfl, q⟩ := e.ex; exact k v h q
theorem Out.Ok.mono {α : Type} {o : Out α} {Q R : α → PH → Prop} (e : o.Ok Q) (k : ∀ s h, Q s h → R s h) : o.Ok R := by
  obtain ⟨v, h, rfl, q⟩ := e.ex; exact k v h q

/-! ### loops by what holds at each turn -/
theorem forI_inv {g : PV → PSt → PH → Out PSt} {b : PSt → PH → SO} {it : Itr} {xs : List PV} (P : Nat → PSt → PH → Prop) (hit : ∀ i s h, P i s h → itStep it i h = some xs[i]?)
    (step : ∀ i x s h, xs[i]? = some x → P i s h → ((g x s h).sbnd b).Go (P (i + 1))) :
    ∀ (m n i : Nat) (s : PSt) (h : PH), xs.length - i = m → i ≤ xs.length → m < n → P i s h → (forI g b it n i s h).To (P xs.length) := by
  intro m
  induction m with
  | zero =>
    intro n i s h e1 e2 e3 p
    obtain ⟨n, rfl⟩ : ∃ k, n = k + 1 := ⟨n - 1, by omega⟩
    have : xs[i]? = none := List.getElem?_eq_none (by omega)
    unfold forI
    rw [hit i s h p, this]
    show P xs.length s h
    rw [show xs.length = i by omega]; exact p
  | succ m ih =>
    intro n i s h e1 e2 e3 p
    obtain ⟨n, rfl⟩ : ∃ k, n = k + 1 := ⟨n - 1, by omega⟩
    have hx : xs[i]? = some xs[i] := List.getElem?_eq_getElem (by omega)
    have e := step i xs[i] s h hx p
    unfold forI
    rw [hit i s h p, hx]
    cases eg : g xs[i] s h with
    | ok s0 h0 =>
      rw [eg] at e
      have e : (b s0 h0).Go (P (i + 1)) := e
      cases eb : b s0 h0 with
      | nx s1 h1 => rw [eb] at e; simp only [eg, Out.sbnd, eb]; exact ih n (i + 1) s1 h1 (by omega) (by omega) (by omega) e
      | ct s1 h1 => rw [eb] at e; simp only [eg, Out.sbnd, eb]; exact ih n (i + 1) s1 h1 (by omega) (by omega) (by omega) e
      | bk _ _ => rw [eb] at e; exact e.elim
      | rt _ _ => rw [eb] at e; exact e.elim
      | exc _ _ => rw [eb] at e; exact e.elim
      | bad => rw [eb] at e; exact e.elim
    | exc _ _ => rw [eg] at e; exact e.elim
    | bad => rw [eg] at e; exact e.elim
/-- a for whose turns all go on -/
theorem for_inv {C : Str → List PV → PH → Out PV} {t : Tg} {b : Ss} {it : Itr} {xs : List PV} {s : PSt} {h : PH} (P : Nat → PSt → PH → Prop) (hf : xs.length < it.fuel) (hit : ∀ i s h, P i s h → itStep it i h = some xs[i]?)
    (p : P 0 s h) (step : ∀ i x s h, xs[i]? = some x → P i s h → ((evG C t x s h).sbnd (evSs C b)).Go (P (i + 1))) : (forC C t b s it h).To (P xs.length) :=
  forI_inv P hit step _ _ 0 s h rfl (Nat.zero_le _) (by omega) p
theorem for_vals {C : Str → List PV → PH → Out PV} {t : Tg} {b : Ss} {xs : List PV} {s : PSt} {h : PH} (P : Nat → PSt → PH → Prop)
    (p : P 0 s h) (step : ∀ i x s h, xs[i]? = some x → P i s h → ((evG C t x s h).sbnd (evSs C b)).Go (P (i + 1))) : (forC C t b s (.vals xs) h).To (P xs.length) :=
  for_inv P (Nat.lt_succ_self _) (fun _ _ _ _ => rfl) p step
theorem for_lst {C : Str → List PV → PH → Out PV} {t : Tg} {b : Ss} {l : Nat} {xs : List PV} {s : PSt} {h : PH} (P : Nat → PSt → PH → Prop) (hz : xs.length ≤ sizeLine) (hl : ∀ i s h, P i s h → h[l]? = some (.lst xs))
    (p : P 0 s h) (step : ∀ i x s h, xs[i]? = some x → P i s h → ((evG C t x s h).sbnd (evSs C b)).Go (P (i + 1))) : (forC C t b s (.lst l) h).To (P xs.length) :=
  for_inv P (by show xs.length < sizeLine + 2; omega) (fun i s h p => by simp only [itStep, hl i s h p]) p step
theorem eachI_inv {α : Type} {f : α → PV → PH → Out α} {it : Itr} {xs : List PV} (P : Nat → α → PH → Prop) (hit : ∀ i a h, P i a h → itStep it i h = some xs[i]?)
    (step : ∀ i x a h, xs[i]? = some x → P i a h → (f a x h).Ok (P (i + 1))) :
    ∀ (m n i : Nat) (a : α) (h : PH), xs.length - i = m → i ≤ xs.length → m < n → P i a h → (eachI f it n i a h).Ok (P xs.length) := by
  intro m
  induction m with
  | zero =>
    intro n i s h e1 e2 e3 p
    obtain ⟨n, rfl⟩ : ∃ k, n = k + 1 := ⟨n - 1, by omega⟩
    have : xs[i]? = none := List.getElem?_eq_none (by omega)
    unfold eachI
    rw [hit i s h p, this]
    show P xs.length s h
    rw [show xs.length = i by omega]; exact p
  | succ m ih =>
    intro n i s h e1 e2 e3 p
    obtain ⟨n, rfl⟩ : ∃ k, n = k + 1 := ⟨n - 1, by omega⟩
    have hx : xs[i]? = some xs[i] := List.getElem?_eq_getElem (by omega)
    unfold eachI
    rw [hit i s h p, hx]
    exact (step i xs[i] s h hx p).bnd fun a1 h1 p1 => ih n (i + 1) a1 h1 (by omega) (by omega) (by omega) p1
theorem each_vals {α : Type} {f : α → PV → PH → Out α} {xs : List PV} {a : α} {h : PH} (P : Nat → α → PH → Prop)
    (p : P 0 a h) (step : ∀ i x a h, xs[i]? = some x → P i a h → (f a x h).Ok (P (i + 1))) : (each f (.vals xs) a h).Ok (P xs.length) :=
  eachI_inv P (fun _ _ _ _ => rfl) step _ _ 0 a h rfl (Nat.zero_le _) (Nat.lt_succ_of_le (by omega)) p
theorem each_lst {α : Type} {f : α → PV → PH → Out α} {l : Nat} {xs : List PV} {a : α} {h : PH} (P : Nat → α → PH → Prop) (hz : xs.length ≤ sizeLine) (hl : ∀ i a h, P i a h → h[l]? = some (.lst xs))
    (p : P 0 a h) (step : ∀ i x a h, xs[i]? = some x → P i a h → (f a x h).Ok (P (i + 1))) : (each f (.lst l) a h).Ok (P xs.length) :=
  eachI_inv P (fun i s h p => by simp only [itStep, hl i s h p]) step _ _ 0 a h rfl (Nat.zero_le _) (by show _ < sizeLine + 2; omega) p
/-- a while, by a measure -/
theorem whl_inv {c : PSt → PH → Out Bool} {b : PSt → PH → SO} (P : PSt → PH → Nat → Prop) (Q : PSt → PH → Prop)
    (step : ∀ s h m, P s h m → (c s h).Ok fun k h1 => if k = true then (b s h1).Go fun s' h' => ∃ m', m' < m ∧ P s' h' m' else Q s h1) :
    ∀ (n m : Nat) (s : PSt) (h : PH), m < n → P s h m → (whl c b n s h).To Q := by
  intro n
  induction n with
  | zero => intro m s h e; omega
  | succ n ih =>
    intro m s h e p
    unfold whl
    obtain ⟨k, h1, e1, q⟩ := (step s h m p).ex
    rw [e1, sbnd_ok]
    cases k with
    | false => rw [if_neg Bool.false_ne_true] at q ⊢; exact q
    | true =>
      rw [if_pos rfl] at q ⊢
      cases eb : b s h1 with
      | nx s1 h1 => rw [eb] at q; obtain ⟨m', lt, p'⟩ := q; exact ih m' s1 h1 (by omega) p'
      | ct s1 h1 => rw [eb] at q; obtain ⟨m', lt, p'⟩ := q; exact ih m' s1 h1 (by omega) p'
      | bk _ _ => rw [eb] at q; exact q.elim
      | rt _ _ => rw [eb] at q; exact q.elim
      | exc _ _ => rw [eb] at q; exact q.elim
      | bad => rw [eb] at q; exact q.elim
theorem whl_ok {C : Str → List PV → PH → Out PV} {c : T} {b : Ss} {s : PSt} {h : PH} (P : PSt → PH → Nat → Prop) (Q : PSt → PH → Prop) (m : Nat) (hm : m < big) (p : P s h m)
    (step : ∀ s h m, P s h m → (evT C c s h).Ok fun k h1 => if k = true then (evSs C b s h1).Go fun s' h' => ∃ m', m' < m ∧ P s' h' m' else Q s h1) : (whlC C c b s h).To Q := whl_inv P Q step big m s h hm p
/-- a call's body -/
theorem call_ok {T : Str → Option Df} {k : Nat} {f : Str} {d : Df} {xs : List PV} {h : PH} {Q : PV → PH → Prop} (e : T f = some d) (hl : xs.length = d.np) (hn : d.np ≤ d.ns)
    (q : (evSs (evCall T k) d.body (xs.map some ++ List.replicate (d.ns - d.np) none) h).Rt Q) : (evCall T (k + 1) f xs h).Ok Q := by
  obtain ⟨v, h', e2, q⟩ := q.ex
  simp only [evCall, e, hl, hn, e2]
  simp only [true_and, if_true]
  exact q
end MP

set_option Elab.async false
set_option linter.all false
set_option maxRecDepth 100000
set_option maxHeartbeats 4000000
namespace MP
open PySem
/-! ### the laws' draws -/
def b_draw : Ss :=
    (.cons (.asg (.nm 1) (.int 7))
    (.cons (.frr (.nm 2) (.ex (.var 0)) (.cons (.asg (.nm 1) (.bin .Mod (.bi .int (.cons (.bin .Add (.bin .Add (.bin .Mult (.var 1) (.int 48271)) (.bin .Mod (.bi .abs (.cons (.bi .int (.cons (.var 2) .nil)) .nil)) (.int 65521))) (.int 1)) .nil)) (.int 2147483647)))
    .nil))
    (.cons (.ret (.lst (.cons (.lc (.bi .abs (.cons (.bi .int (.cons (.var 2) .nil)) .nil)) (.nm 2) (.ex (.var 0)) .nil [2]) (.cons (.neg (.int 1)) (.cons (.int 0) (.cons (.var 1) .nil))))))
    .nil)))
def b_take : Ss :=
    (.cons (.ite (.cmp .Eq (.sub (.var 0) (.int 2)) (.int 0)) (.cons (.asg (.sub (.var 0) (.int 1)) (.bin .Add (.sub (.var 0) (.int 1)) (.int 1)))
    (.cons (.ite (.cmp .Lt (.sub (.var 0) (.int 1)) (.bi .len (.cons (.sub (.var 0) (.int 0)) .nil))) (.cons (.asg (.sub (.var 0) (.int 2)) (.sub (.sub (.var 0) (.int 0)) (.sub (.var 0) (.int 1))))
    .nil) .nil)
    (.cons (.ite (.cmp .Eq (.sub (.var 0) (.int 2)) (.int 0)) (.cons (.asg (.sub (.var 0) (.int 3)) (.bin .Mod (.bi .int (.cons (.bin .Add (.bin .Mult (.sub (.var 0) (.int 3)) (.int 48271)) (.int 11)) .nil)) (.int 2147483647)))
    (.cons (.asg (.sub (.var 0) (.int 2)) (.sub (.var 0) (.int 3)))
    .nil)) .nil)
    .nil))) .nil)
    (.cons (.asg (.nm 2) (.bin .Mod (.bi .int (.cons (.sub (.var 0) (.int 2)) .nil)) (.var 1)))
    (.cons (.asg (.sub (.var 0) (.int 2)) (.bin .FloorDiv (.sub (.var 0) (.int 2)) (.var 1)))
    (.cons (.ret (.var 2))
    .nil))))
/-- a draw stands at place l, its cells at c -/
def DrawO (c : Nat) (o : PO) : Prop := ∃ a b s : Int, o = .lst [.ref c, .int a, .int b, .int s] ∧ -1 ≤ a
section
variable {C : Str → List PV → PH → Out PV} {h : PH} {c l : Nat} {cs : List Int} {m a b s : Int} {ps : PSt}
theorem draw_sub {x : Nat} {xs : List PV} {v : PV} {k : Int} (e0 : ps[x]? = some (some (.ref l))) (ho : h[l]? = some (.lst xs)) (h1 : 0 ≤ k) (e : xs[k.toNat]? = some v) : evE C (.sub (.var x) (.int k)) ps h = .ok v h := by
  simp only [evE, slot_at e0, bnd_ok]
  exact sub_lst ho (itemF_at h1 e)
end
theorem take_ok {C : Str → List PV → PH → Out PV} {h : PH} {c l : Nat} {cs : List Int} {o : PO} {m : Int} (hc : h[c]? = some (.lst (cs.map PV.int))) (ho : h[l]? = some o) (hd : DrawO c o) (hne : c ≠ l) (h0 : 0 < m) (h1 : m < 1073741824) :
    ∃ (r : Int) (o' : PO), 0 ≤ r ∧ r < m ∧ DrawO c o' ∧ evSs C b_take [some (.ref l), some (.int m), none] h = .rt (.int r) (h.set l o') := by
  obtain ⟨a, b, s, rfl, ha⟩ := hd
  have hl : l < h.length := (List.getElem?_eq_some_iff.mp ho).1
  have hs : ∀ o, (h.set l o)[l]? = some o := fun o => List.getElem?_set_self hl
  have hs2 : ∀ o o', (h.set l o).set l o' = h.set l o' := fun o o' => List.set_set ..
  have hcs : ∀ o, (h.set l o)[c]? = some (.lst (cs.map PV.int)) := fun o => by rw [List.getElem?_set_ne (Ne.symm hne)]; exact hc
  -- the end, from a heap at which the draw's part is there
  have fin : ∀ (a b s : Int) (h' : PH), h'[l]? = some (.lst [.ref c, .int a, .int b, .int s]) → (∀ o', h'.set l o' = h.set l o') → -1 ≤ a → ∃ (r : Int) (o' : PO), 0 ≤ r ∧ r < m ∧ DrawO c o' ∧ evSs C (.cons (.asg (.nm 2) (.bin .Mod (.bi .int (.cons (.sub (.var 0) (.int 2)) .nil)) (.var 1)))
      (.cons (.asg (.sub (.var 0) (.int 2)) (.bin .FloorDiv (.sub (.var 0) (.int 2)) (.var 1))) (.cons (.ret (.var 2)) .nil))) [some (.ref l), some (.int m), none] h' = .rt (.int r) (h.set l o') := by
    intro a b s h' e1 e2 ha
    refine ⟨b % m, .lst [.ref c, .int a, .int (b / m), .int s], Int.emod_nonneg _ (by omega), Int.emod_lt_of_pos _ h0, ⟨a, b / m, s, rfl, ha⟩, ?_⟩
    simp [bnd_bnd, bnd_sbnd, sbnd_seq, seq_seq, seqC_ap, ss_cons, ss_nil, s_asg, s_ret, s_ite, s_ex, s_for, s_whl, e_non, e_bl, e_int, e_str, e_var, e_bin, e_neg, e_cmp, e_not, e_tup, e_lst, e_dic0, e_sub, e_call, e_bi, e_mt, kindG_same, e_isi, e_inv, e_lrg, e_lc, e_dc, wipeP, new, evEs, evT, evTs, evP, evI, evG, bnd_ok, sbnd_ok, seq_nx, seq_rt, to_nx, go_nx, go_ct, rt_rt, ok_ok, slot, item0, item1, item2, item3, sub_t, i_int, i_abs, i_lenT, c_eqI, c_neI, c_eqS, c_neS, c_lt, c_le, c_gt, c_ge, asB_bl, iteC_t, iteC_f, iteC_d, b_add, b_sub, b_mul, b_mod, sub_l e1, item2, i_int, b_mod h0, b_div h0 h1, set_lst e1, e2]
  have A : ∀ (a b s : Int) (h' : PH), h'[l]? = some (.lst [.ref c, .int a, .int b, .int s]) → h'[c]? = some (.lst (cs.map PV.int)) → (∀ o', h'.set l o' = h.set l o') → -1 ≤ a → True := fun _ _ _ _ _ _ _ _ => True.intro
  by_cases hb : b = 0
  · subst hb
    by_cases ha2 : a + 1 < cs.length
    · obtain ⟨x, hx⟩ : ∃ x, cs[(a + 1).toNat]? = some x := ⟨cs[(a + 1).toNat]'(by omega), List.getElem?_eq_getElem (by omega)⟩
      have hx' : itemF (cs.map PV.int) (.int (a + 1)) = Out.ok (.int x) := by funext h; exact itemF_at (by omega) (by rw [List.getElem?_map, hx]; rfl)
      by_cases hx0 : x = 0
      · subst hx0
        obtain ⟨r, o', f1, f2, f3, f4⟩ := fin (a + 1) ((s * 48271 + 11) % 2147483647) ((s * 48271 + 11) % 2147483647) (h.set l (.lst [.ref c, .int (a + 1), .int ((s * 48271 + 11) % 2147483647), .int ((s * 48271 + 11) % 2147483647)])) (hs _) (fun o' => hs2 _ o') (by omega)
        refine ⟨r, o', f1, f2, f3, ?_⟩
        rw [← f4]
        unfold b_take
        simp [bnd_bnd, bnd_sbnd, sbnd_seq, seq_seq, seqC_ap, ss_cons, ss_nil, s_asg, s_ret, s_ite, s_ex, s_for, s_whl, e_non, e_bl, e_int, e_str, e_var, e_bin, e_neg, e_cmp, e_not, e_tup, e_lst, e_dic0, e_sub, e_call, e_bi, e_mt, kindG_same, e_isi, e_inv, e_lrg, e_lc, e_dc, wipeP, new, evEs, evT, evTs, evP, evI, evG, bnd_ok, sbnd_ok, seq_nx, seq_rt, to_nx, go_nx, go_ct, rt_rt, ok_ok, slot, item0, item1, item2, item3, sub_t, i_int, i_abs, i_lenT, c_eqI, c_neI, c_eqS, c_neS, c_lt, c_le, c_gt, c_ge, asB_bl, iteC_t, iteC_f, iteC_d, b_add, b_sub, b_mul, b_mod, sub_l ho, sub_l (hs _), sub_l (hcs _), item0, item1, item2, item3, i_int, set_lst ho, set_lst (hs _), hs2, c_eqI, c_lt, asB_bl, iteC_t, iteC_f, iteC_d, i_lenL (hcs _), b_add, ha2, hx', b_mul, b_mod]
      · obtain ⟨r, o', f1, f2, f3, f4⟩ := fin (a + 1) x s (h.set l (.lst [.ref c, .int (a + 1), .int x, .int s])) (hs _) (fun o' => hs2 _ o') (by omega)
        refine ⟨r, o', f1, f2, f3, ?_⟩
        rw [← f4]
        unfold b_take
        simp [bnd_bnd, bnd_sbnd, sbnd_seq, seq_seq, seqC_ap, ss_cons, ss_nil, s_asg, s_ret, s_ite, s_ex, s_for, s_whl, e_non, e_bl, e_int, e_str, e_var, e_bin, e_neg, e_cmp, e_not, e_tup, e_lst, e_dic0, e_sub, e_call, e_bi, e_mt, kindG_same, e_isi, e_inv, e_lrg, e_lc, e_dc, wipeP, new, evEs, evT, evTs, evP, evI, evG, bnd_ok, sbnd_ok, seq_nx, seq_rt, to_nx, go_nx, go_ct, rt_rt, ok_ok, slot, item0, item1, item2, item3, sub_t, i_int, i_abs, i_lenT, c_eqI, c_neI, c_eqS, c_neS, c_lt, c_le, c_gt, c_ge, asB_bl, iteC_t, iteC_f, iteC_d, b_add, b_sub, b_mul, b_mod, sub_l ho, sub_l (hs _), sub_l (hcs _), item0, item1, item2, item3, i_int, set_lst ho, set_lst (hs _), hs2, c_eqI, c_lt, asB_bl, iteC_t, iteC_f, iteC_d, i_lenL (hcs _), b_add, ha2, hx', b_mul, b_mod, hx0]
    · obtain ⟨r, o', f1, f2, f3, f4⟩ := fin (a + 1) ((s * 48271 + 11) % 2147483647) ((s * 48271 + 11) % 2147483647) (h.set l (.lst [.ref c, .int (a + 1), .int ((s * 48271 + 11) % 2147483647), .int ((s * 48271 + 11) % 2147483647)])) (hs _) (fun o' => hs2 _ o') (by omega)
      refine ⟨r, o', f1, f2, f3, ?_⟩
      rw [← f4]
      unfold b_take
      simp [bnd_bnd, bnd_sbnd, sbnd_seq, seq_seq, seqC_ap, ss_cons, ss_nil, s_asg, s_ret, s_ite, s_ex, s_for, s_whl, e_non, e_bl, e_int, e_str, e_var, e_bin, e_neg, e_cmp, e_not, e_tup, e_lst, e_dic0, e_sub, e_call, e_bi, e_mt, kindG_same, e_isi, e_inv, e_lrg, e_lc, e_dc, wipeP, new, evEs, evT, evTs, evP, evI, evG, bnd_ok, sbnd_ok, seq_nx, seq_rt, to_nx, go_nx, go_ct, rt_rt, ok_ok, slot, item0, item1, item2, item3, sub_t, i_int, i_abs, i_lenT, c_eqI, c_neI, c_eqS, c_neS, c_lt, c_le, c_gt, c_ge, asB_bl, iteC_t, iteC_f, iteC_d, b_add, b_sub, b_mul, b_mod, sub_l ho, sub_l (hs _), sub_l (hcs _), item0, item1, item2, item3, i_int, set_lst ho, set_lst (hs _), hs2, c_eqI, c_lt, asB_bl, iteC_t, iteC_f, iteC_d, i_lenL (hcs _), b_add, ha2, b_mul, b_mod]
  · obtain ⟨r, o', f1, f2, f3, f4⟩ := fin a b s h ho (fun o' => rfl) ha
    refine ⟨r, o', f1, f2, f3, ?_⟩
    rw [← f4]
    unfold b_take
    simp [bnd_bnd, bnd_sbnd, sbnd_seq, seq_seq, seqC_ap, ss_cons, ss_nil, s_asg, s_ret, s_ite, s_ex, s_for, s_whl, e_non, e_bl, e_int, e_str, e_var, e_bin, e_neg, e_cmp, e_not, e_tup, e_lst, e_dic0, e_sub, e_call, e_bi, e_mt, kindG_same, e_isi, e_inv, e_lrg, e_lc, e_dc, wipeP, new, evEs, evT, evTs, evP, evI, evG, bnd_ok, sbnd_ok, seq_nx, seq_rt, to_nx, go_nx, go_ct, rt_rt, ok_ok, slot, item0, item1, item2, item3, sub_t, i_int, i_abs, i_lenT, c_eqI, c_neI, c_eqS, c_neS, c_lt, c_le, c_gt, c_ge, asB_bl, iteC_t, iteC_f, iteC_d, b_add, b_sub, b_mul, b_mod, sub_l ho, item2, c_eqI, asB_bl, hb]
/-- the first draw -/
theorem draw_ok {C : Str → List PV → PH → Out PV} (ns : List Int) (hz : ns.length ≤ 63) : (evSs C b_draw [some (.fro (ns.map PV.int)), none, none] []).Rt fun v h => v = .ref 1 ∧ ∃ (cs : List Int) (o : PO), DrawO 0 o ∧ h = [.lst (cs.map PV.int), o] := by
  unfold b_draw
  simp only [bnd_bnd, bnd_sbnd, sbnd_seq, seq_seq, seqC_ap, ss_cons, ss_nil, s_asg, s_ret, s_ite, s_ex, s_for, s_whl, e_non, e_bl, e_int, e_str, e_var, e_bin, e_neg, e_cmp, e_not, e_tup, e_lst, e_dic0, e_sub, e_call, e_bi, e_mt, kindG_same, e_isi, e_inv, e_lrg, e_lc, e_dc, wipeP, new, evEs, evT, evTs, evP, evI, evG, bnd_ok, sbnd_ok, seq_nx, seq_rt, to_nx, go_nx, go_ct, rt_rt, ok_ok, slot, item0, item1, item2, item3, sub_t, i_int, i_abs, i_lenT, c_eqI, c_neI, c_eqS, c_neS, c_lt, c_le, c_gt, c_ge, asB_bl, iteC_t, iteC_f, iteC_d, b_add, b_sub, b_mul, b_mod]
  refine SO.To.rt (for_vals (fun _ s' h' => ∃ (sd : Int) (z : Option PV), s' = [some (.fro (ns.map PV.int)), some (.int sd), z] ∧ h' = []) ⟨7, none, rfl, rfl⟩ fun i x s h hx p => ?_) fun s h p => ?_
  · obtain ⟨sd, z, rfl, rfl⟩ := p
    rw [List.getElem?_map, Option.map_eq_some_iff] at hx
    obtain ⟨n, _, rfl⟩ := hx
    simp [bnd_bnd, bnd_sbnd, sbnd_seq, seq_seq, seqC_ap, ss_cons, ss_nil, s_asg, s_ret, s_ite, s_ex, s_for, s_whl, e_non, e_bl, e_int, e_str, e_var, e_bin, e_neg, e_cmp, e_not, e_tup, e_lst, e_dic0, e_sub, e_call, e_bi, e_mt, kindG_same, e_isi, e_inv, e_lrg, e_lc, e_dc, wipeP, new, evEs, evT, evTs, evP, evI, evG, bnd_ok, sbnd_ok, seq_nx, seq_rt, to_nx, go_nx, go_ct, rt_rt, ok_ok, slot, item0, item1, item2, item3, sub_t, i_int, i_abs, i_lenT, c_eqI, c_neI, c_eqS, c_neS, c_lt, c_le, c_gt, c_ge, asB_bl, iteC_t, iteC_f, iteC_d, b_add, b_sub, b_mul, b_mod]
  · obtain ⟨sd, z, rfl, rfl⟩ := p
    simp [bnd_bnd, bnd_sbnd, sbnd_seq, seq_seq, seqC_ap, ss_cons, ss_nil, s_asg, s_ret, s_ite, s_ex, s_for, s_whl, e_non, e_bl, e_int, e_str, e_var, e_bin, e_neg, e_cmp, e_not, e_tup, e_lst, e_dic0, e_sub, e_call, e_bi, e_mt, kindG_same, e_isi, e_inv, e_lrg, e_lc, e_dc, wipeP, new, evEs, evT, evTs, evP, evI, evG, bnd_ok, sbnd_ok, seq_nx, seq_rt, to_nx, go_nx, go_ct, rt_rt, ok_ok, slot, item0, item1, item2, item3, sub_t, i_int, i_abs, i_lenT, c_eqI, c_neI, c_eqS, c_neS, c_lt, c_le, c_gt, c_ge, asB_bl, iteC_t, iteC_f, iteC_d, b_add, b_sub, b_mul, b_mod]
    refine Out.Ok.rt (each_vals (fun i acc h => h = [] ∧ ∃ cs : List Int, acc = cs.map PV.int ∧ acc.length = i) ⟨rfl, [], rfl, rfl⟩ fun i x acc h hx p => ?_) fun acc h p => ?_
    · obtain ⟨rfl, cs, rfl, hl⟩ := p
      have hi := lt_of_some hx
      rw [List.getElem?_map, Option.map_eq_some_iff] at hx
      obtain ⟨n, _, rfl⟩ := hx
      have hz2 : (cs.map PV.int).length < sizeLine := by
        rw [List.length_map] at hi
        have : (63 : Nat) < sizeLine := by decide
        omega
      rw [List.length_map] at hz2
      simp [bnd_bnd, bnd_sbnd, sbnd_seq, seq_seq, seqC_ap, ss_cons, ss_nil, s_asg, s_ret, s_ite, s_ex, s_for, s_whl, e_non, e_bl, e_int, e_str, e_var, e_bin, e_neg, e_cmp, e_not, e_tup, e_lst, e_dic0, e_sub, e_call, e_bi, e_mt, kindG_same, e_isi, e_inv, e_lrg, e_lc, e_dc, wipeP, new, evEs, evT, evTs, evP, evI, evG, bnd_ok, sbnd_ok, seq_nx, seq_rt, to_nx, go_nx, go_ct, rt_rt, ok_ok, slot, item0, item1, item2, item3, sub_t, i_int, i_abs, i_lenT, c_eqI, c_neI, c_eqS, c_neS, c_lt, c_le, c_gt, c_ge, asB_bl, iteC_t, iteC_f, iteC_d, b_add, b_sub, b_mul, b_mod, lcC, hz2]
      exact ⟨⟨cs ++ [if n < 0 then -n else n], by simp⟩, by simpa using hl⟩
    · obtain ⟨rfl, cs, rfl, hl⟩ := p
      have : (4 : Nat) ≤ sizeLine := by decide
      simp [bnd_bnd, bnd_sbnd, sbnd_seq, seq_seq, seqC_ap, ss_cons, ss_nil, s_asg, s_ret, s_ite, s_ex, s_for, s_whl, e_non, e_bl, e_int, e_str, e_var, e_bin, e_neg, e_cmp, e_not, e_tup, e_lst, e_dic0, e_sub, e_call, e_bi, e_mt, kindG_same, e_isi, e_inv, e_lrg, e_lc, e_dc, wipeP, new, evEs, evT, evTs, evP, evI, evG, bnd_ok, sbnd_ok, seq_nx, seq_rt, to_nx, go_nx, go_ct, rt_rt, ok_ok, slot, item0, item1, item2, item3, sub_t, i_int, i_abs, i_lenT, c_eqI, c_neI, c_eqS, c_neS, c_lt, c_le, c_gt, c_ge, asB_bl, iteC_t, iteC_f, iteC_d, b_add, b_sub, b_mul, b_mod, this]
      exact ⟨⟨-1, 0, sd, rfl, by omega⟩, cs, rfl⟩
end MP

set_option Elab.async false
set_option linter.all false
set_option maxRecDepth 100000
set_option maxHeartbeats 4000000
namespace Lw
open PySem PySem.Spec PyProof.Rows L2 MP
def top (i : Nat) : Stmt := PySem.Challenge.pw_leasttiles_k42_moves_at_once.main.body.getD i (.Pass ⟨0, 0, 0, 0⟩)
/-! sequence(pairs, spare): pairs 0 spare 1 left 2 rows 3 free 4 d 5 other 6 s 7 -/
def b_sequence : Ss :=
    (.cons (.asg (.nm 2) (.dc (.var 5) (.var 7) (.tup [5, 7]) (.ex (.var 0)) (.cons (.cmp .NotEq (.var 5) (.var 7)) .nil) [5, 7]))
    (.cons (.asg (.nm 3) (.lst .nil))
    (.cons (.whl (.e (.var 2)) (.cons (.asg (.nm 4) (.bi .sorted (.cons (.lock 2 (.lc (.var 5) (.nm 5) (.keys (.var 2)) (.cons (.inv true (.var 5) (.var 2)) .nil) [5])) .nil)))
    (.cons (.ite (.e (.var 4)) (.cons (.frr (.nm 5) (.ex (.var 4)) (.cons (.ex (.mt .append (.var 3) (.cons (.tup (.cons (.str "move") (.cons (.var 5) (.cons (.mt .pop (.var 2) (.cons (.var 5) .nil)) .nil)))) .nil)))
    .nil))
    .nil) (.cons (.asg (.nm 5) (.bi .min (.cons (.var 2) .nil)))
    (.cons (.ex (.mt .append (.var 3) (.cons (.tup (.cons (.str "move") (.cons (.var 1) (.cons (.var 5) .nil)))) .nil)))
    (.cons (.frr (.nm 6) (.ex (.bi .list (.cons (.var 2) .nil))) (.cons (.ite (.cmp .Eq (.sub (.var 2) (.var 6)) (.var 5)) (.cons (.asg (.sub (.var 2) (.var 6)) (.var 1))
    .nil) .nil)
    .nil))
    .nil))))
    .nil)))
    (.cons (.ret (.var 3))
    .nil))))
def d_sequence : Df := ⟨2, 8, b_sequence⟩
abbrev s_sequence : Stmt := top 1
/-! _law_draw(script): script 0 seed 1 cell 2 -/
def b__law_draw : Ss :=
    (.cons (.asg (.nm 1) (.int 7))
    (.cons (.frr (.nm 2) (.ex (.var 0)) (.cons (.asg (.nm 1) (.bin .Mod (.bi .int (.cons (.bin .Add (.bin .Add (.bin .Mult (.var 1) (.int 48271)) (.bin .Mod (.bi .abs (.cons (.bi .int (.cons (.var 2) .nil)) .nil)) (.int 65521))) (.int 1)) .nil)) (.int 2147483647)))
    .nil))
    (.cons (.ret (.lst (.cons (.lc (.bi .abs (.cons (.bi .int (.cons (.var 2) .nil)) .nil)) (.nm 2) (.ex (.var 0)) .nil [2]) (.cons (.neg (.int 1)) (.cons (.int 0) (.cons (.var 1) .nil))))))
    .nil)))
def d__law_draw : Df := ⟨1, 3, b__law_draw⟩
abbrev s__law_draw : Stmt := top 3
/-! _law_take(draw, many): draw 0 many 1 found 2 -/
def b__law_take : Ss :=
    (.cons (.ite (.cmp .Eq (.sub (.var 0) (.int 2)) (.int 0)) (.cons (.asg (.sub (.var 0) (.int 1)) (.bin .Add (.sub (.var 0) (.int 1)) (.int 1)))
    (.cons (.ite (.cmp .Lt (.sub (.var 0) (.int 1)) (.bi .len (.cons (.sub (.var 0) (.int 0)) .nil))) (.cons (.asg (.sub (.var 0) (.int 2)) (.sub (.sub (.var 0) (.int 0)) (.sub (.var 0) (.int 1))))
    .nil) .nil)
    (.cons (.ite (.cmp .Eq (.sub (.var 0) (.int 2)) (.int 0)) (.cons (.asg (.sub (.var 0) (.int 3)) (.bin .Mod (.bi .int (.cons (.bin .Add (.bin .Mult (.sub (.var 0) (.int 3)) (.int 48271)) (.int 11)) .nil)) (.int 2147483647)))
    (.cons (.asg (.sub (.var 0) (.int 2)) (.sub (.var 0) (.int 3)))
    .nil)) .nil)
    .nil))) .nil)
    (.cons (.asg (.nm 2) (.bin .Mod (.bi .int (.cons (.sub (.var 0) (.int 2)) .nil)) (.var 1)))
    (.cons (.asg (.sub (.var 0) (.int 2)) (.bin .FloorDiv (.sub (.var 0) (.int 2)) (.var 1)))
    (.cons (.ret (.var 2))
    .nil))))
def d__law_take : Df := ⟨2, 3, b__law_take⟩
abbrev s__law_take : Stmt := top 4
/-! _law_rings(left): left 0 rings 1 seen 2 first 3 way 4 here 5 one 6 -/
def b__law_rings : Ss :=
    (.cons (.asg (.nm 1) (.int 0))
    (.cons (.asg (.nm 2) (.dic .nil))
    (.cons (.frr (.nm 3) (.ex (.bi .sorted (.cons (.bi .list (.cons (.var 0) .nil)) .nil))) (.cons (.asg (.nm 4) (.lst .nil))
    (.cons (.asg (.nm 5) (.var 3))
    (.cons (.whl (.and (.cmp .In (.var 5) (.var 0)) (.and (.cmp .NotIn (.var 5) (.var 4)) (.cmp .NotIn (.var 5) (.var 2)))) (.cons (.ex (.mt .append (.var 4) (.cons (.var 5) .nil)))
    (.cons (.asg (.nm 5) (.sub (.var 0) (.var 5)))
    .nil)))
    (.cons (.ite (.cmp .In (.var 5) (.var 4)) (.cons (.asg (.nm 1) (.bin .Add (.var 1) (.int 1)))
    .nil) .nil)
    (.cons (.frr (.nm 6) (.ex (.var 4)) (.cons (.asg (.sub (.var 2) (.var 6)) (.bl true))
    .nil))
    .nil))))))
    (.cons (.ret (.var 1))
    .nil))))
def d__law_rings : Df := ⟨1, 7, b__law_rings⟩
abbrev s__law_rings : Stmt := top 5
/-! law(script): script 0 draw 1 rest 2 pairs 3 k 4 d 5 order 6 spare 7 rows 8 left 9 s 10 words 11 r 12 row 13 -/
def b_law : Ss :=
    (.cons (.asg (.nm 1) (.call "_law_draw" (.cons (.var 0) .nil)))
    (.cons (.asg (.nm 2) (.lrg false (.cons (.int 10) .nil)))
    (.cons (.asg (.nm 3) (.lst .nil))
    (.cons (.frr (.nm 4) (.rng (.cons (.call "_law_take" (.cons (.var 1) (.cons (.int 9) .nil))) .nil)) (.cons (.asg (.nm 5) (.mt .pop (.var 2) (.cons (.call "_law_take" (.cons (.var 1) (.cons (.bi .len (.cons (.var 2) .nil)) .nil))) .nil)))
    (.cons (.ex (.mt .append (.var 3) (.cons (.tup (.cons (.var 5) (.cons (.call "_law_take" (.cons (.var 1) (.cons (.int 10) .nil))) .nil))) .nil)))
    .nil)))
    (.cons (.ite (.cmp .Eq (.call "_law_take" (.cons (.var 1) (.cons (.int 2) .nil))) (.int 0)) (.cons (.asg (.nm 6) (.lrg false (.cons (.int 9) .nil)))
    (.cons (.asg (.nm 3) (.lc (.tup (.cons (.var 4) (.cons (.mt .pop (.var 6) (.cons (.call "_law_take" (.cons (.var 1) (.cons (.bi .len (.cons (.var 6) .nil)) .nil))) .nil)) .nil))) (.nm 4) (.rng (.cons (.int 9) .nil)) .nil [4]))
    .nil)) .nil)
    (.cons (.asg (.nm 7) (.bin .Add (.int 10) (.call "_law_take" (.cons (.var 1) (.cons (.int 4) .nil)))))
    (.cons (.asg (.nm 8) (.call "sequence" (.cons (.bi .tuple (.cons (.var 3) .nil)) (.cons (.var 7) .nil))))
    (.cons (.asg (.nm 9) (.dic .nil))
    (.cons (.frr (.tup [5, 10]) (.ex (.var 3)) (.cons (.ite (.cmp .NotEq (.var 5) (.var 10)) (.cons (.asg (.sub (.var 9) (.var 5)) (.var 10))
    .nil) .nil)
    .nil))
    (.cons (.ite (.or (.not (.e (.isi .list (.var 8)))) (.cmp .NotEq (.bi .len (.cons (.var 8) .nil)) (.bin .Add (.bi .len (.cons (.var 9) .nil)) (.call "_law_rings" (.cons (.var 9) .nil))))) (.cons (.ret (.bl false))
    .nil) .nil)
    (.cons (.asg (.nm 11) (.dic .nil))
    (.cons (.frr (.nm 12) (.rng (.cons (.int 14) .nil)) (.cons (.asg (.sub (.var 11) (.var 12)) (.bin .Add (.int 100) (.var 12)))
    .nil))
    (.cons (.frr (.nm 13) (.ex (.var 8)) (.cons (.ite (.or (.cmp .NotEq (.bi .len (.cons (.var 13) .nil)) (.int 3)) (.or (.cmp .NotEq (.sub (.var 13) (.int 0)) (.str "move")) (.or (.cmp .NotIn (.sub (.var 13) (.int 1)) (.var 11)) (.cmp .NotIn (.sub (.var 13) (.int 2)) (.var 11))))) (.cons (.ret (.bl false))
    .nil) .nil)
    (.cons (.asg (.sub (.var 11) (.sub (.var 13) (.int 1))) (.sub (.var 11) (.sub (.var 13) (.int 2))))
    .nil)))
    (.cons (.frr (.nm 12) (.rng (.cons (.int 14) .nil)) (.cons (.ite (.and (.cmp .NotEq (.var 12) (.var 7)) (.cmp .NotEq (.sub (.var 11) (.var 12)) (.bin .Add (.int 100) (.mt .get (.var 9) (.cons (.var 12) (.cons (.var 12) .nil)))))) (.cons (.ret (.bl false))
    .nil) .nil)
    .nil))
    (.cons (.ret (.bl true))
    .nil)))))))))))))))
def d_law : Df := ⟨1, 14, b_law⟩
abbrev s_law : Stmt := top 6
def T (f : Str) : Option Df :=
  if f = "sequence" then some d_sequence else if f = "_law_draw" then some d__law_draw else if f = "_law_take" then some d__law_take else if f = "_law_rings" then some d__law_rings else if f = "law" then some d_law else none
theorem T_sequence : T "sequence" = some d_sequence := by unfold T; rw [if_pos rfl]
theorem T__law_draw : T "_law_draw" = some d__law_draw := by unfold T; rw [if_neg (by decide), if_pos rfl]
theorem T__law_take : T "_law_take" = some d__law_take := by unfold T; rw [if_neg (by decide), if_neg (by decide), if_pos rfl]
theorem T__law_rings : T "_law_rings" = some d__law_rings := by unfold T; rw [if_neg (by decide), if_neg (by decide), if_neg (by decide), if_pos rfl]
theorem T_law : T "law" = some d_law := by unfold T; rw [if_neg (by decide), if_neg (by decide), if_neg (by decide), if_neg (by decide), if_pos rfl]
def dd (n : Str) (s : Stmt) : He.DefD := ⟨(n, none), n, n, defArgs s, defBody s, defScope s, [], []⟩
def fns : List He.DefD := [dd "sequence" s_sequence, dd "_law_draw" s__law_draw, dd "_law_take" s__law_take, dd "_law_rings" s__law_rings, dd "law" s_law]
def fas : List He.Fa := [.glo "sequence", .glo "_law_draw", .glo "_law_take", .glo "_law_rings", .glo "law", .free "abs", .free "all", .free "any", .free "bool", .free "dict", .free "int", .free "len", .free "list", .free "max", .free "min", .free "sorted", .free "sum", .free "tuple", .free "isinstance", .free "range", .free "str"]
section
variable {K : Fg} {h : Heap} {mg : Str → Option Value}
theorem chk_sequence : chkSs ⟨["pairs", "spare", "left", "rows", "free", "d", "other", "s"], defScope s_sequence, none⟩ d_sequence.body (defBody s_sequence) = true := by decide +kernel
theorem sc_sequence : FnScope ["pairs", "spare", "left", "rows", "free", "d", "other", "s"] ["pairs", "spare"] (defScope s_sequence) := ⟨rfl, rfl, rfl, by decide +kernel, rfl, by decide +kernel, by decide +kernel⟩
theorem is_sequence (X : K.In h) (G : h.Ns mainGlobals mg) (c : He.SaysD fas fns K) : ∃ fd, DefIs K mg "sequence" d_sequence "sequence" "sequence" s_sequence (He.fAd K ("sequence", none)) fd ["pairs", "spare", "left", "rows", "free", "d", "other", "s"] ["pairs", "spare"] ∧ ∀ (s : Shared) (us : List Value), us.length = 2 → BindsTo s fd ⟨us, []⟩ ((["pairs", "spare"] : List Str).zip us) := by
  obtain ⟨fd, F⟩ := c.def_ 0 (d := dd "sequence" s_sequence) rfl
  exact ⟨fd, ⟨F, He.glo_ok X G (c.fact 0 (f := .glo "sequence") rfl), F.bindsN fun _ _ _ _ _ _ us hl => (match us, hl with | [_, _], _ => rfl), sc_sequence, chk_sequence, rfl, rfl⟩, fun s us hl => F.bindsA (fun _ _ _ _ _ _ us hl => (match us, hl with | [_, _], _ => rfl)) s us hl⟩
theorem chk__law_draw : chkSs ⟨["script", "seed", "cell"], defScope s__law_draw, none⟩ d__law_draw.body (defBody s__law_draw) = true := by decide +kernel
theorem sc__law_draw : FnScope ["script", "seed", "cell"] ["script"] (defScope s__law_draw) := ⟨rfl, rfl, rfl, by decide +kernel, rfl, by decide +kernel, by decide +kernel⟩
theorem is__law_draw (X : K.In h) (G : h.Ns mainGlobals mg) (c : He.SaysD fas fns K) : ∃ fd, DefIs K mg "_law_draw" d__law_draw "_law_draw" "_law_draw" s__law_draw (He.fAd K ("_law_draw", none)) fd ["script", "seed", "cell"] ["script"] ∧ ∀ (s : Shared) (us : List Value), us.length = 1 → BindsTo s fd ⟨us, []⟩ ((["script"] : List Str).zip us) := by
  obtain ⟨fd, F⟩ := c.def_ 1 (d := dd "_law_draw" s__law_draw) rfl
  exact ⟨fd, ⟨F, He.glo_ok X G (c.fact 1 (f := .glo "_law_draw") rfl), F.bindsN fun _ _ _ _ _ _ us hl => (match us, hl with | [_], _ => rfl), sc__law_draw, chk__law_draw, rfl, rfl⟩, fun s us hl => F.bindsA (fun _ _ _ _ _ _ us hl => (match us, hl with | [_], _ => rfl)) s us hl⟩
theorem chk__law_take : chkSs ⟨["draw", "many", "found"], defScope s__law_take, none⟩ d__law_take.body (defBody s__law_take) = true := by decide +kernel
theorem sc__law_take : FnScope ["draw", "many", "found"] ["draw", "many"] (defScope s__law_take) := ⟨rfl, rfl, rfl, by decide +kernel, rfl, by decide +kernel, by decide +kernel⟩
theorem is__law_take (X : K.In h) (G : h.Ns mainGlobals mg) (c : He.SaysD fas fns K) : ∃ fd, DefIs K mg "_law_take" d__law_take "_law_take" "_law_take" s__law_take (He.fAd K ("_law_take", none)) fd ["draw", "many", "found"] ["draw", "many"] ∧ ∀ (s : Shared) (us : List Value), us.length = 2 → BindsTo s fd ⟨us, []⟩ ((["draw", "many"] : List Str).zip us) := by
  obtain ⟨fd, F⟩ := c.def_ 2 (d := dd "_law_take" s__law_take) rfl
  exact ⟨fd, ⟨F, He.glo_ok X G (c.fact 2 (f := .glo "_law_take") rfl), F.bindsN fun _ _ _ _ _ _ us hl => (match us, hl with | [_, _], _ => rfl), sc__law_take, chk__law_take, rfl, rfl⟩, fun s us hl => F.bindsA (fun _ _ _ _ _ _ us hl => (match us, hl with | [_, _], _ => rfl)) s us hl⟩
theorem chk__law_rings : chkSs ⟨["left", "rings", "seen", "first", "way", "here", "one"], defScope s__law_rings, none⟩ d__law_rings.body (defBody s__law_rings) = true := by decide +kernel
theorem sc__law_rings : FnScope ["left", "rings", "seen", "first", "way", "here", "one"] ["left"] (defScope s__law_rings) := ⟨rfl, rfl, rfl, by decide +kernel, rfl, by decide +kernel, by decide +kernel⟩
theorem is__law_rings (X : K.In h) (G : h.Ns mainGlobals mg) (c : He.SaysD fas fns K) : ∃ fd, DefIs K mg "_law_rings" d__law_rings "_law_rings" "_law_rings" s__law_rings (He.fAd K ("_law_rings", none)) fd ["left", "rings", "seen", "first", "way", "here", "one"] ["left"] ∧ ∀ (s : Shared) (us : List Value), us.length = 1 → BindsTo s fd ⟨us, []⟩ ((["left"] : List Str).zip us) := by
  obtain ⟨fd, F⟩ := c.def_ 3 (d := dd "_law_rings" s__law_rings) rfl
  exact ⟨fd, ⟨F, He.glo_ok X G (c.fact 3 (f := .glo "_law_rings") rfl), F.bindsN fun _ _ _ _ _ _ us hl => (match us, hl with | [_], _ => rfl), sc__law_rings, chk__law_rings, rfl, rfl⟩, fun s us hl => F.bindsA (fun _ _ _ _ _ _ us hl => (match us, hl with | [_], _ => rfl)) s us hl⟩
theorem chk_law : chkSs ⟨["script", "draw", "rest", "pairs", "k", "d", "order", "spare", "rows", "left", "s", "words", "r", "row"], defScope s_law, none⟩ d_law.body (defBody s_law) = true := by decide +kernel
theorem sc_law : FnScope ["script", "draw", "rest", "pairs", "k", "d", "order", "spare", "rows", "left", "s", "words", "r", "row"] ["script"] (defScope s_law) := ⟨rfl, rfl, rfl, by decide +kernel, rfl, by decide +kernel, by decide +kernel⟩
theorem is_law (X : K.In h) (G : h.Ns mainGlobals mg) (c : He.SaysD fas fns K) : ∃ fd, DefIs K mg "law" d_law "law" "law" s_law (He.fAd K ("law", none)) fd ["script", "draw", "rest", "pairs", "k", "d", "order", "spare", "rows", "left", "s", "words", "r", "row"] ["script"] ∧ ∀ (s : Shared) (us : List Value), us.length = 1 → BindsTo s fd ⟨us, []⟩ ((["script"] : List Str).zip us) := by
  obtain ⟨fd, F⟩ := c.def_ 4 (d := dd "law" s_law) rfl
  exact ⟨fd, ⟨F, He.glo_ok X G (c.fact 4 (f := .glo "law") rfl), F.bindsN fun _ _ _ _ _ _ us hl => (match us, hl with | [_], _ => rfl), sc_law, chk_law, rfl, rfl⟩, fun s us hl => F.bindsA (fun _ _ _ _ _ _ us hl => (match us, hl with | [_], _ => rfl)) s us hl⟩
theorem modOk (X : K.In h) (G : h.Ns mainGlobals mg) (c : He.SaysD fas fns K) : ModOk mg where
  bi := fun f => by
    cases f
    · exact He.free_ok X G (c.fact 11 (f := .free "len") rfl)
    · exact He.free_ok X G (c.fact 5 (f := .free "abs") rfl)
    · exact He.free_ok X G (c.fact 10 (f := .free "int") rfl)
    · exact He.free_ok X G (c.fact 8 (f := .free "bool") rfl)
    · exact He.free_ok X G (c.fact 13 (f := .free "max") rfl)
    · exact He.free_ok X G (c.fact 14 (f := .free "min") rfl)
    · exact He.free_ok X G (c.fact 12 (f := .free "list") rfl)
    · exact He.free_ok X G (c.fact 17 (f := .free "tuple") rfl)
    · exact He.free_ok X G (c.fact 15 (f := .free "sorted") rfl)
    · exact He.free_ok X G (c.fact 16 (f := .free "sum") rfl)
    · exact He.free_ok X G (c.fact 7 (f := .free "any") rfl)
    · exact He.free_ok X G (c.fact 6 (f := .free "all") rfl)
    · exact He.free_ok X G (c.fact 9 (f := .free "dict") rfl)
    · exact He.free_ok X G (c.fact 18 (f := .free "isinstance") rfl)
    · exact He.free_ok X G (c.fact 18 (f := .free "isinstance") rfl)
    · exact He.free_ok X G (c.fact 20 (f := .free "str") rfl)
    · exact He.free_ok X G (c.fact 18 (f := .free "isinstance") rfl)
    · exact He.free_ok X G (c.fact 18 (f := .free "isinstance") rfl)
  range := He.free_ok X G (c.fact 19 (f := .free "range") rfl)
theorem defs_at (X : K.In h) (G : h.Ns mainGlobals mg) (c : He.SaysD fas fns K) (f : Str) (d : Df) (e : T f = some d) : DefAt K mg f d := by
  unfold T at e
  split at e
  · rename_i q; cases e; subst q; obtain ⟨fd, Di, _⟩ := is_sequence X G c; exact ⟨_, _, _, _, _, _, _, Di⟩
  split at e
  · rename_i q; cases e; subst q; obtain ⟨fd, Di, _⟩ := is__law_draw X G c; exact ⟨_, _, _, _, _, _, _, Di⟩
  split at e
  · rename_i q; cases e; subst q; obtain ⟨fd, Di, _⟩ := is__law_take X G c; exact ⟨_, _, _, _, _, _, _, Di⟩
  split at e
  · rename_i q; cases e; subst q; obtain ⟨fd, Di, _⟩ := is__law_rings X G c; exact ⟨_, _, _, _, _, _, _, Di⟩
  split at e
  · rename_i q; cases e; subst q; obtain ⟨fd, Di, _⟩ := is_law X G c; exact ⟨_, _, _, _, _, _, _, Di⟩
  cases e
end
abbrev R : PySem.W.OpenRow := PySem.W.OpenLaw.row PySem.Challenge.rw_leasttiles_k42_moves_at_once
abbrev hk : PySem.W.Hook := He.hookD 4 fas fns
def ob (s : PySem.W.SharedT) : He.AlD := He.obsDG 4 fas fns (HandSHeadRun.getT s)
theorem ob_eq (s : PySem.W.SharedT) : ob s = hk.obs s.abs := He.obsDG_eq (HandSHeadRun.getT_eq s)
theorem run (w : World) : HandSHeadRun.RunEq R (PySem.W.view R.prog [6]) hk ob 4000 ["sequence", "_law_draw", "_law_take", "_law_rings"] w := by
  intro os
  kernel_rfl
end Lw
namespace Lw
open PySem PySem.W PySem.Calls PyProof.Rows
theorem holds_of (holds : ∀ ns : List Int, ns.length ≤ 63 → ∃ h, MP.evCall Lw.T 12 "law" [.fro (ns.map MP.PV.int)] [] = .ok (.bl true) h) : PySem.Challenge.rw_leasttiles_k42_moves_at_once.Holds := by
  w_on; o_law
  refine HandSHeadRun.head_any (r := OpenLaw.row PySem.Challenge.rw_leasttiles_k42_moves_at_once) (q := view (OpenLaw.row PySem.Challenge.rw_leasttiles_k42_moves_at_once).prog [6]) (H := Lw.hk) (ob := Lw.ob) (M := 4000) (loose := ["sequence", "_law_draw", "_law_take", "_law_rings"]) (d := HandSHeadRun.topDef (OpenLaw.row PySem.Challenge.rw_leasttiles_k42_moves_at_once).prog 6) (kwd := []) Lw.ob_eq
    (by kernel_rfl) (fun s => by kernel_rfl) Lw.run (by kernel_rfl) (by kernel_rfl) (by kernel_rfl) (by rfl) (by first | assumption | decide +kernel) (by decide +kernel) ⟨rfl, rfl, rfl, rfl, rfl, by decide +kernel⟩ ?hw ?hc
  case hw => w_witness2
  case hc =>
    refine MP.law_end (l := PySem.Challenge.rw_leasttiles_k42_moves_at_once) (T := Lw.T) (dl := Lw.d_law) (k := 12) (n := 63) (fns := Lw.fns) (fas := Lw.fas) rfl (by decide) (by kernel_rfl) ⟨rfl, by decide, by decide⟩ (by kernel_rfl) Lw.T_law ?defs holds
    intro K mg h X G c
    obtain ⟨fd, Di, hb⟩ := Lw.is_law X G c
    exact ⟨Lw.modOk X G c, fun f d e => Lw.defs_at X G c f d e, _, _, _, _, _, _, Di, fun s u => hb s [u] rfl⟩
end Lw

set_option Elab.async false
set_option linter.all false
namespace Ring
open Classical
/-! ### rings of a partial map, by hand -/
def it (f : Int → Option Int) : Nat → Int → Option Int
  | 0, x => some x
  | n + 1, x => (it f n x).bind f
section
variable {f g : Int → Option Int} {x y z d : Int}
theorem it_add (m : Nat) : ∀ (n : Nat) (x : Int), it f (m + n) x = (it f m x).bind (it f n)
  | 0, x => by simp only [Nat.add_zero, it]; cases it f m x <;> rfl
  | n + 1, x => by
    show (it f (m + n) x).bind f = _
    rw [it_add m n x]
    cases it f m x <;> rfl
theorem it_one : it f 1 x = f x := rfl
def cyc (f : Int → Option Int) (x : Int) : Prop := ∃ k, 1 ≤ k ∧ it f k x = some x
def rep (f : Int → Option Int) (x : Int) : Prop := cyc f x ∧ ∀ k y, it f k x = some y → x ≤ y
theorem pred_of {k : Nat} (h : it f (k + 1) x = some y) : ∃ z, it f k x = some z ∧ f z = some y := by
  have h : (it f k x).bind f = some y := h
  exact Option.bind_eq_some_iff.mp h
/-- a cycle comes back late as well -/
theorem cyc_late (h : cyc f x) : ∀ N : Nat, ∃ n, N ≤ n ∧ 1 ≤ n ∧ it f n x = some x := by
  obtain ⟨k, hk, e⟩ := h
  intro N
  induction N with
  | zero => exact ⟨k, by omega, hk, e⟩
  | succ N ih =>
    obtain ⟨n, h1, h2, h3⟩ := ih
    refine ⟨n + k, by omega, by omega, ?_⟩
    rw [it_add, h3]
    exact e
theorem cyc_live (h : cyc f x) (n : Nat) : ∃ y, it f n x = some y := by
  obtain ⟨m, h1, _, h3⟩ := cyc_late h n
  cases e : it f n x with
  | some y => exact ⟨y, rfl⟩
  | none =>
    have : m = n + (m - n) := by omega
    rw [this, it_add, e] at h3
    cases h3
/-- each point of a cycle comes within its period -/
theorem it_mod {k : Nat} (hk : 1 ≤ k) (e : it f k x = some x) : ∀ j : Nat, ∃ i, i < k ∧ it f j x = it f i x := by
  intro j
  induction j using Nat.strongRecOn with
  | ind j ih =>
    by_cases h : j < k
    · exact ⟨j, h, rfl⟩
    · obtain ⟨i, h1, h2⟩ := ih (j - k) (by omega)
      refine ⟨i, h1, ?_⟩
      rw [← h2]
      have : j = k + (j - k) := by omega
      rw [this, it_add, e]
      show it f (j - k) x = it f (k + (j - k) - k) x
      rw [show k + (j - k) - k = j - k by omega]

/-! ### lists -/
theorem mem_at {y : Int} {l : List Int} (h : y ∈ l) : ∃ i, i < l.length ∧ l[i]? = some y := by
  obtain ⟨i, e⟩ := List.mem_iff_getElem?.mp h
  exact ⟨i, (List.getElem?_eq_some_iff.mp e).1, e⟩
theorem nodup_le : ∀ {l m : List Int}, l.Nodup → (∀ x ∈ l, x ∈ m) → l.length ≤ m.length
  | [], _, _, _ => Nat.zero_le _
  | x :: l, m, h, s => by
    have hx := s x (by simp)
    have h1 : l.length ≤ (m.erase x).length := nodup_le (List.nodup_cons.mp h).2 fun y hy => by
      have ne : y ≠ x := fun e => (List.nodup_cons.mp h).1 (e ▸ hy)
      exact (List.mem_erase_of_ne ne).mpr (s y (List.mem_cons_of_mem _ hy))
    have h2 := List.length_erase_of_mem hx
    have h3 := List.length_pos_of_mem hx
    simp only [List.length_cons]
    omega
theorem perm_of : ∀ {l m : List Int}, l.Nodup → (∀ x ∈ l, x ∈ m) → m.length ≤ l.length → m.Perm l
  | [], m, _, _, h => by
    have : m = [] := List.eq_nil_of_length_eq_zero (by simpa using h)
    rw [this]
  | x :: l, m, h, s, hl => by
    have hx := s x (by simp)
    have h2 := List.length_erase_of_mem hx
    have p : (m.erase x).Perm l := perm_of (List.nodup_cons.mp h).2 (fun y hy => by
      have ne : y ≠ x := fun e => (List.nodup_cons.mp h).1 (e ▸ hy)
      exact (List.mem_erase_of_ne ne).mpr (s y (List.mem_cons_of_mem _ hy))) (by simp only [List.length_cons] at hl; omega)
    exact (List.perm_cons_erase hx).trans (p.cons x)
theorem count_same {P Q : Int → Bool} : ∀ {l : List Int}, (∀ x ∈ l, P x = Q x) → l.countP P = l.countP Q
  | [], _ => rfl
  | x :: l, h => by
    rw [List.countP_cons, List.countP_cons, h x (by simp), count_same fun y hy => h y (List.mem_cons_of_mem _ hy)]
theorem count_one {P Q : Int → Bool} {d : Int} : ∀ {l : List Int}, l.Nodup → d ∈ l → P d = true → Q d = false → (∀ x ∈ l, x ≠ d → P x = Q x) → l.countP P = l.countP Q + 1
  | [], _, h, _, _, _ => by cases h
  | x :: l, hn, hd, hp, hq, h => by
    rw [List.countP_cons, List.countP_cons]
    have hn' := List.nodup_cons.mp hn
    by_cases e : x = d
    · subst e
      rw [hp, hq, count_same fun y hy => h y (List.mem_cons_of_mem _ hy) fun e => hn'.1 (e ▸ hy)]
      simp
    · have hd' : d ∈ l := by
        rcases List.mem_cons.mp hd with z | z
        · exact absurd z.symm e
        · exact z
      rw [h x (by simp) e, count_one hn'.2 hd' hp hq fun y hy => h y (List.mem_cons_of_mem _ hy)]
      omega
theorem count_none {P : Int → Bool} : ∀ {l : List Int}, (∀ x ∈ l, P x = false) → l.countP P = 0
  | [], _ => rfl
  | x :: l, h => by
    rw [List.countP_cons, h x (by simp), count_none fun y hy => h y (List.mem_cons_of_mem _ hy)]
    simp
noncomputable def rings (f : Int → Option Int) (l : List Int) : Nat := l.countP fun x => decide (rep f x)

/-! ### a point that nothing leads to is dropped -/
theorem no_cyc (h : ∀ x, f x ≠ some d) : ¬cyc f d := fun ⟨k, hk, e⟩ => by
  obtain ⟨k, rfl⟩ : ∃ j, k = j + 1 := ⟨k - 1, by omega⟩
  obtain ⟨z, _, hz⟩ := pred_of e
  exact h z hz
theorem it_drop (h : ∀ x, f x ≠ some d) (hg : ∀ x, x ≠ d → g x = f x) (hx : x ≠ d) : ∀ k, it g k x = it f k x ∧ it f k x ≠ some d
  | 0 => ⟨rfl, fun e => hx (Option.some.inj e)⟩
  | k + 1 => by
    obtain ⟨h1, h2⟩ := it_drop h hg hx k
    show (it g k x).bind g = (it f k x).bind f ∧ (it f k x).bind f ≠ some d
    rw [h1]
    cases e : it f k x with
    | none => exact ⟨rfl, nofun⟩
    | some z =>
      have : z ≠ d := fun q => h2 (by rw [e, q])
      exact ⟨hg z this, h z⟩
theorem rep_drop (h : ∀ x, f x ≠ some d) (hg : ∀ x, x ≠ d → g x = f x) (hx : x ≠ d) : rep g x ↔ rep f x := by
  have q := fun k => (it_drop h hg hx k).1
  unfold rep cyc
  simp only [q]
theorem rings_drop {l m : List Int} (h : ∀ x, f x ≠ some d) (hg : ∀ x, x ≠ d → g x = f x) (hd : d ∈ l) (hl : l.Nodup) (hm : m = l.filter fun x => decide (x ≠ d)) : rings g m = rings f l := by
  subst hm
  unfold rings
  rw [List.countP_filter]
  refine count_same fun x _ => ?_
  by_cases e : x = d
  · subst e
    have : ¬rep f x := fun z => no_cyc h z.1
    simp [this]
  · simp only [rep_drop h hg e, ne_eq, e, not_false_eq_true, decide_true, Bool.and_true]

/-! ### a ring is cut -/
structure Perm (f : Int → Option Int) (l : List Int) : Prop where
  nd : l.Nodup
  dom : ∀ x, (∃ y, f x = some y) ↔ x ∈ l
  to : ∀ x y, f x = some y → y ∈ l
  inj : ∀ x y z, f x = some z → f y = some z → x = y
theorem Perm.live (p : Perm f l) (hx : x ∈ l) : ∀ k, ∃ y, it f k x = some y ∧ y ∈ l
  | 0 => ⟨x, rfl, hx⟩
  | k + 1 => by
    obtain ⟨y, h1, h2⟩ := p.live hx k
    obtain ⟨z, hz⟩ := (p.dom y).mpr h2
    refine ⟨z, ?_, p.to y z hz⟩
    show (it f k x).bind f = some z
    rw [h1]
    exact hz
theorem Perm.back (p : Perm f l) : ∀ (i n : Nat) (y : Int), it f i x = some y → it f (n + i) x = some y → it f n x = some x
  | 0, n, y, h1, h2 => by
    cases h1
    exact h2
  | i + 1, n, y, h1, h2 => by
    obtain ⟨z, h3, h4⟩ := pred_of h1
    obtain ⟨w, h5, h6⟩ := pred_of (k := n + i) h2
    have : w = z := p.inj w z y h6 h4
    subst this
    exact p.back i n w h3 h5
theorem Perm.cyc (p : Perm f l) (hx : x ∈ l) : cyc f x := by
  apply Classical.byContradiction
  intro hn
  -- the first points are all different
  let w : List Int := (List.range (l.length + 1)).map fun k => (it f k x).getD 0
  have hw : ∀ y ∈ w, y ∈ l := by
    intro y hy
    obtain ⟨k, _, rfl⟩ := List.mem_map.mp hy
    obtain ⟨z, h1, h2⟩ := p.live hx k
    rw [h1]
    exact h2
  have nd : w.Nodup := by
    unfold List.Nodup
    rw [List.pairwise_map]
    refine List.Pairwise.imp ?_ (List.pairwise_lt_range (n := l.length + 1))
    intro a b lt e
    obtain ⟨y, h1, _⟩ := p.live hx a
    obtain ⟨z, h2, _⟩ := p.live hx b
    rw [h1, h2] at e
    have e : y = z := e
    subst e
    exact hn ⟨b - a, by omega, p.back a (b - a) y h1 (by rw [show b - a + a = b by omega]; exact h2)⟩
  have := nodup_le nd hw
  simp [w] at this
  omega
theorem rings_cut {l : List Int} {sp : Int} (p : Perm f l) (hd : d ∈ l) (hmin : ∀ x ∈ l, d ≤ x) (hsp : sp ∉ l) (hg : ∀ x, g x = if f x = some d then some sp else f x) : rings f l = rings g l + 1 := by
  obtain ⟨q, hq⟩ : ∃ q, f q = some d := by
    obtain ⟨k, hk, e⟩ := p.cyc hd
    obtain ⟨k, rfl⟩ : ∃ j, k = j + 1 := ⟨k - 1, by omega⟩
    obtain ⟨z, _, hz⟩ := pred_of e
    exact ⟨z, hz⟩
  have gsp : g sp = none := by
    rw [hg]
    have : f sp = none := by
      cases e : f sp with
      | none => rfl
      | some y => exact absurd ((p.dom sp).mp ⟨y, e⟩) hsp
    rw [this]; simp
  have T1 : ∀ (x : Int) (k : Nat) (y : Int), it g k x = some y → y ≠ sp → it f k x = some y ∧ ∀ j, j < k → it f j x ≠ some q := by
    intro x k
    induction k with
    | zero => exact fun y h _ => ⟨h, fun j hj => by omega⟩
    | succ k ih =>
      intro y h ne
      obtain ⟨z, h1, h2⟩ := pred_of h
      have zs : z ≠ sp := fun e => by rw [e, gsp] at h2; cases h2
      obtain ⟨h3, h4⟩ := ih z h1 zs
      rw [hg] at h2
      by_cases e : f z = some d
      · rw [if_pos e] at h2; exact absurd (Option.some.inj h2).symm ne
      · rw [if_neg e] at h2
        refine ⟨by show (it f k x).bind f = some y; rw [h3]; exact h2, fun j hj => ?_⟩
        by_cases hj2 : j < k
        · exact h4 j hj2
        · have : j = k := by omega
          subst this
          rw [h3]
          intro e2
          exact e ((Option.some.inj e2) ▸ hq)
  have T2 : ∀ (x : Int) (k : Nat), (∀ j, j < k → it f j x ≠ some q) → it g k x = it f k x := by
    intro x k
    induction k with
    | zero => exact fun _ => rfl
    | succ k ih =>
      intro h
      show (it g k x).bind g = (it f k x).bind f
      rw [ih fun j hj => h j (by omega)]
      cases e : it f k x with
      | none => rfl
      | some z =>
        show g z = f z
        rw [hg, if_neg]
        intro e2
        have ez : z = q := p.inj z q d e2 hq
        exact h k (by omega) (by rw [e, ez])
  have U : ∀ x, cyc f x → (∀ j, it f j x ≠ some q) ∨ ∃ j, it f j x = some q := fun x _ => by
    by_cases e : ∃ j, it f j x = some q
    · exact .inr e
    · exact .inl fun j hj => e ⟨j, hj⟩
  refine count_one p.nd hd ?_ ?_ fun x hx ne => ?_
  · refine decide_eq_true ⟨p.cyc hd, fun k y e => ?_⟩
    obtain ⟨z, h1, h2⟩ := p.live hd k
    rw [h1] at e
    cases e
    exact hmin _ h2
  · refine decide_eq_false fun ⟨⟨k, hk, e⟩, _⟩ => ?_
    obtain ⟨h1, h2⟩ := T1 d k d e fun z => hsp (z ▸ hd)
    obtain ⟨k, rfl⟩ : ∃ j, k = j + 1 := ⟨k - 1, by omega⟩
    obtain ⟨w, h3, h4⟩ := pred_of h1
    have ew : w = q := p.inj w q d h4 hq
    exact h2 k (by omega) (by rw [h3, ew])
  · congr 1
    refine propext ⟨fun ⟨hc, hm⟩ => ?_, fun ⟨⟨k, hk, e⟩, hm⟩ => ?_⟩
    · have nq : ∀ j, it f j x ≠ some q := fun j hj => by
        have : it f (j + 1) x = some d := by show (it f j x).bind f = some d; rw [hj]; exact hq
        have h1 := hm _ _ this
        have h2 := hmin x hx
        exact ne (by omega)
      have same : ∀ k, it g k x = it f k x := fun k => T2 x k fun j _ => nq j
      exact ⟨by obtain ⟨k, hk, e⟩ := hc; exact ⟨k, hk, (same k).trans e⟩, fun k y e => hm k y ((same k).symm.trans e)⟩
    · have xs : x ≠ sp := fun z => hsp (z ▸ hx)
      obtain ⟨h1, h2⟩ := T1 x k x e xs
      have nq : ∀ j, it f j x ≠ some q := fun j => by
        obtain ⟨i, hi, e2⟩ := it_mod hk h1 j
        rw [e2]
        exact h2 i hi
      have same : ∀ k, it g k x = it f k x := fun k => T2 x k fun j _ => nq j
      exact ⟨⟨k, hk, h1⟩, fun k y e => hm k y ((same k).trans e)⟩

/-! ### a way is walked -/
structure Way (f : Int → Option Int) (first : Int) (way : List Int) (here : Int) : Prop where
  at_ : ∀ i, i < way.length → it f i first = way[i]?
  end_ : it f way.length first = some here
theorem Way.nil : Way f x [] x := ⟨fun i h => by simp at h, rfl⟩
theorem Way.step {way : List Int} {here : Int} (w : Way f x way here) (e : f here = some y) : Way f x (way ++ [here]) y := by
  refine ⟨fun i hi => ?_, ?_⟩
  · by_cases h : i < way.length
    · rw [List.getElem?_append_left h]; exact w.at_ i h
    · have : i = way.length := by simp at hi; omega
      subst this
      rw [w.end_]
      simp
  · rw [List.length_append]
    show (it f way.length x).bind f = some y
    rw [w.end_]
    exact e
/-- what is seen is closed -/
def Closed (f : Int → Option Int) (S : List Int) : Prop := ∀ x ∈ S, ∀ y z, f x = some y → f y = some z → y ∈ S
theorem Closed.it {S : List Int} (c : Closed f S) (hx : x ∈ S) : ∀ (r : Nat) (y z : Int), it f r x = some y → f y = some z → y ∈ S
  | 0, y, z, e, _ => by cases e; exact hx
  | r + 1, y, z, e, h => by
    obtain ⟨w, h1, h2⟩ := pred_of e
    exact c w (c.it hx r w y h1 h2) y z h2 h
theorem Way.off {way S : List Int} {here : Int} (w : Way f x way here) (c : Closed f S) (hn : here ∉ way) (hS : f here = none ∨ here ∈ S) (hd : ∀ y ∈ way, y ∉ S) : way.countP (fun x => decide (rep f x)) = 0 := by
  refine count_none fun y hy => decide_eq_false fun ⟨hc, _⟩ => ?_
  obtain ⟨i, hi, e⟩ := mem_at hy
  have e1 : it f i x = some y := (w.at_ i hi).trans e
  have e2 : it f (way.length - i) y = some here := by
    have := w.end_
    rw [show way.length = i + (way.length - i) by omega, it_add, e1] at this
    exact this
  rcases hS with h | h
  · obtain ⟨z, hz⟩ := cyc_live hc (way.length - i + 1)
    have hz : (it f (way.length - i) y).bind f = some z := hz
    rw [e2] at hz
    have hz : f here = some z := hz
    rw [h] at hz
    cases hz
  · obtain ⟨n, h1, _, h3⟩ := cyc_late hc (way.length - i)
    rw [show n = (way.length - i) + (n - (way.length - i)) by omega, it_add, e2] at h3
    obtain ⟨z, hz⟩ := cyc_live hc 1
    exact hd y hy (c.it h _ y z h3 hz)
theorem least : ∀ {l : List Int}, l ≠ [] → ∃ m ∈ l, ∀ y ∈ l, m ≤ y
  | [], h => absurd rfl h
  | [x], _ => ⟨x, by simp, by simp⟩
  | x :: y :: r, _ => by
    obtain ⟨m, h1, h2⟩ := least (l := y :: r) (by simp)
    by_cases e : x ≤ m
    · refine ⟨x, by simp, fun z hz => ?_⟩
      rcases List.mem_cons.mp hz with q | q
      · omega
      · have := h2 z q; omega
    · refine ⟨m, List.mem_cons_of_mem _ h1, fun z hz => ?_⟩
      rcases List.mem_cons.mp hz with q | q
      · omega
      · exact h2 z q
theorem Way.on {way : List Int} {here : Int} (w : Way f x way here) (nd : way.Nodup) (hh : here ∈ way) : way.countP (fun x => decide (rep f x)) = 1 := by
  obtain ⟨j, hj, ej⟩ := mem_at hh
  have A : ∀ i, i < way.length → ∃ y, way[i]? = some y ∧ it f i x = some y := fun i hi => ⟨way[i], List.getElem?_eq_getElem hi, (w.at_ i hi).trans (List.getElem?_eq_getElem hi)⟩
  have ej' : it f j x = some here := (w.at_ j hj).trans ej
  have uniq : ∀ i k y, i < way.length → k < way.length → way[i]? = some y → way[k]? = some y → i = k := fun i k y hi hk h1 h2 => by
    have h1 := (List.getElem?_eq_some_iff.mp h1).2
    have h2 := (List.getElem?_eq_some_iff.mp h2).2
    exact (List.getElem_inj nd).mp (h1.trans h2.symm)
  -- from a point of the ring, the ring
  have toEnd : ∀ i y, i < way.length → it f i x = some y → it f (way.length - i) y = some here := fun i y hi e => by
    have := w.end_
    rw [show way.length = i + (way.length - i) by omega, it_add, e] at this
    exact this
  have closed : ∀ (r b : Nat) (y z : Int), j ≤ b → b < way.length → it f b x = some y → it f r y = some z → ∃ b', j ≤ b' ∧ b' < way.length ∧ it f b' x = some z := by
    intro r
    induction r with
    | zero => exact fun b y z h1 h2 h3 h4 => ⟨b, h1, h2, by cases h4; exact h3⟩
    | succ r ih =>
      intro b y z h1 h2 h3 h4
      obtain ⟨v, h5, h6⟩ := pred_of h4
      obtain ⟨b', h7, h8, h9⟩ := ih b y v h1 h2 h3 h5
      have h10 : it f (b' + 1) x = some z := by show (it f b' x).bind f = some z; rw [h9]; exact h6
      by_cases e : b' + 1 < way.length
      · exact ⟨b' + 1, by omega, e, h10⟩
      · refine ⟨j, Nat.le_refl _, hj, ?_⟩
        rw [ej', ← h10, show b' + 1 = way.length by omega, w.end_]
  have reach : ∀ (a b : Nat) (y z : Int), a < way.length → j ≤ b → b < way.length → it f a x = some y → it f b x = some z → ∃ n, 1 ≤ n ∧ it f n y = some z := by
    intro a b y z h1 h2 h3 h4 h5
    refine ⟨(way.length - a) + (b - j), by omega, ?_⟩
    rw [it_add, toEnd a y h1 h4]
    rw [show b = j + (b - j) by omega, it_add, ej'] at h5
    exact h5
  have hne : way.drop j ≠ [] := by
    intro e
    have := congrArg List.length e
    simp at this
    omega
  obtain ⟨m, hm, hmin⟩ := least hne
  have inDrop : ∀ y, y ∈ way.drop j ↔ ∃ b, j ≤ b ∧ b < way.length ∧ it f b x = some y := fun y => by
    constructor
    · intro h
      obtain ⟨i, hi⟩ := List.mem_iff_getElem?.mp h
      rw [List.getElem?_drop] at hi
      have lt := (List.getElem?_eq_some_iff.mp hi).1
      exact ⟨j + i, by omega, lt, (w.at_ _ lt).trans hi⟩
    · rintro ⟨b, h1, h2, h3⟩
      refine List.mem_iff_getElem?.mpr ⟨b - j, ?_⟩
      rw [List.getElem?_drop, show j + (b - j) = b by omega, ← w.at_ b h2]
      exact h3
  obtain ⟨b0, g1, g2, g3⟩ := (inDrop m).mp hm
  have hmw : m ∈ way := List.mem_of_mem_drop hm
  have := count_one (P := fun x => decide (rep f x)) (Q := fun _ => false) nd hmw (decide_eq_true ⟨?_, ?_⟩) rfl ?_
  · rw [this, count_none fun _ _ => rfl]
  · obtain ⟨n, hn, e⟩ := reach b0 b0 m m g2 g1 g2 g3 g3
    exact ⟨n, hn, e⟩
  · intro k y e
    obtain ⟨b', h7, h8, h9⟩ := closed k b0 m y g1 g2 g3 e
    exact hmin y ((inDrop y).mpr ⟨b', h7, h8, h9⟩)
  · intro y hy ne
    refine decide_eq_false fun ⟨hc, hr⟩ => ?_
    obtain ⟨i, hi, e⟩ := mem_at hy
    have e1 : it f i x = some y := (w.at_ i hi).trans e
    -- y stands on the ring
    have yon : y ∈ way.drop j := by
      obtain ⟨n, h1, _, h3⟩ := cyc_late hc (way.length - i)
      rw [show n = (way.length - i) + (n - (way.length - i)) by omega, it_add, toEnd i y hi e1] at h3
      obtain ⟨b', h7, h8, h9⟩ := closed _ j here y (Nat.le_refl _) hj ej' h3
      exact (inDrop y).mpr ⟨b', h7, h8, h9⟩
    obtain ⟨n, _, e2⟩ := reach i b0 y m hi g1 g2 e1 g3
    have h1 := hr n m e2
    have h2 := hmin y yon
    exact ne (by omega)
theorem Closed.way {way S : List Int} {here : Int} (c : Closed f S) (w : Way f x way here) (h : f here = none ∨ here ∈ way ∨ here ∈ S) : Closed f (S ++ way) := by
  intro a ha b z h1 h2
  rcases List.mem_append.mp ha with q | q
  · exact List.mem_append_left _ (c a q b z h1 h2)
  · obtain ⟨i, hi, e⟩ := mem_at q
    have e1 : Ring.it f i x = some a := (w.at_ i hi).trans e
    have e2 : Ring.it f (i + 1) x = some b := by show (Ring.it f i x).bind f = some b; rw [e1]; exact h1
    by_cases lt : i + 1 < way.length
    · rw [w.at_ _ lt] at e2
      exact List.mem_append_right _ (List.mem_of_getElem? e2)
    · rw [show i + 1 = way.length by omega, w.end_] at e2
      cases e2
      rcases h with h | h | h
      · rw [h] at h2; cases h2
      · exact List.mem_append_right _ h
      · exact List.mem_append_left _ h
end
end Ring

set_option Elab.async false
set_option linter.all false
namespace Ring
open Classical
/-! ### moves -/
def put (W : Int → Int) (d v : Int) : Int → Int := fun x => if x = d then v else W x
def run : List (Int × Int) → (Int → Int) → Int → Int
  | [], W => W
  | p :: r, W => run r (put W p.1 (W p.2))
theorem run_snoc : ∀ (R : List (Int × Int)) (p : Int × Int) (W : Int → Int), run (R ++ [p]) W = put (run R W) p.1 (run R W p.2)
  | [], p, W => rfl
  | q :: r, p, W => run_snoc r p _
def inR (x : Int) : Prop := 0 ≤ x ∧ x < 14
structure Inv (f0 : Int → Option Int) (sp : Int) (N : Nat) (K : List Int) (f : Int → Option Int) (R : List (Int × Int)) : Prop where
  nd : K.Nodup
  dom : ∀ x, (∃ y, f x = some y) ↔ x ∈ K
  spk : sp ∉ K
  key : ∀ x ∈ K, inR x
  val : ∀ x y, f x = some y → inR y
  cnt : R.length + K.length + rings f K = N
  reg : ∀ r ∈ R, inR r.1 ∧ inR r.2
  eff : ∀ W : Int → Int, (∀ d s, f d = some s → ∃ s0, f0 d = some s0 ∧ run R W s = W s0) ∧ ∀ r, r ∉ K → r ≠ sp → run R W r = (match f0 r with
    | some s0 => W s0
    | none => W r)
section
variable {f0 f g : Int → Option Int} {sp d s : Int} {N : Nat} {K : List Int} {R : List (Int × Int)}
theorem filter_len : ∀ {K : List Int}, K.Nodup → d ∈ K → (K.filter fun x => decide (x ≠ d)).length + 1 = K.length
  | [], _, h => by cases h
  | x :: K, hn, hd => by
    have hn' := List.nodup_cons.mp hn
    by_cases e : x = d
    · subst e
      have q : (K.filter fun y => decide (y ≠ x)) = K := List.filter_eq_self.mpr fun y hy => decide_eq_true (show y ≠ x from fun z => hn'.1 (z ▸ hy))
      rw [List.filter_cons_of_neg (by simp), q]
      rfl
    · have hd' : d ∈ K := by
        rcases List.mem_cons.mp hd with z | z
        · exact absurd z.symm e
        · exact z
      rw [List.filter_cons_of_pos (by simpa using e), List.length_cons, List.length_cons, filter_len hn'.2 hd']
theorem Inv.move (I : Inv f0 sp N K f R) (hsp : inR sp) (e : f d = some s) (hd : ∀ x, f x ≠ some d) (hg : ∀ x, g x = if x = d then none else f x) : Inv f0 sp N (K.filter fun x => decide (x ≠ d)) g (R ++ [(d, s)]) := by
  have dk : d ∈ K := (I.dom d).mp ⟨s, e⟩
  refine ⟨I.nd.filter _, fun x => ?_, fun h => I.spk (List.mem_filter.mp h).1, fun x h => I.key x (List.mem_filter.mp h).1, fun x y h => ?_, ?_, fun r hr => ?_, fun W => ⟨fun x y h => ?_, fun r hr hs => ?_⟩⟩
  · rw [hg, List.mem_filter]
    by_cases q : x = d
    · simp [q]
    · simp [q, I.dom x]
  · rw [hg] at h
    split at h
    · cases h
    · exact I.val x y h
  · have h1 := filter_len I.nd dk
    have h2 : rings g (K.filter fun x => decide (x ≠ d)) = rings f K := rings_drop hd (fun x hx => by rw [hg, if_neg hx]) dk I.nd rfl
    have h3 := I.cnt
    rw [List.length_append, h2]
    simp only [List.length_cons, List.length_nil]
    omega
  · rcases List.mem_append.mp hr with q | q
    · exact I.reg r q
    · have : r = (d, s) := by simpa using q
      subst this
      exact ⟨I.key d dk, I.val d s e⟩
  · rw [hg] at h
    split at h
    · cases h
    · obtain ⟨s0, h1, h2⟩ := (I.eff W).1 x y h
      refine ⟨s0, h1, ?_⟩
      rw [run_snoc]
      unfold put
      rw [if_neg (fun z => hd x (by rw [h, z]))]
      exact h2
  · rw [run_snoc]
    unfold put
    by_cases q : r = d
    · subst q
      obtain ⟨s0, h1, h2⟩ := (I.eff W).1 _ _ e
      rw [if_pos rfl, h1]
      exact h2
    · rw [if_neg q]
      refine (I.eff W).2 r (fun z => hr ?_) hs
      exact List.mem_filter.mpr ⟨z, by simpa using q⟩
theorem inj_of {v : Int → Int} : ∀ {K : List Int}, (K.map v).Nodup → ∀ x ∈ K, ∀ y ∈ K, v x = v y → x = y
  | [], _, x, hx, _, _, _ => by cases hx
  | z :: K, hn, x, hx, y, hy, e => by
    rw [List.map_cons] at hn
    have hn' := List.nodup_cons.mp hn
    rcases List.mem_cons.mp hx with h1 | h1 <;> rcases List.mem_cons.mp hy with h2 | h2
    · rw [h1, h2]
    · subst h1
      exact absurd (List.mem_map.mpr ⟨y, h2, e.symm⟩) hn'.1
    · subst h2
      exact absurd (List.mem_map.mpr ⟨x, h1, e⟩) hn'.1
    · exact inj_of hn'.2 x h1 y h2 e
theorem Inv.perm (I : Inv f0 sp N K f R) (h : ∀ d ∈ K, ∃ x, f x = some d) : Perm f K := by
  have p : (K.map fun x => (f x).getD 0).Perm K := perm_of I.nd (fun d hd => by
    obtain ⟨x, hx⟩ := h d hd
    exact List.mem_map.mpr ⟨x, (I.dom x).mp ⟨d, hx⟩, by rw [hx]; rfl⟩) (by rw [List.length_map]; exact Nat.le_refl _)
  refine ⟨I.nd, I.dom, fun x y e => ?_, fun x y z h1 h2 => ?_⟩
  · exact p.mem_iff.mp (List.mem_map.mpr ⟨x, (I.dom x).mp ⟨y, e⟩, by rw [e]; rfl⟩)
  · exact inj_of (p.nodup_iff.mpr I.nd) x ((I.dom x).mp ⟨z, h1⟩) y ((I.dom y).mp ⟨z, h2⟩) (by rw [h1, h2])
theorem Inv.cut (I : Inv f0 sp N K f R) (hsp : inR sp) (h : ∀ d ∈ K, ∃ x, f x = some d) (hd : d ∈ K) (hmin : ∀ x ∈ K, d ≤ x) (hg : ∀ x, g x = if f x = some d then some sp else f x) : Inv f0 sp N K g (R ++ [(sp, d)]) := by
  have p := I.perm h
  refine ⟨I.nd, fun x => ?_, I.spk, I.key, fun x y e => ?_, ?_, fun r hr => ?_, fun W => ⟨fun x y e => ?_, fun r hr hs => ?_⟩⟩
  · rw [hg, ← I.dom x]
    by_cases q : f x = some d
    · rw [if_pos q]
      exact ⟨fun _ => ⟨d, q⟩, fun _ => ⟨sp, rfl⟩⟩
    · rw [if_neg q]
  · rw [hg] at e
    split at e
    · cases e; exact hsp
    · exact I.val x y e
  · have h2 := rings_cut p hd hmin I.spk hg
    have h3 := I.cnt
    rw [List.length_append]
    simp only [List.length_cons, List.length_nil]
    omega
  · rcases List.mem_append.mp hr with q | q
    · exact I.reg r q
    · have : r = (sp, d) := by simpa using q
      subst this
      exact ⟨hsp, I.key d hd⟩
  · rw [hg] at e
    rw [run_snoc]
    unfold put
    split at e
    · rename_i q
      cases e
      obtain ⟨s0, h1, h2⟩ := (I.eff W).1 x d q
      exact ⟨s0, h1, by rw [if_pos rfl]; exact h2⟩
    · obtain ⟨s0, h1, h2⟩ := (I.eff W).1 x y e
      refine ⟨s0, h1, ?_⟩
      rw [if_neg (fun z : y = sp => I.spk (z ▸ p.to x y e))]
      exact h2
  · rw [run_snoc]
    unfold put
    rw [if_neg hs]
    exact (I.eff W).2 r hr hs
theorem Inv.start (hn : K.Nodup) (hd : ∀ x, (∃ y, f x = some y) ↔ x ∈ K) (hs : sp ∉ K) (hk : ∀ x ∈ K, inR x) (hv : ∀ x y, f x = some y → inR y) : Inv f sp (K.length + rings f K) K f [] := by
  refine ⟨hn, hd, hs, hk, hv, by simp, fun _ h => (by cases h), fun W => ⟨fun d s e => ⟨s, e, rfl⟩, fun r hr _ => ?_⟩⟩
  cases e : f r with
  | none => rfl
  | some y => exact absurd ((hd r).mp ⟨y, e⟩) hr
end
end Ring

set_option Elab.async false
set_option linter.all false
set_option maxRecDepth 100000
set_option maxHeartbeats 4000000
namespace K42
open PySem MP
open Out (ok bad)
/-! ### dicts of ints -/
def lk : List (Int × Int) → Int → Option Int
  | [], _ => none
  | p :: r, k => if p.1 = k then some p.2 else lk r k
def keys (L : List (Int × Int)) : List Int := L.map (·.1)
def dI (L : List (Int × Int)) : List (PV × PV) := L.map fun p => (.int p.1, .int p.2)
def putL (L : List (Int × Int)) (k v : Int) : List (Int × Int) := if k ∈ keys L then L.map (fun p => if p.1 = k then (p.1, v) else p) else L ++ [(k, v)]
theorem lk_key {k : Int} : ∀ {L : List (Int × Int)}, (∃ y, lk L k = some y) ↔ k ∈ keys L
  | [] => by simp [lk, keys]
  | p :: r => by
    unfold lk keys
    rw [List.map_cons, List.mem_cons]
    by_cases e : p.1 = k
    · simp [e]
    · rw [if_neg e]
      have := lk_key (k := k) (L := r)
      unfold keys at this
      rw [this]
      exact ⟨.inr, fun h => h.resolve_left fun z => e z.symm⟩
theorem lk_mem {k v : Int} : ∀ {L : List (Int × Int)}, lk L k = some v → (k, v) ∈ L
  | [], h => by simp [lk] at h
  | p :: r, h => by
    unfold lk at h
    split at h
    · rename_i e
      cases h
      subst e
      exact List.mem_cons_self
    · exact List.mem_cons_of_mem _ (lk_mem h)
theorem lk_of {k v : Int} : ∀ {L : List (Int × Int)}, (keys L).Nodup → (k, v) ∈ L → lk L k = some v
  | [], _, h => by cases h
  | p :: r, hn, h => by
    unfold lk
    have hn' := List.nodup_cons.mp (show (p.1 :: keys r).Nodup from hn)
    rcases List.mem_cons.mp h with e | e
    · subst e; rw [if_pos rfl]
    · rw [if_neg (fun z => hn'.1 (List.mem_map.mpr ⟨(k, v), e, z.symm⟩))]
      exact lk_of hn'.2 e
theorem vals_iff {d : Int} {L : List (Int × Int)} (hn : (keys L).Nodup) : d ∈ L.map (·.2) ↔ ∃ x, lk L x = some d := by
  constructor
  · intro h
    obtain ⟨p, hp, rfl⟩ := List.mem_map.mp h
    exact ⟨p.1, lk_of hn hp⟩
  · rintro ⟨x, hx⟩
    exact List.mem_map.mpr ⟨_, lk_mem hx, rfl⟩
theorem dGet_dI {k : Int} : ∀ {L : List (Int × Int)}, dGet (dI L) (.int k) = (lk L k).map PV.int
  | [] => rfl
  | p :: r => by
    show (if keyEq (.int p.1) (.int k) = true then some (PV.int p.2) else dGet (dI r) (.int k)) = (lk (p :: r) k).map PV.int
    unfold lk
    by_cases e : p.1 = k
    · simp [keyEq, e]
    · simp only [keyEq, e, decide_false, Bool.false_eq_true, if_false]
      exact dGet_dI
theorem dDrop_dI {k : Int} : ∀ {L : List (Int × Int)}, dDrop (dI L) (.int k) = dI (L.filter fun p => decide (p.1 ≠ k))
  | [] => rfl
  | p :: r => by
    have ih := dDrop_dI (k := k) (L := r)
    unfold dDrop dI at ih ⊢
    rw [List.map_cons]
    by_cases e : p.1 = k
    · rw [List.filter_cons_of_neg (by simp [keyEq, e]), List.filter_cons_of_neg (by simp [e])]
      exact ih
    · rw [List.filter_cons_of_pos (by simp [keyEq, e]), List.filter_cons_of_pos (by simp [e]), List.map_cons, ih]
theorem any_dI {k : Int} {L : List (Int × Int)} : ((dI L).any fun p => keyEq p.1 (.int k)) = decide (k ∈ keys L) := by
  unfold dI keys
  rw [List.any_map, Bool.eq_iff_iff, List.any_eq_true, decide_eq_true_eq, List.mem_map]
  constructor
  · rintro ⟨p, hp, e⟩; exact ⟨p, hp, by simpa [keyEq] using e⟩
  · rintro ⟨p, hp, e⟩; exact ⟨p, hp, by simpa [keyEq] using e⟩
theorem dPut_dI {k v : Int} {L : List (Int × Int)} : dPut (dI L) (.int k) (.int v) = dI (putL L k v) := by
  unfold dPut putL
  rw [any_dI]
  by_cases e : k ∈ keys L
  · simp only [e, decide_true, if_true]
    unfold dI
    rw [List.map_map, List.map_map]
    refine List.map_congr_left fun p _ => ?_
    by_cases q : p.1 = k <;> simp [keyEq, q]
  · simp only [e, decide_false, Bool.false_eq_true, if_false]
    simp [dI]
theorem keys_put {k v : Int} {L : List (Int × Int)} (h : k ∈ keys L) : keys (putL L k v) = keys L := by
  unfold putL
  rw [if_pos h]
  unfold keys
  rw [List.map_map]
  refine List.map_congr_left fun p _ => ?_
  by_cases q : p.1 = k <;> simp [q]
theorem lk_map {k v x : Int} : ∀ {L : List (Int × Int)}, lk (L.map fun p => if p.1 = k then (p.1, v) else p) x = if x = k then (lk L x).map fun _ => v else lk L x
  | [] => by simp [lk]
  | p :: r => by
    rw [List.map_cons]
    have ih := lk_map (k := k) (v := v) (x := x) (L := r)
    by_cases q : p.1 = k
    · rw [if_pos q]
      unfold lk
      by_cases e : p.1 = x
      · have : x = k := e.symm.trans q
        simp [e, this]
      · rw [if_neg e, if_neg e]; exact ih
    · rw [if_neg q]
      unfold lk
      by_cases e : p.1 = x
      · have : x ≠ k := fun z => q (e.trans z)
        simp [e, this]
      · rw [if_neg e, if_neg e]; exact ih
theorem lk_append {k v x : Int} : ∀ {L : List (Int × Int)}, lk (L ++ [(k, v)]) x = match lk L x with
    | some y => some y
    | none => if k = x then some v else none
  | [] => by simp [lk]
  | p :: r => by
    rw [List.cons_append]
    unfold lk
    by_cases e : p.1 = x
    · simp [e]
    · rw [if_neg e, if_neg e]; exact lk_append
theorem lk_put {k v x : Int} {L : List (Int × Int)} : lk (putL L k v) x = if x = k then some v else lk L x := by
  unfold putL
  by_cases h : k ∈ keys L
  · rw [if_pos h, lk_map]
    by_cases e : x = k
    · subst e
      obtain ⟨y, hy⟩ := lk_key.mpr h
      simp [hy]
    · simp [e]
  · rw [if_neg h, lk_append]
    by_cases e : x = k
    · subst e
      have : lk L x = none := by
        cases q : lk L x with
        | none => rfl
        | some y => exact absurd (lk_key.mp ⟨y, q⟩) h
      simp [this]
    · rw [if_neg e]
      cases q : lk L x with
      | none => simp [Ne.symm e]
      | some y => rfl
theorem lk_filter {k x : Int} : ∀ {L : List (Int × Int)}, lk (L.filter fun p => decide (p.1 ≠ k)) x = if x = k then none else lk L x
  | [] => by simp [lk]
  | p :: r => by
    have ih := lk_filter (k := k) (x := x) (L := r)
    by_cases q : p.1 = k
    · rw [List.filter_cons_of_neg (by simp [q]), ih]
      by_cases e : x = k
      · simp [e]
      · rw [if_neg e, if_neg e]
        conv => rhs; unfold lk
        rw [if_neg (fun z => e (z.symm.trans q))]
    · rw [List.filter_cons_of_pos (by simp [q])]
      unfold lk
      by_cases e : p.1 = x
      · have : x ≠ k := fun z => q (e.trans z)
        simp [e, this]
      · rw [if_neg e, if_neg e]; exact ih
theorem keys_filter {k : Int} {L : List (Int × Int)} : keys (L.filter fun p => decide (p.1 ≠ k)) = (keys L).filter fun x => decide (x ≠ k) := by
  unfold keys
  rw [List.filter_map]
  rfl
theorem ints_map (l : List Int) : intsOf (l.map PV.int) = some l := by
  induction l with
  | nil => rfl
  | cons x r ih => simp [intsOf, ih]
theorem dI_keys (L : List (Int × Int)) : (dI L).map (·.1) = (keys L).map PV.int := by simp [dI, keys]
theorem dI_vals (L : List (Int × Int)) : (dI L).map (·.2) = (L.map (·.2)).map PV.int := by simp [dI]
theorem dI_len (L : List (Int × Int)) : (dI L).length = L.length := by simp [dI]
theorem keys_len (L : List (Int × Int)) : (keys L).length = L.length := by simp [keys]
/-! ### heaps -/
theorem get_new {h : PH} {o : PO} {i : Nat} (lt : i < h.length) : (h ++ [o])[i]? = h[i]? := List.getElem?_append_left lt
theorem get_last {h : PH} {o : PO} : (h ++ [o])[h.length]? = some o := by simp
end K42

set_option Elab.async false
set_option linter.all false
set_option maxRecDepth 100000
set_option maxHeartbeats 4000000
namespace K42
open PySem MP
open Out (ok bad)
section
variable {C : Str → List PV → PH → Out PV} {h h' : PH} {s : PSt}
theorem lock_ok {i l : Nat} {e : E} {kvs : List (PV × PV)} {Q : PV → PH → Prop} (hs : s[i]? = some (some (.ref l))) (hl : h[l]? = some (.dic kvs))
    (q : (evE C e s (h.set l (.lck kvs))).Ok fun v h2 => ∃ kvs2, h2[l]? = some (.lck kvs2) ∧ Q v (h2.set l (.dic kvs2))) : (evE C (.lock i e) s h).Ok Q := by
  unfold evE
  rw [slot_at hs, bnd_ok]
  simp only [hl]
  refine q.bnd fun v h2 ⟨kvs2, h3, h4⟩ => ?_
  simp only [h3]
  exact h4
def freeE : E := .bi .sorted (.cons (.lock 2 (.lc (.var 5) (.nm 5) (.keys (.var 2)) (.cons (.inv true (.var 5) (.var 2)) .nil) [5])) .nil)
def freeL (L : List (Int × Int)) : List Int := (keys L).filter fun d => decide (d ∉ L.map (·.2))
theorem free_ok {L : List (Int × Int)} {p : Nat} {a0 a1 a3 a4 a5 a6 a7 : Option PV} (hp : h[p]? = some (.dic (dI L))) (hz : L.length < 64) :
    (evE C freeE [a0, a1, some (.ref p), a3, a4, a5, a6, a7] h).Ok fun v h' => ∃ q, v = .ref q ∧ h'[q]? = some (.lst ((sortI (freeL L)).map PV.int)) ∧ h.length ≤ q ∧ ∀ i, i < h.length → h'[i]? = h[i]? := by
  have lt := lt_of_some hp
  have hS : (64 : Nat) ≤ sizeLine := by decide
  unfold freeE
  simp only [e_bi, evEs, bnd_bnd, bnd_ok]
  refine Out.Ok.bnd (Q := fun v h' => v = .ref h.length ∧ h' = h ++ [.lst ((freeL L).map PV.int)]) (lock_ok (l := p) rfl hp ?_) fun v h' q => ?_
  rotate_left
  · obtain ⟨rfl, rfl⟩ := q
    simp [biF, lstAt, ints_map, new, ok_ok]
    intro i hi
    exact List.getElem?_append_left hi
  · have hl : (h.set p (.lck (dI L)))[p]? = some (.lck (dI L)) := List.getElem?_set_self lt
    simp [bnd_bnd, bnd_sbnd, sbnd_seq, seq_seq, seqC_ap, ss_cons, ss_nil, s_asg, s_ret, s_ite, s_ex, s_for, s_whl, e_non, e_bl, e_int, e_str, e_var, e_bin, e_neg, e_cmp, e_not, e_tup, e_lst, e_dic0, e_sub, e_call, e_bi, e_mt, kindG_same, e_isi, e_inv, e_lrg, e_lc, e_dc, wipeP, new, evEs, evT, evTs, evP, evI, evG, bnd_ok, sbnd_ok, seq_nx, seq_rt, to_nx, go_nx, go_ct, rt_rt, ok_ok, slot, item0, item1, item2, item3, sub_t, i_int, i_abs, i_lenT, c_eqI, c_neI, c_eqS, c_neS, c_lt, c_le, c_gt, c_ge, asB_bl, iteC_t, iteC_f, iteC_d, b_add, b_sub, b_mul, b_mod, hl]
    refine Out.Ok.bnd (each_vals (fun i acc h' => h' = h.set p (.lck (dI L)) ∧ acc = ((((keys L).take i).filter fun d => decide (d ∉ L.map (·.2))).map PV.int)) ⟨rfl, rfl⟩ fun i x acc h' hx q => ?_) fun acc h' q => ?_
    · obtain ⟨rfl, rfl⟩ := q
      rw [dI_keys, List.getElem?_map, Option.map_eq_some_iff] at hx
      obtain ⟨k, hk, rfl⟩ := hx
      have hlen : (((keys L).take i).filter fun d => decide (d ∉ L.map (·.2))).length < sizeLine := by
        have h1 := List.length_filter_le (fun d => decide (d ∉ L.map (·.2))) ((keys L).take i)
        have h2 := List.length_take_le i (keys L)
        have h3 := lt_of_some hk
        rw [keys_len] at h3
        omega
      have htk : (keys L).take (i + 1) = (keys L).take i ++ [k] := by rw [List.take_add_one, hk]; rfl
      have hinv : ∀ s : PSt, evE C (.var 2) [a0, a1, some (.ref p), a3, a4, some (.int k), a6, a7] (h.set p (.lck (dI L))) = ok (.ref p) (h.set p (.lck (dI L))) := fun _ => by simp only [e_var]; rfl
      have hiv : invF true (.int k) (.ref p) (h.set p (.lck (dI L))) = ok (.bl (decide (k ∉ L.map (·.2)))) (h.set p (.lck (dI L))) := by
        simp only [invF, hl, dI_vals, ints_map]
        simp
      unfold lcC
      simp [bnd_bnd, bnd_sbnd, sbnd_seq, seq_seq, seqC_ap, ss_cons, ss_nil, s_asg, s_ret, s_ite, s_ex, s_for, s_whl, e_non, e_bl, e_int, e_str, e_var, e_bin, e_neg, e_cmp, e_not, e_tup, e_lst, e_dic0, e_sub, e_call, e_bi, e_mt, kindG_same, e_isi, e_inv, e_lrg, e_lc, e_dc, wipeP, new, evEs, evT, evTs, evP, evI, evG, bnd_ok, sbnd_ok, seq_nx, seq_rt, to_nx, go_nx, go_ct, rt_rt, ok_ok, slot, item0, item1, item2, item3, sub_t, i_int, i_abs, i_lenT, c_eqI, c_neI, c_eqS, c_neS, c_lt, c_le, c_gt, c_ge, asB_bl, iteC_t, iteC_f, iteC_d, b_add, b_sub, b_mul, b_mod, hiv]
      by_cases e : k ∈ L.map (·.2)
      · rw [if_neg (by simpa using e)]
        refine ⟨rfl, ?_⟩
        rw [htk, List.filter_append, List.filter_cons_of_neg (by simpa using e)]
        simp
      · rw [if_pos (by simpa using e), bnd_ok, if_pos rfl, if_pos (by simpa using hlen)]
        refine ⟨rfl, ?_⟩
        rw [htk, List.filter_append, List.filter_cons_of_pos (by simpa using e)]
        simp
    · obtain ⟨rfl, rfl⟩ := q
      have e1 : List.take (List.map (fun x => x.fst) (dI L)).length (keys L) = keys L := by
        rw [List.length_map, dI_len, ← keys_len, List.take_length]
      rw [e1]
      refine ⟨dI L, ?_, by rw [List.length_set], ?_⟩
      · rw [List.getElem?_append_left (by simpa using lt)]; exact hl
      · rw [List.set_append_left _ _ (by simpa using lt), List.set_set]
        congr 1
        have : h[p] = .dic (dI L) := (List.getElem?_eq_some_iff.mp hp).2
        rw [← this]
        exact List.set_getElem_self lt
end
end K42

set_option Elab.async false
set_option linter.all false
set_option maxRecDepth 100000
set_option maxHeartbeats 4000000
namespace K42
open PySem MP
open Out (ok bad)
def rowP (r : Int × Int) : PV := .tup [.str "move", .int r.1, .int r.2]
structure HS (h0 h : PH) (L R : List (Int × Int)) : Prop where
  l : h[h0.length]? = some (.dic (dI L))
  r : h[h0.length + 1]? = some (.lst (R.map rowP))
  old : ∀ i, i < h0.length → h[i]? = h0[i]?
section
variable {C : Str → List PV → PH → Out PV} {h h0 : PH} {L R : List (Int × Int)} {ps : List PV} {sp : Int} {a0 a1 a2 a3 a4 a5 a6 a7 : Option PV} {d x : Int}
theorem HS.more {h' : PH} (H : HS h0 h L R) (k : ∀ i, i < h.length → h'[i]? = h[i]?) : HS h0 h' L R := by
  have l1 := lt_of_some H.l
  have l2 := lt_of_some H.r
  exact ⟨(k _ l1).trans H.l, (k _ l2).trans H.r, fun i hi => (k i (by omega)).trans (H.old i hi)⟩
theorem HS.setL (H : HS h0 h L R) (L' : List (Int × Int)) : HS h0 (h.set h0.length (.dic (dI L'))) L' R :=
  ⟨List.getElem?_set_self (lt_of_some H.l), by rw [List.getElem?_set_ne (by omega)]; exact H.r, fun i hi => by rw [List.getElem?_set_ne (by omega)]; exact H.old i hi⟩
theorem HS.setR (H : HS h0 h L R) (R' : List (Int × Int)) : HS h0 (h.set (h0.length + 1) (.lst (R'.map rowP))) L R' :=
  ⟨by rw [List.getElem?_set_ne (by omega)]; exact H.l, List.getElem?_set_self (lt_of_some H.r), fun i hi => by rw [List.getElem?_set_ne (by omega)]; exact H.old i hi⟩
def bodyF : Ss := .cons (.ex (.mt .append (.var 3) (.cons (.tup (.cons (.str "move") (.cons (.var 5) (.cons (.mt .pop (.var 2) (.cons (.var 5) .nil)) .nil)))) .nil))) .nil
def drop (L : List (Int × Int)) (d : Int) : List (Int × Int) := L.filter fun p => decide (p.1 ≠ d)
theorem kind_l {l : Nat} {xs : List PV} {h : PH} (e : h[l]? = some (.lst xs)) : kind (.ref l) h = 1 := by simp only [kind, e]
theorem kind_d {l : Nat} {xs : List (PV × PV)} {h : PH} (e : h[l]? = some (.dic xs)) : kind (.ref l) h = 2 := by simp only [kind, e]
theorem append_l {l : Nat} {xs : List PV} {x : PV} {h : PH} (e : h[l]? = some (.lst xs)) (hz : xs.length < sizeLine) : mtF .append (.ref l) [x] h = ok .non (h.set l (.lst (xs ++ [x]))) := by simp only [mtF, e, lstM, hz, if_true]
theorem pop_d {l : Nat} {s : Int} {h : PH} (e : h[l]? = some (.dic (dI L))) (q : lk L d = some s) : mtF .pop (.ref l) [.int d] h = ok (.int s) (h.set l (.dic (dI (drop L d)))) := by
  simp only [mtF, e, dicM, isKey, if_true, dGet_dI, q, Option.map_some, dDrop_dI]
  rfl
theorem bodyF_ok {s : Int} (H : HS h0 h L R) (e : lk L d = some s) (hz : R.length < 64) :
    evSs C bodyF [a0, a1, some (.ref h0.length), some (.ref (h0.length + 1)), a4, some (.int d), a6, a7] h = .nx [a0, a1, some (.ref h0.length), some (.ref (h0.length + 1)), a4, some (.int d), a6, a7] ((h.set h0.length (.dic (dI (drop L d)))).set (h0.length + 1) (.lst ((R ++ [(d, s)]).map rowP))) := by
  have hS : (64 : Nat) ≤ sizeLine := by decide
  have H1 := H.setL (drop L d)
  have q2 : 3 ≤ sizeLine := by omega
  unfold bodyF
  simp [bnd_bnd, bnd_sbnd, sbnd_seq, seq_seq, seqC_ap, ss_cons, ss_nil, s_asg, s_ret, s_ite, s_ex, s_for, s_whl, e_non, e_bl, e_int, e_str, e_var, e_bin, e_neg, e_cmp, e_not, e_tup, e_lst, e_dic0, e_sub, e_call, e_bi, e_mt, kindG_same, e_isi, e_inv, e_lrg, e_lc, e_dc, wipeP, new, evEs, evT, evTs, evP, evI, evG, bnd_ok, sbnd_ok, seq_nx, seq_rt, to_nx, go_nx, go_ct, rt_rt, ok_ok, slot, item0, item1, item2, item3, sub_t, i_int, i_abs, i_lenT, c_eqI, c_neI, c_eqS, c_neS, c_lt, c_le, c_gt, c_ge, asB_bl, iteC_t, iteC_f, iteC_d, b_add, b_sub, b_mul, b_mod, kind_d H.l, kind_d H1.l, pop_d H.l e, kind_l H.r, kind_l H1.r, q2]
  rw [append_l H1.r (by rw [List.length_map]; omega)]
  simp [bnd_bnd, bnd_sbnd, sbnd_seq, seq_seq, seqC_ap, ss_cons, ss_nil, s_asg, s_ret, s_ite, s_ex, s_for, s_whl, e_non, e_bl, e_int, e_str, e_var, e_bin, e_neg, e_cmp, e_not, e_tup, e_lst, e_dic0, e_sub, e_call, e_bi, e_mt, kindG_same, e_isi, e_inv, e_lrg, e_lc, e_dc, wipeP, new, evEs, evT, evTs, evP, evI, evG, bnd_ok, sbnd_ok, seq_nx, seq_rt, to_nx, go_nx, go_ct, rt_rt, ok_ok, slot, item0, item1, item2, item3, sub_t, i_int, i_abs, i_lenT, c_eqI, c_neI, c_eqS, c_neS, c_lt, c_le, c_gt, c_ge, asB_bl, iteC_t, iteC_f, iteC_d, b_add, b_sub, b_mul, b_mod, rowP]

def bodyC : Ss := .cons (.ite (.cmp .Eq (.sub (.var 2) (.var 6)) (.var 5)) (.cons (.asg (.sub (.var 2) (.var 6)) (.var 1)) .nil) .nil) .nil
theorem look_d {l : Nat} {s : Int} {h : PH} (e : h[l]? = some (.dic (dI L))) (q : lk L d = some s) : subF (.ref l) (.int d) h = ok (.int s) h := by
  simp only [subF, e, lookF, isKey, if_true, dGet_dI, q, Option.map_some]
theorem put_d {l : Nat} {v : Int} {h : PH} (e : h[l]? = some (.dic (dI L))) (q : L.length < sizeLine) : setF (.ref l) (.int d) (.int v) h = ok () (h.set l (.dic (dI (putL L d v)))) := by
  simp only [setF, e, isKey, dI_len, q, true_and, if_true, dPut_dI]
theorem bodyC_ok {k v : Int} (H : HS h0 h L R) (e : lk L k = some v) (hz : L.length < 64) :
    evSs C bodyC [a0, some (.int sp), some (.ref h0.length), a3, a4, some (.int d), some (.int k), a7] h = .nx [a0, some (.int sp), some (.ref h0.length), a3, a4, some (.int d), some (.int k), a7] (if v = d then h.set h0.length (.dic (dI (putL L k sp))) else h) := by
  have hS : (64 : Nat) ≤ sizeLine := by decide
  unfold bodyC
  simp [bnd_bnd, bnd_sbnd, sbnd_seq, seq_seq, seqC_ap, ss_cons, ss_nil, s_asg, s_ret, s_ite, s_ex, s_for, s_whl, e_non, e_bl, e_int, e_str, e_var, e_bin, e_neg, e_cmp, e_not, e_tup, e_lst, e_dic0, e_sub, e_call, e_bi, e_mt, kindG_same, e_isi, e_inv, e_lrg, e_lc, e_dc, wipeP, new, evEs, evT, evTs, evP, evI, evG, bnd_ok, sbnd_ok, seq_nx, seq_rt, to_nx, go_nx, go_ct, rt_rt, ok_ok, slot, item0, item1, item2, item3, sub_t, i_int, i_abs, i_lenT, c_eqI, c_neI, c_eqS, c_neS, c_lt, c_le, c_gt, c_ge, asB_bl, iteC_t, iteC_f, iteC_d, b_add, b_sub, b_mul, b_mod, look_d H.l e]
  by_cases q : v = d
  · simp [bnd_bnd, bnd_sbnd, sbnd_seq, seq_seq, seqC_ap, ss_cons, ss_nil, s_asg, s_ret, s_ite, s_ex, s_for, s_whl, e_non, e_bl, e_int, e_str, e_var, e_bin, e_neg, e_cmp, e_not, e_tup, e_lst, e_dic0, e_sub, e_call, e_bi, e_mt, kindG_same, e_isi, e_inv, e_lrg, e_lc, e_dc, wipeP, new, evEs, evT, evTs, evP, evI, evG, bnd_ok, sbnd_ok, seq_nx, seq_rt, to_nx, go_nx, go_ct, rt_rt, ok_ok, slot, item0, item1, item2, item3, sub_t, i_int, i_abs, i_lenT, c_eqI, c_neI, c_eqS, c_neS, c_lt, c_le, c_gt, c_ge, asB_bl, iteC_t, iteC_f, iteC_d, b_add, b_sub, b_mul, b_mod, q, put_d H.l (d := k) (v := sp) (by omega : L.length < sizeLine)]
  · simp [bnd_bnd, bnd_sbnd, sbnd_seq, seq_seq, seqC_ap, ss_cons, ss_nil, s_asg, s_ret, s_ite, s_ex, s_for, s_whl, e_non, e_bl, e_int, e_str, e_var, e_bin, e_neg, e_cmp, e_not, e_tup, e_lst, e_dic0, e_sub, e_call, e_bi, e_mt, kindG_same, e_isi, e_inv, e_lrg, e_lc, e_dc, wipeP, new, evEs, evT, evTs, evP, evI, evG, bnd_ok, sbnd_ok, seq_nx, seq_rt, to_nx, go_nx, go_ct, rt_rt, ok_ok, slot, item0, item1, item2, item3, sub_t, i_int, i_abs, i_lenT, c_eqI, c_neI, c_eqS, c_neS, c_lt, c_le, c_gt, c_ge, asB_bl, iteC_t, iteC_f, iteC_d, b_add, b_sub, b_mul, b_mod, q]
def cutR : S := .frr (.nm 6) (.ex (.bi .list (.cons (.var 2) .nil))) bodyC
theorem cut_ok (H : HS h0 h L R) (hn : (keys L).Nodup) (hz : L.length < 64) :
    (evS C cutR [a0, some (.int sp), some (.ref h0.length), a3, a4, some (.int d), a6, a7] h).To fun s' h' => ∃ L' a6, s' = [a0, some (.int sp), some (.ref h0.length), a3, a4, some (.int d), a6, a7] ∧ HS h0 h' L' R ∧ keys L' = keys L ∧ ∀ x, lk L' x = if lk L x = some d then some sp else lk L x := by
  have hS : (64 : Nat) ≤ sizeLine := by decide
  have l1 := lt_of_some H.l
  have l2 := lt_of_some H.r
  unfold cutR
  have e1 : biF .list [.ref h0.length] h = ok (.ref h.length) (h ++ [.lst ((keys L).map PV.int)]) := by
    simp only [biF, H.l, dI_keys, new]
  simp [bnd_bnd, bnd_sbnd, sbnd_seq, seq_seq, seqC_ap, ss_cons, ss_nil, s_asg, s_ret, s_ite, s_ex, s_for, s_whl, e_non, e_bl, e_int, e_str, e_var, e_bin, e_neg, e_cmp, e_not, e_tup, e_lst, e_dic0, e_sub, e_call, e_bi, e_mt, kindG_same, e_isi, e_inv, e_lrg, e_lc, e_dc, wipeP, new, evEs, evT, evTs, evP, evI, evG, bnd_ok, sbnd_ok, seq_nx, seq_rt, to_nx, go_nx, go_ct, rt_rt, ok_ok, slot, item0, item1, item2, item3, sub_t, i_int, i_abs, i_lenT, c_eqI, c_neI, c_eqS, c_neS, c_lt, c_le, c_gt, c_ge, asB_bl, iteC_t, iteC_f, iteC_d, b_add, b_sub, b_mul, b_mod, e1]
  refine SO.To.mono (for_lst (xs := (keys L).map PV.int) (fun i s' h' => ∃ L' a6, s' = [a0, some (.int sp), some (.ref h0.length), a3, a4, some (.int d), a6, a7] ∧ HS h0 h' L' R ∧ h'[h.length]? = some (.lst ((keys L).map PV.int)) ∧ keys L' = keys L ∧ ∀ x, lk L' x = if x ∈ (keys L).take i ∧ lk L x = some d then some sp else lk L x)
    (by rw [List.length_map, keys_len]; omega) (fun i s' h' ⟨_, _, _, _, q, _⟩ => q) ⟨L, a6, rfl, H.more fun i hi => List.getElem?_append_left hi, by simp, rfl, fun x => by simp⟩ fun i x s' h' hx ⟨L', a6, es, H', hq, hk, hlk⟩ => ?_) fun s' h' ⟨L', a6, es, H', hq, hk, hlk⟩ => ⟨⟨a6, es⟩, L', H', hk, fun x => ?_⟩
  · subst es
    rw [List.getElem?_map, Option.map_eq_some_iff] at hx
    obtain ⟨k, hk2, rfl⟩ := hx
    have hki : k ∈ keys L := List.mem_of_getElem? hk2
    obtain ⟨v, hv⟩ := lk_key.mpr hki
    have hnt : k ∉ (keys L).take i := fun z => by
      obtain ⟨j, hj, ej⟩ := Ring.mem_at z
      rw [List.length_take] at hj
      rw [List.getElem?_take_of_lt (by omega)] at ej
      have h1 := List.getElem?_eq_some_iff.mp ej
      have h2 := List.getElem?_eq_some_iff.mp hk2
      have := (List.getElem_inj hn).mp (h1.2.trans h2.2.symm)
      omega
    have hv' : lk L' k = some v := by rw [hlk, if_neg fun z => hnt z.1]; exact hv
    have hl' : L'.length < 64 := by rw [← keys_len, hk, keys_len]; exact hz
    have htk : ∀ x, x ∈ (keys L).take (i + 1) ↔ x ∈ (keys L).take i ∨ x = k := fun x => by rw [List.take_add_one, hk2]; simp
    show (evSs C bodyC _ _).Go _
    simp only [List.set_cons_succ, List.set_cons_zero]
    rw [bodyC_ok H' hv' hl', go_nx]
    by_cases q : v = d
    · subst q
      rw [if_pos rfl]
      refine ⟨putL L' k sp, _, rfl, H'.setL _, ?_, by rw [keys_put (hk ▸ hki)]; exact hk, fun x => ?_⟩
      · rw [List.getElem?_set_ne (by omega)]; exact hq
      · rw [lk_put, hlk]
        by_cases e : x = k
        · subst e
          rw [if_pos rfl, if_pos ⟨(htk _).mpr (.inr rfl), hv⟩]
        · rw [if_neg e]
          have : x ∈ (keys L).take (i + 1) ↔ x ∈ (keys L).take i := by rw [htk]; simp [e]
          simp only [this]
    · rw [if_neg q]
      refine ⟨L', _, rfl, H', hq, hk, fun x => ?_⟩
      rw [hlk]
      by_cases e : x = k
      · subst e
        rw [if_neg fun z => hnt z.1, if_neg fun z => q (by rw [hv] at z; exact Option.some.inj z.2)]
      · have : x ∈ (keys L).take (i + 1) ↔ x ∈ (keys L).take i := by rw [htk]; simp [e]
        simp only [this]
  · rw [hlk, List.length_map, List.take_length]
    by_cases e : lk L x = some d
    · rw [if_pos ⟨lk_key.mp ⟨d, e⟩, e⟩, if_pos e]
    · rw [if_neg e, if_neg fun z => e z.2]
end
end K42

set_option Elab.async false
set_option linter.all false
set_option maxRecDepth 100000
set_option maxHeartbeats 4000000
namespace K42
open PySem MP
open Out (ok bad)
section
variable {C : Str → List PV → PH → Out PV} {h h0 : PH} {L R : List (Int × Int)} {ps : PV} {sp : Int} {f0 : Int → Option Int} {N : Nat}
def bodyW : Ss := .cons (.asg (.nm 4) freeE) (.cons (.ite (.e (.var 4)) (.cons (.frr (.nm 5) (.ex (.var 4)) bodyF) .nil)
  (.cons (.asg (.nm 5) (.bi .min (.cons (.var 2) .nil))) (.cons (.ex (.mt .append (.var 3) (.cons (.tup (.cons (.str "move") (.cons (.var 1) (.cons (.var 5) .nil)))) .nil))) (.cons cutR .nil)))) .nil)
def PW (f0 : Int → Option Int) (N : Nat) (ps : PV) (sp : Int) (h0 : PH) (s : PSt) (h : PH) (m : Nat) : Prop := ∃ L R z4 z5 z6 z7, s = [some ps, some (.int sp), some (.ref h0.length), some (.ref (h0.length + 1)), z4, z5, z6, z7] ∧ HS h0 h L R ∧ Ring.Inv f0 sp N (keys L) (lk L) R ∧ m + R.length = N
def PF (f0 : Int → Option Int) (N : Nat) (ps : PV) (sp : Int) (h0 : PH) (q : Nat) (F : List Int) (R : List (Int × Int)) (z6 z7 : Option PV) (i : Nat) (s : PSt) (h : PH) : Prop := ∃ L' R' z5, s = [some ps, some (.int sp), some (.ref h0.length), some (.ref (h0.length + 1)), some (.ref q), z5, z6, z7] ∧
  HS h0 h L' R' ∧ h[q]? = some (.lst (F.map PV.int)) ∧ Ring.Inv f0 sp N (keys L') (lk L') R' ∧ R'.length = R.length + i ∧ ∀ (j : Nat) (k : Int), i ≤ j → F[j]? = some k → k ∈ keys L' ∧ ∀ x, lk L' x ≠ some k
theorem keys_drop {d : Int} : keys (drop L d) = (keys L).filter fun x => decide (x ≠ d) := keys_filter
theorem lk_drop {d x : Int} : lk (drop L d) x = if x = d then none else lk L x := lk_filter
theorem loopF_ok {q : Nat} {F : List Int} {z5 z6 z7 : Option PV} (hsp : Ring.inR sp) (hN : N < 64) (hF : F.Nodup) (hq : h[q]? = some (.lst (F.map PV.int))) (hq2 : h0.length + 2 ≤ q) (H : HS h0 h L R) (I : Ring.Inv f0 sp N (keys L) (lk L) R)
    (hk : ∀ k ∈ F, k ∈ keys L ∧ ∀ x, lk L x ≠ some k) : (forC C (.nm 5) bodyF [some ps, some (.int sp), some (.ref h0.length), some (.ref (h0.length + 1)), some (.ref q), z5, z6, z7] (.lst q) h).To (PF f0 N ps sp h0 q F R z6 z7 F.length) := by
  have hS : (64 : Nat) ≤ sizeLine := by decide
  have hl : F.length ≤ (keys L).length := Ring.nodup_le hF fun k h => (hk k h).1
  have hc := I.cnt
  have := for_lst (C := C) (t := .nm 5) (b := bodyF) (l := q) (xs := F.map PV.int) (s := [some ps, some (.int sp), some (.ref h0.length), some (.ref (h0.length + 1)), some (.ref q), z5, z6, z7]) (h := h) (PF f0 N ps sp h0 q F R z6 z7) (by rw [List.length_map]; omega) (fun i s' h' ⟨_, _, _, _, _, q, _⟩ => q)
    ⟨L, R, z5, rfl, H, hq, I, rfl, fun j k _ e => hk k (List.mem_of_getElem? e)⟩ fun i x s' h' hx ⟨L', R', z5, es, H', hq', I', hr, hk'⟩ => ?_
  · rw [List.length_map] at this; exact this
  · subst es
    rw [List.getElem?_map, Option.map_eq_some_iff] at hx
    obtain ⟨k, hk2, rfl⟩ := hx
    obtain ⟨m1, m2⟩ := hk' i k (Nat.le_refl _) hk2
    obtain ⟨v, hv⟩ := lk_key.mpr m1
    have hc' := I'.cnt
    show (evSs C bodyF _ _).Go _
    simp only [List.set_cons_succ, List.set_cons_zero]
    rw [bodyF_ok H' hv (by omega), go_nx]
    refine ⟨drop L' k, R' ++ [(k, v)], _, rfl, ?_, ?_, ?_, by rw [List.length_append, hr]; simp; omega, fun j k2 hj e => ?_⟩
    · exact (H'.setL _).setR _
    · rw [List.getElem?_set_ne (by omega), List.getElem?_set_ne (by omega)]; exact hq'
    · rw [keys_drop]
      exact I'.move hsp hv m2 fun x => lk_drop
    · obtain ⟨n1, n2⟩ := hk' j k2 (by omega) e
      have ne : k2 ≠ k := fun z => by
        subst z
        have e1 := List.getElem?_eq_some_iff.mp e
        have e2 := List.getElem?_eq_some_iff.mp hk2
        have := (List.getElem_inj hF).mp (e1.2.trans e2.2.symm)
        omega
      refine ⟨by rw [keys_drop]; exact List.mem_filter.mpr ⟨n1, by simpa using ne⟩, fun x => ?_⟩
      rw [lk_drop]
      split
      · exact nofun
      · exact n2 x
theorem free_mem {d : Int} : d ∈ freeL L ↔ d ∈ keys L ∧ d ∉ L.map (·.2) := by
  unfold freeL
  rw [List.mem_filter, decide_eq_true_eq]
theorem body_ok {m : Nat} {z4 z5 z6 z7 : Option PV} (hsp : Ring.inR sp) (hN : N < 64) (H : HS h0 h L R) (I : Ring.Inv f0 sp N (keys L) (lk L) R) (hm : m + R.length = N) (hne : L ≠ []) :
    (evSs C bodyW [some ps, some (.int sp), some (.ref h0.length), some (.ref (h0.length + 1)), z4, z5, z6, z7] h).Go fun s' h' => ∃ m', m' < m ∧ PW f0 N ps sp h0 s' h' m' := by
  have hS : (64 : Nat) ≤ sizeLine := by decide
  have hc := I.cnt
  rw [keys_len] at hc
  have hL1 : 1 ≤ L.length := List.length_pos_iff.mpr hne
  have l2 := lt_of_some H.r
  unfold bodyW
  rw [ss_cons, s_asg, sbnd_seq]
  refine Out.Ok.go (free_ok H.l (by omega)) fun v h1 ⟨q, ev, eq, lq, ek⟩ => ?_
  subst ev
  have H1 := H.more ek
  by_cases hF : freeL L = []
  · have eq' : h1[q]? = some (.lst []) := by rw [eq, hF]; rfl
    have hall : ∀ d ∈ keys L, ∃ x, lk L x = some d := fun d hd => by
      refine (vals_iff I.nd).mp (Classical.byContradiction fun z => ?_)
      have : d ∈ freeL L := free_mem.mpr ⟨hd, z⟩
      rw [hF] at this
      cases this
    obtain ⟨a, r, ekl⟩ : ∃ a r, keys L = a :: r := by
      cases e : keys L with
      | nil => have := congrArg List.length e; rw [keys_len] at this; simp at this; exact absurd this hne
      | cons a r => exact ⟨a, r, rfl⟩
    have emin : biF .min [.ref h0.length] h1 = ok (.int (minI r a)) h1 := by
      simp only [biF, H1.l, dI_keys, ints_map, ekl]
    obtain ⟨k1, k2⟩ := minI_spec r a
    rw [← ekl] at k1 k2
    have H2 := H1.setR (R ++ [(sp, minI r a)])
    have q3 : 3 ≤ sizeLine := by omega
    have tr : truth (.ref q) h1 = ok false h1 := by simp only [truth, eq']; rfl
    have hkd := kind_l H1.r
    have ap : mtF .append (.ref (h0.length + 1)) [.tup [.str "move", .int sp, .int (minI r a)]] h1 = ok .non (h1.set (h0.length + 1) (.lst ((R ++ [(sp, minI r a)]).map rowP))) := by
      rw [append_l H1.r (by rw [List.length_map]; omega)]
      simp [rowP]
    simp [bnd_bnd, bnd_sbnd, sbnd_seq, seq_seq, seqC_ap, ss_cons, ss_nil, s_asg, s_ret, s_ite, s_ex, s_for, s_whl, e_non, e_bl, e_int, e_str, e_var, e_bin, e_neg, e_cmp, e_not, e_tup, e_lst, e_dic0, e_sub, e_call, e_bi, e_mt, kindG_same, e_isi, e_inv, e_lrg, e_lc, e_dc, wipeP, new, evEs, evT, evTs, evP, evI, evG, bnd_ok, sbnd_ok, seq_nx, seq_rt, to_nx, go_nx, go_ct, rt_rt, ok_ok, slot, item0, item1, item2, item3, sub_t, i_int, i_abs, i_lenT, c_eqI, c_neI, c_eqS, c_neS, c_lt, c_le, c_gt, c_ge, asB_bl, iteC_t, iteC_f, iteC_d, b_add, b_sub, b_mul, b_mod, tr, emin, q3, hkd, ap]
    have eR : List.map rowP R ++ [rowP (sp, minI r a)] = (R ++ [(sp, minI r a)]).map rowP := by simp
    rw [eR]
    refine SO.To.go (cut_ok (d := minI r a) H2 I.nd (by omega)) fun s' h2 ⟨L', a6, es, H3, hk, hlk⟩ => ?_
    subst es
    simp only [bnd_bnd, bnd_sbnd, sbnd_seq, seq_seq, seqC_ap, ss_cons, ss_nil, s_asg, s_ret, s_ite, s_ex, s_for, s_whl, e_non, e_bl, e_int, e_str, e_var, e_bin, e_neg, e_cmp, e_not, e_tup, e_lst, e_dic0, e_sub, e_call, e_bi, e_mt, kindG_same, e_isi, e_inv, e_lrg, e_lc, e_dc, wipeP, new, evEs, evT, evTs, evP, evI, evG, bnd_ok, sbnd_ok, seq_nx, seq_rt, to_nx, go_nx, go_ct, rt_rt, ok_ok, slot, item0, item1, item2, item3, sub_t, i_int, i_abs, i_lenT, c_eqI, c_neI, c_eqS, c_neS, c_lt, c_le, c_gt, c_ge, asB_bl, iteC_t, iteC_f, iteC_d, b_add, b_sub, b_mul, b_mod]
    refine ⟨m - 1, by omega, L', R ++ [(sp, minI r a)], _, _, _, _, rfl, H3, ?_, by rw [List.length_append]; simp; omega⟩
    rw [hk]
    exact I.cut hsp hall k1 k2 hlk
  · have hlen : 1 ≤ (freeL L).length := List.length_pos_iff.mpr hF
    have hp := sortI_perm (freeL L)
    have hnd : (sortI (freeL L)).Nodup := hp.nodup_iff.mpr (I.nd.filter _)
    have tr : truth (.ref q) h1 = ok true h1 := by
      have : (sortI (freeL L)).map PV.int ≠ [] := by
        intro z
        have := congrArg List.length z
        rw [List.length_map, hp.length_eq] at this
        simp at this
        exact hF this
      simp only [truth, eq]
      cases e : (sortI (freeL L)).map PV.int with
      | nil => exact absurd e this
      | cons _ _ => rfl
    simp [bnd_bnd, bnd_sbnd, sbnd_seq, seq_seq, seqC_ap, ss_cons, ss_nil, s_asg, s_ret, s_ite, s_ex, s_for, s_whl, e_non, e_bl, e_int, e_str, e_var, e_bin, e_neg, e_cmp, e_not, e_tup, e_lst, e_dic0, e_sub, e_call, e_bi, e_mt, kindG_same, e_isi, e_inv, e_lrg, e_lc, e_dc, wipeP, new, evEs, evT, evTs, evP, evI, evG, bnd_ok, sbnd_ok, seq_nx, seq_rt, to_nx, go_nx, go_ct, rt_rt, ok_ok, slot, item0, item1, item2, item3, sub_t, i_int, i_abs, i_lenT, c_eqI, c_neI, c_eqS, c_neS, c_lt, c_le, c_gt, c_ge, asB_bl, iteC_t, iteC_f, iteC_d, b_add, b_sub, b_mul, b_mod, tr, eq]
    refine SO.To.go (loopF_ok (F := sortI (freeL L)) hsp hN hnd eq (by omega) H1 I fun k hk => ?_) fun s' h2 ⟨L', R', z5, es, H3, _, I3, hr, _⟩ => ?_
    · obtain ⟨n1, n2⟩ := free_mem.mp (hp.mem_iff.mp hk)
      exact ⟨n1, fun x hx => n2 ((vals_iff I.nd).mpr ⟨x, hx⟩)⟩
    · subst es
      simp only [bnd_bnd, bnd_sbnd, sbnd_seq, seq_seq, seqC_ap, ss_cons, ss_nil, s_asg, s_ret, s_ite, s_ex, s_for, s_whl, e_non, e_bl, e_int, e_str, e_var, e_bin, e_neg, e_cmp, e_not, e_tup, e_lst, e_dic0, e_sub, e_call, e_bi, e_mt, kindG_same, e_isi, e_inv, e_lrg, e_lc, e_dc, wipeP, new, evEs, evT, evTs, evP, evI, evG, bnd_ok, sbnd_ok, seq_nx, seq_rt, to_nx, go_nx, go_ct, rt_rt, ok_ok, slot, item0, item1, item2, item3, sub_t, i_int, i_abs, i_lenT, c_eqI, c_neI, c_eqS, c_neS, c_lt, c_le, c_gt, c_ge, asB_bl, iteC_t, iteC_f, iteC_d, b_add, b_sub, b_mul, b_mod]
      have := I3.cnt
      rw [hp.length_eq] at hr
      exact ⟨N - R'.length, by omega, L', R', _, _, _, _, rfl, H3, I3, by omega⟩
end
end K42

set_option Elab.async false
set_option linter.all false
set_option maxRecDepth 100000
set_option maxHeartbeats 4000000
namespace K42
open PySem MP
open Out (ok bad)
def pairP (r : Int × Int) : PV := .tup [.int r.1, .int r.2]
def offL (ps : List (Int × Int)) : List (Int × Int) := ps.filter fun p => decide (p.1 ≠ p.2)
theorem off_keys {ps : List (Int × Int)} (h : (keys ps).Nodup) : (keys (offL ps)).Nodup := by
  unfold keys at h ⊢
  unfold offL
  exact h.sublist (List.Sublist.map _ List.filter_sublist)
theorem off_take {ps : List (Int × Int)} {i : Nat} {p : Int × Int} (e : ps[i]? = some p) : offL (ps.take (i + 1)) = if p.1 ≠ p.2 then offL (ps.take i) ++ [p] else offL (ps.take i) := by
  rw [List.take_add_one, e]
  unfold offL
  rw [Option.toList_some, List.filter_append]
  by_cases q : p.1 = p.2
  · rw [List.filter_cons_of_neg (by simp [q])]; simp [q]
  · rw [List.filter_cons_of_pos (by simp [q])]; simp [q]
theorem off_new {ps : List (Int × Int)} {i : Nat} {p : Int × Int} (h : (keys ps).Nodup) (e : ps[i]? = some p) : p.1 ∉ keys (offL (ps.take i)) := by
  intro z
  unfold keys at z
  obtain ⟨q, hq, eq⟩ := List.mem_map.mp z
  have hq := (List.mem_filter.mp hq).1
  obtain ⟨j, hj, ej⟩ : ∃ j, j < (ps.take i).length ∧ (ps.take i)[j]? = some q := by
    obtain ⟨j, e⟩ := List.mem_iff_getElem?.mp hq
    exact ⟨j, (List.getElem?_eq_some_iff.mp e).1, e⟩
  rw [List.length_take] at hj
  rw [List.getElem?_take_of_lt (by omega)] at ej
  have a1 : (keys ps)[j]? = some p.1 := by unfold keys; rw [List.getElem?_map, ej]; exact congrArg some eq
  have a2 : (keys ps)[i]? = some p.1 := by unfold keys; rw [List.getElem?_map, e]; rfl
  have b1 := List.getElem?_eq_some_iff.mp a1
  have b2 := List.getElem?_eq_some_iff.mp a2
  have := (List.getElem_inj h).mp (b1.2.trans b2.2.symm)
  omega
section
variable {C : Str → List PV → PH → Out PV} {h0 : PH} {ps : List (Int × Int)} {sp : Int}
theorem seq_ok (hn : (keys ps).Nodup) (hl : ps.length ≤ 10) (hk : ∀ p ∈ ps, Ring.inR p.1 ∧ Ring.inR p.2) (hsp : Ring.inR sp) (hs : ∀ p ∈ ps, p.1 ≠ sp) :
    (evSs C Lw.b_sequence [some (.tup (ps.map pairP)), some (.int sp), none, none, none, none, none, none] h0).Rt fun v h => v = .ref (h0.length + 1) ∧ ∃ R, h[h0.length + 1]? = some (.lst (R.map rowP)) ∧ (∀ i, i < h0.length → h[i]? = h0[i]?) ∧ h0.length ≤ h.length ∧
      Ring.Inv (lk (offL ps)) sp ((keys (offL ps)).length + Ring.rings (lk (offL ps)) (keys (offL ps))) [] (lk []) R := by
  have hS : (64 : Nat) ≤ sizeLine := by decide
  unfold Lw.b_sequence
  simp [bnd_bnd, bnd_sbnd, sbnd_seq, seq_seq, seqC_ap, ss_cons, ss_nil, s_asg, s_ret, s_ite, s_ex, s_for, s_whl, e_non, e_bl, e_int, e_str, e_var, e_bin, e_neg, e_cmp, e_not, e_tup, e_lst, e_dic0, e_sub, e_call, e_bi, e_mt, kindG_same, e_isi, e_inv, e_lrg, e_lc, e_dc, wipeP, new, evEs, evT, evTs, evP, evI, evG, bnd_ok, sbnd_ok, seq_nx, seq_rt, to_nx, go_nx, go_ct, rt_rt, ok_ok, slot, item0, item1, item2, item3, sub_t, i_int, i_abs, i_lenT, c_eqI, c_neI, c_eqS, c_neS, c_lt, c_le, c_gt, c_ge, asB_bl, iteC_t, iteC_f, iteC_d, b_add, b_sub, b_mul, b_mod]
  refine Out.Ok.rt (each_vals (fun i acc h => h = h0 ∧ acc = dI (offL (ps.take i))) ⟨rfl, rfl⟩ fun i x acc h hx ⟨eh, ea⟩ => ?_) fun acc h ⟨eh, ea⟩ => ?_
  · subst eh ea
    rw [List.getElem?_map, Option.map_eq_some_iff] at hx
    obtain ⟨p, hp, rfl⟩ := hx
    have hlen : (dI (offL (ps.take i))).length < sizeLine := by
      have h1 : (offL (ps.take i)).length ≤ (ps.take i).length := List.length_filter_le _ _
      have h2 := List.length_take_le i ps
      have h3 := lt_of_some hp
      rw [dI_len]
      omega
    have hnew := off_new hn hp
    rw [off_take hp]
    unfold dcC pairP
    by_cases q : p.1 = p.2
    · simp [bnd_bnd, bnd_sbnd, sbnd_seq, seq_seq, seqC_ap, ss_cons, ss_nil, s_asg, s_ret, s_ite, s_ex, s_for, s_whl, e_non, e_bl, e_int, e_str, e_var, e_bin, e_neg, e_cmp, e_not, e_tup, e_lst, e_dic0, e_sub, e_call, e_bi, e_mt, kindG_same, e_isi, e_inv, e_lrg, e_lc, e_dc, wipeP, new, evEs, evT, evTs, evP, evI, evG, bnd_ok, sbnd_ok, seq_nx, seq_rt, to_nx, go_nx, go_ct, rt_rt, ok_ok, slot, item0, item1, item2, item3, sub_t, i_int, i_abs, i_lenT, c_eqI, c_neI, c_eqS, c_neS, c_lt, c_le, c_gt, c_ge, asB_bl, iteC_t, iteC_f, iteC_d, b_add, b_sub, b_mul, b_mod, setAll, q]
    · simp [bnd_bnd, bnd_sbnd, sbnd_seq, seq_seq, seqC_ap, ss_cons, ss_nil, s_asg, s_ret, s_ite, s_ex, s_for, s_whl, e_non, e_bl, e_int, e_str, e_var, e_bin, e_neg, e_cmp, e_not, e_tup, e_lst, e_dic0, e_sub, e_call, e_bi, e_mt, kindG_same, e_isi, e_inv, e_lrg, e_lc, e_dc, wipeP, new, evEs, evT, evTs, evP, evI, evG, bnd_ok, sbnd_ok, seq_nx, seq_rt, to_nx, go_nx, go_ct, rt_rt, ok_ok, slot, item0, item1, item2, item3, sub_t, i_int, i_abs, i_lenT, c_eqI, c_neI, c_eqS, c_neS, c_lt, c_le, c_gt, c_ge, asB_bl, iteC_t, iteC_f, iteC_d, b_add, b_sub, b_mul, b_mod, setAll, q, isKey, hlen, dPut_dI, putL, hnew]
  · subst eh ea
    rw [List.length_map, List.take_length]
    have hN : (keys (offL ps)).length + Ring.rings (lk (offL ps)) (keys (offL ps)) < 64 := by
      have h1 : (offL ps).length ≤ ps.length := List.length_filter_le _ _
      have h2 : Ring.rings (lk (offL ps)) (keys (offL ps)) ≤ (keys (offL ps)).length := List.countP_le_length
      rw [keys_len] at h2 ⊢
      omega
    have I0 : Ring.Inv (lk (offL ps)) sp ((keys (offL ps)).length + Ring.rings (lk (offL ps)) (keys (offL ps))) (keys (offL ps)) (lk (offL ps)) [] := by
      refine Ring.Inv.start (off_keys hn) (fun x => lk_key) (fun z => ?_) (fun x hx => ?_) fun x y e => ?_
      · obtain ⟨p, hp, e⟩ := List.mem_map.mp z
        exact hs p (List.mem_filter.mp hp).1 e
      · obtain ⟨p, hp, e⟩ := List.mem_map.mp hx
        exact e ▸ (hk p (List.mem_filter.mp hp).1).1
      · exact (hk _ (List.mem_filter.mp (lk_mem e)).1).2
    have H0 : HS h (h ++ [.dic (dI (offL ps)), .lst []]) (offL ps) [] := by
      refine ⟨by simp, by rw [List.getElem?_append_right (by omega)]; simp, fun i hi => List.getElem?_append_left hi⟩
    generalize hNN : (keys (offL ps)).length + Ring.rings (lk (offL ps)) (keys (offL ps)) = N at hN I0
    refine SO.To.rt (whl_ok (PW (lk (offL ps)) N (.tup (ps.map pairP)) sp h) (fun s h' => ∃ R z4 z5 z6 z7, s = [some (.tup (ps.map pairP)), some (.int sp), some (.ref h.length), some (.ref (h.length + 1)), z4, z5, z6, z7] ∧ HS h h' [] R ∧ Ring.Inv (lk (offL ps)) sp N [] (lk []) R) N (Nat.lt_trans hN (by decide)) ?_ ?_) fun s' h' q => ?_
    · exact ⟨offL ps, [], _, _, _, _, rfl, H0, I0, rfl⟩
    · intro s h' m ⟨L, R, z4, z5, z6, z7, es, H, I, hm⟩
      subst es
      have ec : evT C (.e (.var 2)) [some (.tup (ps.map pairP)), some (.int sp), some (.ref h.length), some (.ref (h.length + 1)), z4, z5, z6, z7] h' = ok (!(dI L).isEmpty) h' := by
        simp [bnd_bnd, bnd_sbnd, sbnd_seq, seq_seq, seqC_ap, ss_cons, ss_nil, s_asg, s_ret, s_ite, s_ex, s_for, s_whl, e_non, e_bl, e_int, e_str, e_var, e_bin, e_neg, e_cmp, e_not, e_tup, e_lst, e_dic0, e_sub, e_call, e_bi, e_mt, kindG_same, e_isi, e_inv, e_lrg, e_lc, e_dc, wipeP, new, evEs, evT, evTs, evP, evI, evG, bnd_ok, sbnd_ok, seq_nx, seq_rt, to_nx, go_nx, go_ct, rt_rt, ok_ok, slot, item0, item1, item2, item3, sub_t, i_int, i_abs, i_lenT, c_eqI, c_neI, c_eqS, c_neS, c_lt, c_le, c_gt, c_ge, asB_bl, iteC_t, iteC_f, iteC_d, b_add, b_sub, b_mul, b_mod, truth, H.l]
      rw [ec]
      show (if (!(dI L).isEmpty) = true then _ else _)
      by_cases e : L = []
      · subst e
        rw [if_neg (by simp [dI])]
        exact ⟨R, _, _, _, _, rfl, H, I⟩
      · rw [if_pos (by cases L with
          | nil => exact absurd rfl e
          | cons _ _ => rfl)]
        exact body_ok hsp hN H I hm e
    · obtain ⟨R, z4, z5, z6, z7, es, H, I⟩ := q
      subst es
      simp [bnd_bnd, bnd_sbnd, sbnd_seq, seq_seq, seqC_ap, ss_cons, ss_nil, s_asg, s_ret, s_ite, s_ex, s_for, s_whl, e_non, e_bl, e_int, e_str, e_var, e_bin, e_neg, e_cmp, e_not, e_tup, e_lst, e_dic0, e_sub, e_call, e_bi, e_mt, kindG_same, e_isi, e_inv, e_lrg, e_lc, e_dc, wipeP, new, evEs, evT, evTs, evP, evI, evG, bnd_ok, sbnd_ok, seq_nx, seq_rt, to_nx, go_nx, go_ct, rt_rt, ok_ok, slot, item0, item1, item2, item3, sub_t, i_int, i_abs, i_lenT, c_eqI, c_neI, c_eqS, c_neS, c_lt, c_le, c_gt, c_ge, asB_bl, iteC_t, iteC_f, iteC_d, b_add, b_sub, b_mul, b_mod]
      exact ⟨R, H.r, H.old, by have := lt_of_some H.r; omega, I⟩
end
end K42

set_option Elab.async false
set_option linter.all false
set_option maxRecDepth 100000
set_option maxHeartbeats 4000000
namespace K42
open PySem MP
open Out (ok bad)
def dB (S : List Int) : List (PV × PV) := S.map fun k => (.int k, .bl true)
theorem dGet_dB {k : Int} : ∀ {S : List Int}, (dGet (dB S) (.int k)).isSome = decide (k ∈ S)
  | [] => rfl
  | x :: r => by
    show (if keyEq (.int x) (.int k) = true then some (PV.bl true) else dGet (dB r) (.int k)).isSome = decide (k ∈ x :: r)
    by_cases e : x = k
    · simp [keyEq, e]
    · simp only [keyEq, e, decide_false, Bool.false_eq_true, if_false]
      rw [dGet_dB]
      simp [Ne.symm e]
theorem dPut_dB {k : Int} {S : List Int} (h : k ∉ S) : dPut (dB S) (.int k) (.bl true) = dB (S ++ [k]) := by
  have : ((dB S).any fun p => keyEq p.1 (.int k)) = false := by
    rw [Bool.eq_false_iff]
    intro z
    obtain ⟨p, hp, e⟩ := List.any_eq_true.mp z
    obtain ⟨x, hx, rfl⟩ := List.mem_map.mp hp
    simp [keyEq] at e
    exact h (e ▸ hx)
  unfold dPut
  rw [this, if_neg Bool.false_ne_true]
  simp [dB]
theorem any_ints {k : Int} {S : List Int} : ((S.map PV.int).any fun y => flatEq y (.int k)) = decide (k ∈ S) := by
  rw [List.any_map, Bool.eq_iff_iff, List.any_eq_true, decide_eq_true_eq]
  constructor
  · rintro ⟨x, hx, e⟩; simp [flatEq] at e; exact e ▸ hx
  · intro h; exact ⟨k, h, by simp [flatEq]⟩
theorem all_ints {S : List Int} : (S.map PV.int).all flatP = true := by
  rw [List.all_map, List.all_eq_true]; intro x _; rfl
theorem in_l {l : Nat} {k : Int} {S : List Int} {h : PH} (e : h[l]? = some (.lst (S.map PV.int))) : inB (.int k) (.ref l) h = ok (decide (k ∈ S)) h := by
  simp only [inB, e, any_ints, all_ints, flatP, and_self, if_true]
theorem in_dB {l : Nat} {k : Int} {S : List Int} {h : PH} (e : h[l]? = some (.dic (dB S))) : inB (.int k) (.ref l) h = ok (decide (k ∈ S)) h := by
  simp only [inB, e, isKey, if_true, dGet_dB]
theorem in_dI {l : Nat} {k : Int} {L : List (Int × Int)} {h : PH} (e : h[l]? = some (.dic (dI L))) : inB (.int k) (.ref l) h = ok (decide (k ∈ keys L)) h := by
  simp only [inB, e, isKey, if_true, dGet_dI]
  congr 1
  rw [Bool.eq_iff_iff, decide_eq_true_eq, ← lk_key]
  cases lk L k <;> simp
theorem cIn {x y : PV} {b : Bool} {h : PH} (e : inB x y h = ok b h) : cmpF .In x y h = ok (.bl b) h := by simp only [cmpF, e, bnd_ok]
theorem cNotIn {x y : PV} {b : Bool} {h : PH} (e : inB x y h = ok b h) : cmpF .NotIn x y h = ok (.bl (!b)) h := by simp only [cmpF, e, bnd_ok]
section
variable {C : Str → List PV → PH → Out PV} {h h0 : PH} {L : List (Int × Int)} {l : Nat} {S W : List Int} {a0 a1 a2 a3 a4 a5 a6 : Option PV} {x : Int}
structure HR (h0 h : PH) (l : Nat) (L : List (Int × Int)) (S : List Int) : Prop where
  d : h[l]? = some (.dic (dI L))
  lt : l < h0.length
  s : h[h0.length]? = some (.dic (dB S))
  f : h[h0.length + 2]? = some (.lst ((sortI (keys L)).map PV.int))
  old : ∀ i, i < h0.length → h[i]? = h0[i]?
theorem HR.more {h' : PH} (H : HR h0 h l L S) (k : ∀ i, i < h0.length + 3 → h'[i]? = h[i]?) : HR h0 h' l L S :=
  ⟨(k _ (by have := H.lt; omega)).trans H.d, H.lt, (k _ (by omega)).trans H.s, (k _ (by omega)).trans H.f, fun i hi => (k i (by omega)).trans (H.old i hi)⟩
theorem HR.setS (H : HR h0 h l L S) (S' : List Int) : HR h0 (h.set h0.length (.dic (dB S'))) l L S' :=
  ⟨by rw [List.getElem?_set_ne (by have := H.lt; omega)]; exact H.d, H.lt, List.getElem?_set_self (lt_of_some H.s), by rw [List.getElem?_set_ne (by omega)]; exact H.f, fun i hi => by rw [List.getElem?_set_ne (by omega)]; exact H.old i hi⟩
def condR : T := .and (.cmp .In (.var 5) (.var 0)) (.and (.cmp .NotIn (.var 5) (.var 4)) (.cmp .NotIn (.var 5) (.var 2)))
def stepR : Ss := .cons (.ex (.mt .append (.var 4) (.cons (.var 5) .nil))) (.cons (.asg (.nm 5) (.sub (.var 0) (.var 5))) .nil)
def markR : Ss := .cons (.asg (.sub (.var 2) (.var 6)) (.bl true)) .nil
/-- the inner walk -/
theorem way_ok {first w : Nat} {i0 : Int} (H : HR h0 h l L S) (hw : h0.length + 3 ≤ w) (hw2 : h[w]? = some (.lst [])) (hz : L.length ≤ 10) :
    (whlC C condR stepR [some (.ref l), a1, some (.ref h0.length), a3, some (.ref w), some (.int x), a6] h).To fun s' h' => ∃ W here, s' = [some (.ref l), a1, some (.ref h0.length), a3, some (.ref w), some (.int here), a6] ∧ HR h0 h' l L S ∧ h'[w]? = some (.lst (W.map PV.int)) ∧
      Ring.Way (lk L) x W here ∧ W.Nodup ∧ (∀ y ∈ W, y ∈ keys L ∧ y ∉ S) ∧ ¬(here ∈ keys L ∧ here ∉ W ∧ here ∉ S) := by
  have hS : (64 : Nat) ≤ sizeLine := by decide
  refine SO.To.mono (whl_ok (fun s' h' m => ∃ W here, s' = [some (.ref l), a1, some (.ref h0.length), a3, some (.ref w), some (.int here), a6] ∧ HR h0 h' l L S ∧ h'[w]? = some (.lst (W.map PV.int)) ∧
      Ring.Way (lk L) x W here ∧ W.Nodup ∧ (∀ y ∈ W, y ∈ keys L ∧ y ∉ S) ∧ m + W.length = (keys L).length) _ (keys L).length (by rw [keys_len]; unfold big; omega) ⟨[], x, rfl, H, hw2, .nil, List.nodup_nil, by simp, rfl⟩ ?_) fun s' h' q => q
  rintro s h m ⟨W, here, rfl, H, hW, way, nd, hsub, hm⟩
  have hWl : W.length ≤ (keys L).length := Ring.nodup_le nd fun y hy => (hsub y hy).1
  have ec : evT C condR [some (.ref l), a1, some (.ref h0.length), a3, some (.ref w), some (.int here), a6] h = ok (decide (here ∈ keys L) && (!decide (here ∈ W) && !decide (here ∈ S))) h := by
    unfold condR
    simp [bnd_bnd, bnd_sbnd, sbnd_seq, seq_seq, seqC_ap, ss_cons, ss_nil, s_asg, s_ret, s_ite, s_ex, s_for, s_whl, e_non, e_bl, e_int, e_str, e_var, e_bin, e_neg, e_cmp, e_not, e_tup, e_lst, e_dic0, e_sub, e_call, e_bi, e_mt, kindG_same, e_isi, e_inv, e_lrg, e_lc, e_dc, wipeP, new, evEs, evT, evTs, evP, evI, evG, bnd_ok, sbnd_ok, seq_nx, seq_rt, to_nx, go_nx, go_ct, rt_rt, ok_ok, slot, item0, item1, item2, item3, sub_t, i_int, i_abs, i_lenT, c_eqI, c_neI, c_eqS, c_neS, c_lt, c_le, c_gt, c_ge, asB_bl, iteC_t, iteC_f, iteC_d, b_add, b_sub, b_mul, b_mod, cIn (in_dI H.d), cNotIn (in_l hW), cNotIn (in_dB H.s)]
    by_cases e1 : here ∈ keys L <;> by_cases e2 : here ∈ W <;> simp [bnd_bnd, bnd_sbnd, sbnd_seq, seq_seq, seqC_ap, ss_cons, ss_nil, s_asg, s_ret, s_ite, s_ex, s_for, s_whl, e_non, e_bl, e_int, e_str, e_var, e_bin, e_neg, e_cmp, e_not, e_tup, e_lst, e_dic0, e_sub, e_call, e_bi, e_mt, kindG_same, e_isi, e_inv, e_lrg, e_lc, e_dc, wipeP, new, evEs, evT, evTs, evP, evI, evG, bnd_ok, sbnd_ok, seq_nx, seq_rt, to_nx, go_nx, go_ct, rt_rt, ok_ok, slot, item0, item1, item2, item3, sub_t, i_int, i_abs, i_lenT, c_eqI, c_neI, c_eqS, c_neS, c_lt, c_le, c_gt, c_ge, asB_bl, iteC_t, iteC_f, iteC_d, b_add, b_sub, b_mul, b_mod, e1, e2, cNotIn (in_dB H.s)]
  rw [ec, ok_ok]
  by_cases e : here ∈ keys L ∧ here ∉ W ∧ here ∉ S
  · rw [if_pos (by simp [e])]
    obtain ⟨e1, e2, e3⟩ := e
    obtain ⟨y, hy⟩ := lk_key.mpr e1
    have lt : (keys L).length < sizeLine := by rw [keys_len]; omega
    unfold stepR
    have ap := append_l (x := .int here) hW (by rw [List.length_map]; omega)
    have H1 : HR h0 (h.set w (.lst ((W ++ [here]).map PV.int))) l L S := H.more fun i hi => List.getElem?_set_ne (by omega)
    have eM : W.map PV.int ++ [PV.int here] = (W ++ [here]).map PV.int := by simp
    rw [eM] at ap
    have hW1 : (h.set w (.lst ((W ++ [here]).map PV.int)))[w]? = some (.lst ((W ++ [here]).map PV.int)) := List.getElem?_set_self (lt_of_some hW)
    have nd1 : (W ++ [here]).Nodup := List.nodup_append.mpr ⟨nd, by simp, fun a ha b hb z => by
      have : b = here := by simpa using hb
      exact e2 (this ▸ z ▸ ha)⟩
    have sub1 : ∀ y ∈ W ++ [here], y ∈ keys L ∧ y ∉ S := fun y hy => by
      rcases List.mem_append.mp hy with q | q
      · exact hsub y q
      · have : y = here := by simpa using q
        subst this
        exact ⟨e1, e3⟩
    have hl1 : (W ++ [here]).length ≤ (keys L).length := Ring.nodup_le nd1 fun y hy => (sub1 y hy).1
    rw [List.length_append] at hl1
    simp only [List.length_cons, List.length_nil] at hl1
    generalize hG : (h.set w (.lst ((W ++ [here]).map PV.int))) = hh at *
    simp only [bnd_bnd, bnd_sbnd, sbnd_seq, seq_seq, seqC_ap, ss_cons, ss_nil, s_asg, s_ret, s_ite, s_ex, s_for, s_whl, e_non, e_bl, e_int, e_str, e_var, e_bin, e_neg, e_cmp, e_not, e_tup, e_lst, e_dic0, e_sub, e_call, e_bi, e_mt, kindG_same, e_isi, e_inv, e_lrg, e_lc, e_dc, wipeP, new, evEs, evT, evTs, evP, evI, evG, bnd_ok, sbnd_ok, seq_nx, seq_rt, to_nx, go_nx, go_ct, rt_rt, ok_ok, slot, item0, item1, item2, item3, sub_t, i_int, i_abs, i_lenT, c_eqI, c_neI, c_eqS, c_neS, c_lt, c_le, c_gt, c_ge, asB_bl, iteC_t, iteC_f, iteC_d, b_add, b_sub, b_mul, b_mod, List.getElem?_cons_succ, List.getElem?_cons_zero, kind_l hW, ap, if_true, look_d H1.d hy, List.set_cons_succ, List.set_cons_zero]
    exact ⟨m - 1, by omega, W ++ [here], y, rfl, H1, hW1, way.step hy, nd1, sub1, by rw [List.length_append]; simp; omega⟩
  · rw [if_neg (by simpa using e)]
    exact ⟨W, here, rfl, H, hW, way, nd, hsub, e⟩

theorem mark_ok {w : Nat} (H : HR h0 h l L S) (hw : h0.length + 3 ≤ w) (hW : h[w]? = some (.lst (W.map PV.int))) (nd : W.Nodup) (hsub : ∀ y ∈ W, y ∈ keys L ∧ y ∉ S) (nS : S.Nodup) (sS : ∀ y ∈ S, y ∈ keys L) (hz : L.length ≤ 10) :
    (forC C (.nm 6) markR [a0, a1, some (.ref h0.length), a3, a4, a5, a6] (.lst w) h).To fun s' h' => ∃ a6, s' = [a0, a1, some (.ref h0.length), a3, a4, a5, a6] ∧ HR h0 h' l L (S ++ W) := by
  have hS : (64 : Nat) ≤ sizeLine := by decide
  have hWl : W.length ≤ (keys L).length := Ring.nodup_le nd fun y hy => (hsub y hy).1
  have hSl : S.length ≤ (keys L).length := Ring.nodup_le nS sS
  rw [keys_len] at hWl hSl
  have := for_lst (C := C) (t := .nm 6) (b := markR) (l := w) (xs := W.map PV.int) (s := [a0, a1, some (.ref h0.length), a3, a4, a5, a6]) (h := h) (fun i s' h' => ∃ a6, s' = [a0, a1, some (.ref h0.length), a3, a4, a5, a6] ∧ HR h0 h' l L (S ++ W.take i) ∧ h'[w]? = some (.lst (W.map PV.int))) (by rw [List.length_map]; omega)
    (fun i s' h' ⟨_, _, _, q⟩ => q) ⟨a6, rfl, by simpa using H, hW⟩ fun i x s' h' hx ⟨a6, es, H', hW'⟩ => ?_
  · refine this.mono fun s' h' ⟨a6, es, H', _⟩ => ⟨a6, es, ?_⟩
    rw [List.length_map, List.take_length] at H'
    exact H'
  · subst es
    rw [List.getElem?_map, Option.map_eq_some_iff] at hx
    obtain ⟨k, hk2, rfl⟩ := hx
    have hkW : k ∈ W := List.mem_of_getElem? hk2
    have hnew : k ∉ S ++ W.take i := fun z => by
      rcases List.mem_append.mp z with q | q
      · exact (hsub k hkW).2 q
      · obtain ⟨j, hj, ej⟩ := Ring.mem_at q
        rw [List.length_take] at hj
        rw [List.getElem?_take_of_lt (by omega)] at ej
        have h1 := List.getElem?_eq_some_iff.mp ej
        have h2 := List.getElem?_eq_some_iff.mp hk2
        have := (List.getElem_inj nd).mp (h1.2.trans h2.2.symm)
        omega
    have lt : (dB (S ++ W.take i)).length < sizeLine := by
      have := List.length_take_le i W
      have := lt_of_some hk2
      simp [dB]
      omega
    have es : setF (.ref h0.length) (.int k) (.bl true) h' = ok () (h'.set h0.length (.dic (dB (S ++ W.take (i + 1))))) := by
      simp only [setF, H'.s, isKey, lt, true_and, if_true, dPut_dB hnew]
      rw [List.append_assoc, List.take_add_one, hk2]
      rfl
    unfold markR
    simp [bnd_bnd, bnd_sbnd, sbnd_seq, seq_seq, seqC_ap, ss_cons, ss_nil, s_asg, s_ret, s_ite, s_ex, s_for, s_whl, e_non, e_bl, e_int, e_str, e_var, e_bin, e_neg, e_cmp, e_not, e_tup, e_lst, e_dic0, e_sub, e_call, e_bi, e_mt, kindG_same, e_isi, e_inv, e_lrg, e_lc, e_dc, wipeP, new, evEs, evT, evTs, evP, evI, evG, bnd_ok, sbnd_ok, seq_nx, seq_rt, to_nx, go_nx, go_ct, rt_rt, ok_ok, slot, item0, item1, item2, item3, sub_t, i_int, i_abs, i_lenT, c_eqI, c_neI, c_eqS, c_neS, c_lt, c_le, c_gt, c_ge, asB_bl, iteC_t, iteC_f, iteC_d, b_add, b_sub, b_mul, b_mod, es]
    exact ⟨H'.setS _, by rw [List.getElem?_set_ne (by omega)]; exact hW'⟩
def bodyR : Ss := .cons (.asg (.nm 4) (.lst .nil)) (.cons (.asg (.nm 5) (.var 3)) (.cons (.whl condR stepR)
  (.cons (.ite (.cmp .In (.var 5) (.var 4)) (.cons (.asg (.nm 1) (.bin .Add (.var 1) (.int 1))) .nil) .nil) (.cons (.frr (.nm 6) (.ex (.var 4)) markR) .nil))))
theorem go_mono {o : SO} {Q R : PSt → PH → Prop} (e : o.Go Q) (k : ∀ s h, Q s h → R s h) : o.Go R := by
  cases o <;> first | exact k _ _ e | exact e.elim
theorem rings_append (f : Int → Option Int) (S W : List Int) : Ring.rings f (S ++ W) = Ring.rings f S + Ring.rings f W := by
  unfold Ring.rings
  exact List.countP_append
def QR (h0 : PH) (l : Nat) (L : List (Int × Int)) (S : List Int) (x : Int) (s' : PSt) (h' : PH) : Prop := ∃ S' a3 a4 a5 a6, s' = [some (.ref l), some (.int (Ring.rings (lk L) S')), some (.ref h0.length), a3, a4, a5, a6] ∧ HR h0 h' l L S' ∧ h0.length + 3 ≤ h'.length ∧ S'.Nodup ∧ (∀ y ∈ S', y ∈ keys L) ∧
  Ring.Closed (lk L) S' ∧ (∀ y ∈ S, y ∈ S') ∧ x ∈ S'
theorem bodyR_ok {x : Int} (H : HR h0 h l L S) (hlen : h0.length + 3 ≤ h.length) (nS : S.Nodup) (sS : ∀ y ∈ S, y ∈ keys L) (cS : Ring.Closed (lk L) S) (hx : x ∈ keys L) (hz : L.length ≤ 10) :
    (evSs C bodyR [some (.ref l), some (.int (Ring.rings (lk L) S)), some (.ref h0.length), some (.int x), a4, a5, a6] h).Go (QR h0 l L S x) := by
  unfold bodyR
  simp [bnd_bnd, bnd_sbnd, sbnd_seq, seq_seq, seqC_ap, ss_cons, ss_nil, s_asg, s_ret, s_ite, s_ex, s_for, s_whl, e_non, e_bl, e_int, e_str, e_var, e_bin, e_neg, e_cmp, e_not, e_tup, e_lst, e_dic0, e_sub, e_call, e_bi, e_mt, kindG_same, e_isi, e_inv, e_lrg, e_lc, e_dc, wipeP, new, evEs, evT, evTs, evP, evI, evG, bnd_ok, sbnd_ok, seq_nx, seq_rt, to_nx, go_nx, go_ct, rt_rt, ok_ok, slot, item0, item1, item2, item3, sub_t, i_int, i_abs, i_lenT, c_eqI, c_neI, c_eqS, c_neS, c_lt, c_le, c_gt, c_ge, asB_bl, iteC_t, iteC_f, iteC_d, b_add, b_sub, b_mul, b_mod]
  have H1 : HR h0 (h ++ [.lst []]) l L S := H.more fun i hi => List.getElem?_append_left (by omega)
  refine SO.To.go (way_ok (first := 0) (i0 := 0) H1 hlen (by simp) hz) fun s1 h1 ⟨W, here, es, H2, hW, way, nd, hsub, hend⟩ => ?_
  subst es
  have nd' : (S ++ W).Nodup := List.nodup_append.mpr ⟨nS, nd, fun a ha b hb z => (hsub b hb).2 (z ▸ ha)⟩
  have sub' : ∀ y ∈ S ++ W, y ∈ keys L := fun y hy => by
    rcases List.mem_append.mp hy with q | q
    · exact sS y q
    · exact (hsub y q).1
  have hfn : here ∉ keys L → lk L here = none := fun z => by
    cases e : lk L here with
    | none => rfl
    | some y => exact absurd (lk_key.mp ⟨y, e⟩) z
  have hcl : lk L here = none ∨ here ∈ W ∨ here ∈ S := by
    by_cases e1 : here ∈ keys L
    · by_cases e2 : here ∈ W
      · exact .inr (.inl e2)
      · exact .inr (.inr (Classical.byContradiction fun z => hend ⟨e1, e2, z⟩))
    · exact .inl (hfn e1)
  have hcl' := cS.way way hcl
  have hxm : x ∈ S ++ W := by
    cases W with
    | nil =>
      have e : some x = some here := way.end_
      cases e
      exact List.mem_append_left _ (Classical.byContradiction fun z => hend ⟨hx, by simp, z⟩)
    | cons y r =>
      have e : some x = some y := way.at_ 0 (by simp)
      cases e
      exact List.mem_append_right _ (by simp)
  have cIn1 := cIn (in_l (k := here) hW)
  by_cases e2 : here ∈ W
  · have c1 : Ring.rings (lk L) W = 1 := way.on nd e2
    simp [bnd_bnd, bnd_sbnd, sbnd_seq, seq_seq, seqC_ap, ss_cons, ss_nil, s_asg, s_ret, s_ite, s_ex, s_for, s_whl, e_non, e_bl, e_int, e_str, e_var, e_bin, e_neg, e_cmp, e_not, e_tup, e_lst, e_dic0, e_sub, e_call, e_bi, e_mt, kindG_same, e_isi, e_inv, e_lrg, e_lc, e_dc, wipeP, new, evEs, evT, evTs, evP, evI, evG, bnd_ok, sbnd_ok, seq_nx, seq_rt, to_nx, go_nx, go_ct, rt_rt, ok_ok, slot, item0, item1, item2, item3, sub_t, i_int, i_abs, i_lenT, c_eqI, c_neI, c_eqS, c_neS, c_lt, c_le, c_gt, c_ge, asB_bl, iteC_t, iteC_f, iteC_d, b_add, b_sub, b_mul, b_mod, cIn1, e2, hW]
    refine SO.To.go (mark_ok (a6 := a6) H2 hlen hW nd hsub nS sS hz) fun s3 h3 ⟨a6, es, H3⟩ => ?_
    subst es
    simp only [bnd_bnd, bnd_sbnd, sbnd_seq, seq_seq, seqC_ap, ss_cons, ss_nil, s_asg, s_ret, s_ite, s_ex, s_for, s_whl, e_non, e_bl, e_int, e_str, e_var, e_bin, e_neg, e_cmp, e_not, e_tup, e_lst, e_dic0, e_sub, e_call, e_bi, e_mt, kindG_same, e_isi, e_inv, e_lrg, e_lc, e_dc, wipeP, new, evEs, evT, evTs, evP, evI, evG, bnd_ok, sbnd_ok, seq_nx, seq_rt, to_nx, go_nx, go_ct, rt_rt, ok_ok, slot, item0, item1, item2, item3, sub_t, i_int, i_abs, i_lenT, c_eqI, c_neI, c_eqS, c_neS, c_lt, c_le, c_gt, c_ge, asB_bl, iteC_t, iteC_f, iteC_d, b_add, b_sub, b_mul, b_mod]
    unfold QR
    have eR : ((Ring.rings (lk L) S : Nat) : Int) + 1 = ((Ring.rings (lk L) (S ++ W) : Nat) : Int) := by rw [rings_append, c1]; rfl
    rw [eR]
    exact ⟨S ++ W, _, _, _, _, rfl, H3, by have := lt_of_some H3.f; omega, nd', sub', hcl', fun y hy => List.mem_append_left _ hy, hxm⟩
  · have c1 : Ring.rings (lk L) W = 0 := way.off cS e2 (by
      rcases hcl with q | q | q
      · exact .inl q
      · exact absurd q e2
      · exact .inr q) fun y hy => (hsub y hy).2
    simp [bnd_bnd, bnd_sbnd, sbnd_seq, seq_seq, seqC_ap, ss_cons, ss_nil, s_asg, s_ret, s_ite, s_ex, s_for, s_whl, e_non, e_bl, e_int, e_str, e_var, e_bin, e_neg, e_cmp, e_not, e_tup, e_lst, e_dic0, e_sub, e_call, e_bi, e_mt, kindG_same, e_isi, e_inv, e_lrg, e_lc, e_dc, wipeP, new, evEs, evT, evTs, evP, evI, evG, bnd_ok, sbnd_ok, seq_nx, seq_rt, to_nx, go_nx, go_ct, rt_rt, ok_ok, slot, item0, item1, item2, item3, sub_t, i_int, i_abs, i_lenT, c_eqI, c_neI, c_eqS, c_neS, c_lt, c_le, c_gt, c_ge, asB_bl, iteC_t, iteC_f, iteC_d, b_add, b_sub, b_mul, b_mod, cIn1, e2, hW]
    refine SO.To.go (mark_ok (a6 := a6) H2 hlen hW nd hsub nS sS hz) fun s3 h3 ⟨a6, es, H3⟩ => ?_
    subst es
    simp only [bnd_bnd, bnd_sbnd, sbnd_seq, seq_seq, seqC_ap, ss_cons, ss_nil, s_asg, s_ret, s_ite, s_ex, s_for, s_whl, e_non, e_bl, e_int, e_str, e_var, e_bin, e_neg, e_cmp, e_not, e_tup, e_lst, e_dic0, e_sub, e_call, e_bi, e_mt, kindG_same, e_isi, e_inv, e_lrg, e_lc, e_dc, wipeP, new, evEs, evT, evTs, evP, evI, evG, bnd_ok, sbnd_ok, seq_nx, seq_rt, to_nx, go_nx, go_ct, rt_rt, ok_ok, slot, item0, item1, item2, item3, sub_t, i_int, i_abs, i_lenT, c_eqI, c_neI, c_eqS, c_neS, c_lt, c_le, c_gt, c_ge, asB_bl, iteC_t, iteC_f, iteC_d, b_add, b_sub, b_mul, b_mod]
    unfold QR
    have eR : ((Ring.rings (lk L) S : Nat) : Int) = ((Ring.rings (lk L) (S ++ W) : Nat) : Int) := by rw [rings_append, c1]; rfl
    rw [eR]
    exact ⟨S ++ W, _, _, _, _, rfl, H3, by have := lt_of_some H3.f; omega, nd', sub', hcl', fun y hy => List.mem_append_left _ hy, hxm⟩
theorem rings_ok (hl : h0[l]? = some (.dic (dI L))) (hn : (keys L).Nodup) (hz : L.length ≤ 10) :
    (evSs C Lw.b__law_rings [some (.ref l), none, none, none, none, none, none] h0).Rt fun v h => v = .int (Ring.rings (lk L) (keys L)) ∧ (∀ i, i < h0.length → h[i]? = h0[i]?) ∧ h0.length ≤ h.length := by
  have hS : (64 : Nat) ≤ sizeLine := by decide
  have lt := lt_of_some hl
  have hp := sortI_perm (keys L)
  unfold Lw.b__law_rings
  have e1 : biF .list [.ref l] (h0 ++ [.dic []]) = ok (.ref (h0.length + 1)) (h0 ++ [.dic []] ++ [.lst ((keys L).map PV.int)]) := by
    simp only [biF, List.getElem?_append_left lt, hl, dI_keys, new]
    simp
  have e2 : biF .sorted [.ref (h0.length + 1)] (h0 ++ [.dic []] ++ [.lst ((keys L).map PV.int)]) = ok (.ref (h0.length + 2)) (h0 ++ [.dic []] ++ [.lst ((keys L).map PV.int)] ++ [.lst ((sortI (keys L)).map PV.int)]) := by
    simp [biF, lstAt, ints_map, new]
  have H0 : HR h0 (h0 ++ [.dic []] ++ [.lst ((keys L).map PV.int)] ++ [.lst ((sortI (keys L)).map PV.int)]) l L [] := by
    refine ⟨?_, lt, ?_, ?_, fun i hi => ?_⟩
    · rw [List.append_assoc, List.append_assoc, List.getElem?_append_left lt]; exact hl
    · simp [dB]
    · rw [List.append_assoc, List.append_assoc, List.getElem?_append_right (by omega)]; simp
    · rw [List.append_assoc, List.append_assoc, List.getElem?_append_left hi]
  simp only [ss_cons, s_asg, s_ret, s_for, e_int, e_dic0, e_bi, e_var, evEs, evI, evG, new, bnd_ok, sbnd_ok, seq_nx, bnd_bnd, List.set_cons_succ, List.set_cons_zero, slot, List.getElem?_cons_zero, List.getElem?_cons_succ, e1, e2]
  have e3 : (h0 ++ [PO.dic []] ++ [.lst ((keys L).map PV.int)] ++ [.lst ((sortI (keys L)).map PV.int)])[h0.length + 2]? = some (.lst ((sortI (keys L)).map PV.int)) := H0.f
  simp only [e3, sbnd_ok]
  refine SO.To.rt (for_lst (xs := (sortI (keys L)).map PV.int) (fun i s' h' => ∃ S a3 a4 a5 a6, s' = [some (.ref l), some (.int (Ring.rings (lk L) S)), some (.ref h0.length), a3, a4, a5, a6] ∧ HR h0 h' l L S ∧ h0.length + 3 ≤ h'.length ∧ S.Nodup ∧ (∀ y ∈ S, y ∈ keys L) ∧ Ring.Closed (lk L) S ∧ ∀ y ∈ (sortI (keys L)).take i, y ∈ S)
    (by rw [List.length_map, hp.length_eq, keys_len]; omega) (fun i s' h' ⟨_, _, _, _, _, _, q, _⟩ => q.f) ⟨[], _, _, _, _, rfl, H0, by simp, List.nodup_nil, by simp, fun x h => (by cases h), by simp⟩ fun i x s' h' hx ⟨S, a3, a4, a5, a6, es, H, hlen, nS, sS, cS, hS⟩ => ?_) fun s' h' ⟨S, a3, a4, a5, a6, es, H, hlen, nS, sS, cS, hS⟩ => ?_
  · subst es
    rw [List.getElem?_map, Option.map_eq_some_iff] at hx
    obtain ⟨k, hk2, rfl⟩ := hx
    have hk : k ∈ keys L := hp.mem_iff.mp (List.mem_of_getElem? hk2)
    have := bodyR_ok (C := C) (a4 := a4) (a5 := a5) (a6 := a6) H hlen nS sS cS hk hz
    simp only [evG, sbnd_ok, List.set_cons_succ, List.set_cons_zero]
    refine go_mono this fun s2 h2 ⟨S', b3, b4, b5, b6, es, H', hlen', nS', sS', cS', hm, hx'⟩ => ⟨S', b3, b4, b5, b6, es, H', hlen', nS', sS', cS', fun y hy => ?_⟩
    rw [List.take_add_one, hk2] at hy
    rcases List.mem_append.mp hy with q | q
    · exact hm y (hS y q)
    · have : y = k := by simpa using q
      exact this ▸ hx'
  · subst es
    simp [bnd_bnd, bnd_sbnd, sbnd_seq, seq_seq, seqC_ap, ss_cons, ss_nil, s_asg, s_ret, s_ite, s_ex, s_for, s_whl, e_non, e_bl, e_int, e_str, e_var, e_bin, e_neg, e_cmp, e_not, e_tup, e_lst, e_dic0, e_sub, e_call, e_bi, e_mt, kindG_same, e_isi, e_inv, e_lrg, e_lc, e_dc, wipeP, new, evEs, evT, evTs, evP, evI, evG, bnd_ok, sbnd_ok, seq_nx, seq_rt, to_nx, go_nx, go_ct, rt_rt, ok_ok, slot, item0, item1, item2, item3, sub_t, i_int, i_abs, i_lenT, c_eqI, c_neI, c_eqS, c_neS, c_lt, c_le, c_gt, c_ge, asB_bl, iteC_t, iteC_f, iteC_d, b_add, b_sub, b_mul, b_mod]
    rw [List.length_map, List.take_length] at hS
    have pS : (keys L).Perm S := (Ring.perm_of hn (fun y hy => hS y (hp.mem_iff.mpr hy)) (Ring.nodup_le nS sS)).symm
    refine ⟨?_, H.old, by omega⟩
    have : Ring.rings (lk L) S = Ring.rings (lk L) (keys L) := by unfold Ring.rings; exact pS.symm.countP_eq _
    rw [this]
end
end K42

set_option Elab.async false
set_option linter.all false
set_option maxRecDepth 100000
set_option maxHeartbeats 4000000
namespace K42
open PySem MP
open Out (ok bad)
/-- what a draw does -/
def Takes (C : Str → List PV → PH → Out PV) : Prop := ∀ (h : PH) (cs : List Int) (o : PO) (m : Int), h[0]? = some (.lst (cs.map PV.int)) → h[1]? = some o → DrawO 0 o → 0 < m → m < 1073741824 →
  (C "_law_take" [.ref 1, .int m] h).Ok fun v h' => ∃ (r : Int) (o' : PO), v = .int r ∧ 0 ≤ r ∧ r < m ∧ DrawO 0 o' ∧ h' = h.set 1 o'
section
variable {C : Str → List PV → PH → Out PV} {h h0 : PH} {ps : List (Int × Int)} {rest : List Int} {cs : List Int} {o : PO} {a0 a2 a4 a5 a6 a7 : Option PV}
def low (x : Int) : Prop := 0 ≤ x ∧ x < 10
structure PR (rest : List Int) (ps : List (Int × Int)) (n : Nat) : Prop where
  nd : (keys ps ++ rest).Nodup
  lo : ∀ x ∈ keys ps ++ rest, low x
  va : ∀ p ∈ ps, low p.2
  ln : ps.length + rest.length = n
theorem PR.take {n j : Nat} {d s : Int} (P : PR rest ps n) (e : rest[j]? = some d) (hs : low s) : PR (rest.eraseIdx j) (ps ++ [(d, s)]) n := by
  have lt := lt_of_some e
  have er : rest = rest.take j ++ d :: rest.drop (j + 1) := by
    rw [← (List.getElem?_eq_some_iff.mp e).2, List.getElem_cons_drop, List.take_append_drop]
  have pm : (keys (ps ++ [(d, s)]) ++ rest.eraseIdx j).Perm (keys ps ++ rest) := by
    have e1 : keys (ps ++ [(d, s)]) = keys ps ++ [d] := by simp [keys]
    rw [e1, List.append_assoc, List.eraseIdx_eq_take_drop_succ]
    refine List.Perm.append_left _ ?_
    conv => rhs; rw [er]
    show (d :: (rest.take j ++ rest.drop (j + 1))).Perm _
    exact List.perm_middle.symm
  refine ⟨pm.nodup_iff.mpr P.nd, fun x hx => P.lo x (pm.mem_iff.mp hx), fun p hp => ?_, ?_⟩
  · rcases List.mem_append.mp hp with q | q
    · exact P.va p q
    · have : p = (d, s) := by simpa using q
      subst this
      exact hs
  · have := P.ln
    rw [List.length_append, List.length_eraseIdx_of_lt lt]
    simp
    omega
theorem erase_map : ∀ (j : Nat) (l : List Int), (l.map PV.int).eraseIdx j = (l.eraseIdx j).map PV.int
  | _, [] => rfl
  | 0, _ :: _ => rfl
  | j + 1, x :: l => by simp [erase_map j l]
theorem pop_l {l : Nat} {i : Int} {d : Int} (e : h[l]? = some (.lst (rest.map PV.int))) (h1 : 0 ≤ i) (h2 : i < rest.length) (h3 : rest.length < 64) (hd : rest[i.toNat]? = some d) : mtF .pop (.ref l) [.int i] h = ok (.int d) (h.set l (.lst ((rest.eraseIdx i.toNat).map PV.int))) := by
  have e1 : small i = true := decide_eq_true ⟨by omega, by omega⟩
  have e2 : seqIndex? i (rest.map PV.int).length = some i.toNat := by
    unfold seqIndex?
    simp
    omega
  simp only [mtF, e, lstM, e1, if_true, e2, List.getElem?_map, hd, Option.map_some, erase_map]
def bodyP : Ss := .cons (.asg (.nm 5) (.mt .pop (.var 2) (.cons (.call "_law_take" (.cons (.var 1) (.cons (.bi .len (.cons (.var 2) .nil)) .nil))) .nil)))
    (.cons (.ex (.mt .append (.var 3) (.cons (.tup (.cons (.var 5) (.cons (.call "_law_take" (.cons (.var 1) (.cons (.int 10) .nil))) .nil))) .nil))) .nil)
theorem bodyP_ok (hT : Takes C) (hd : DrawO 0 o) (P : PR rest ps 10) (hr : 1 ≤ rest.length) :
    (evSs C bodyP [a0, some (.ref 1), some (.ref 2), some (.ref 3), a4, a5, none, none, none, none, none, none, none, none] [.lst (cs.map PV.int), o, .lst (rest.map PV.int), .lst (ps.map pairP)]).Go fun s' h' => ∃ a5 o' rest' d s, s' = [a0, some (.ref 1), some (.ref 2), some (.ref 3), a4, a5, none, none, none, none, none, none, none, none] ∧
      h' = [.lst (cs.map PV.int), o', .lst (rest'.map PV.int), .lst ((ps ++ [(d, s)]).map pairP)] ∧ DrawO 0 o' ∧ PR rest' (ps ++ [(d, s)]) 10 := by
  have hS : (64 : Nat) ≤ sizeLine := by decide
  have hln := P.ln
  unfold bodyP
  simp only [bnd_bnd, bnd_sbnd, sbnd_seq, seq_seq, seqC_ap, ss_cons, ss_nil, s_asg, s_ret, s_ite, s_ex, s_for, s_whl, e_non, e_bl, e_int, e_str, e_var, e_bin, e_neg, e_cmp, e_not, e_tup, e_lst, e_dic0, e_sub, e_call, e_bi, e_mt, kindG_same, e_isi, e_inv, e_lrg, e_lc, e_dc, wipeP, new, evEs, evT, evTs, evP, evI, evG, bnd_ok, sbnd_ok, seq_nx, seq_rt, to_nx, go_nx, go_ct, rt_rt, ok_ok, slot, item0, item1, item2, item3, sub_t, i_int, i_abs, i_lenT, c_eqI, c_neI, c_eqS, c_neS, c_lt, c_le, c_gt, c_ge, asB_bl, iteC_t, iteC_f, iteC_d, b_add, b_sub, b_mul, b_mod, List.getElem?_cons_succ, List.getElem?_cons_zero, List.set_cons_succ, List.set_cons_zero, i_lenL (show ([PO.lst (cs.map PV.int), o, .lst (rest.map PV.int), .lst (ps.map pairP)] : PH)[2]? = some (.lst (rest.map PV.int)) from rfl), List.length_map]
  refine Out.Ok.go (hT _ cs o rest.length rfl rfl hd (by omega) (by omega)) fun v h1 ⟨r, o1, ev, r0, r1, hd1, eh⟩ => ?_
  subst ev eh
  simp only [List.set_cons_succ, List.set_cons_zero, bnd_ok, sbnd_ok]
  obtain ⟨d, hdd⟩ : ∃ d, rest[r.toNat]? = some d := ⟨rest[r.toNat]'(by omega), List.getElem?_eq_getElem (by omega)⟩
  have p1 := pop_l (h := [.lst (cs.map PV.int), o1, .lst (rest.map PV.int), .lst (ps.map pairP)]) (l := 2) (i := r) rfl r0 (by omega) (by omega) hdd
  have k2 : ∀ (a b : PO) (c : List PV) (d : PO), kind (.ref 2) [a, b, .lst c, d] = 1 := fun _ _ _ _ => rfl
  have k3 : ∀ (a b c : PO) (d : List PV), kind (.ref 3) [a, b, c, .lst d] = 1 := fun _ _ _ _ => rfl
  rw [k2, k2, kindG_same, p1, sbnd_ok]
  simp only [List.set_cons_succ, List.set_cons_zero]
  refine Out.Ok.go (hT _ cs o1 10 rfl rfl hd1 (by omega) (by omega)) fun v h1 ⟨r2, o2, ev, r20, r21, hd2, eh⟩ => ?_
  subst ev eh
  simp only [List.set_cons_succ, List.set_cons_zero]
  rw [if_pos (by show 2 ≤ sizeLine; omega), sbnd_ok, k3, k3, kindG_same, append_l (show ([PO.lst (cs.map PV.int), o2, .lst ((rest.eraseIdx r.toNat).map PV.int), .lst (ps.map pairP)] : PH)[3]? = some (.lst (ps.map pairP)) from rfl) (by rw [List.length_map]; omega), sbnd_ok, go_nx]
  exact ⟨_, o2, rest.eraseIdx r.toNat, d, r2, rfl, by simp [pairP], hd2, P.take hdd ⟨r20, r21⟩⟩
def bodyO : E := .tup (.cons (.var 4) (.cons (.mt .pop (.var 6) (.cons (.call "_law_take" (.cons (.var 1) (.cons (.bi .len (.cons (.var 6) .nil)) .nil))) .nil)) .nil))
/-- nine pairs, a way round -/
theorem order_ok {p2 p3 : PO} {a3 : Option PV} (hT : Takes C) (hd : DrawO 0 o) :
    (each (lcC C bodyO (.nm 4) .nil [a0, some (.ref 1), a2, a3, none, a5, some (.ref 4), none, none, none, none, none, none, none]) (.vals (rngI 0 9)) [] [.lst (cs.map PV.int), o, p2, p3, .lst (rngI 0 9)]).Ok fun acc h' => ∃ o' p4 ps, h' = [.lst (cs.map PV.int), o', p2, p3, p4] ∧ acc = ps.map pairP ∧ DrawO 0 o' ∧ ps.length ≤ 10 ∧ (keys ps).Nodup ∧ ∀ p ∈ ps, low p.1 ∧ low p.2 := by
  have hS : (64 : Nat) ≤ sizeLine := by decide
  have er : rngI 0 9 = [0, 1, 2, 3, 4, 5, 6, 7, 8].map PV.int := rfl
  refine Out.Ok.mono (each_vals (fun i acc h' => ∃ o' ord ps, h' = [.lst (cs.map PV.int), o', p2, p3, .lst (ord.map PV.int)] ∧ acc = ps.map pairP ∧ DrawO 0 o' ∧ ps.length = i ∧ i + ord.length = 9 ∧ (∀ x ∈ ord, low x) ∧ keys ps = (List.range i).map (fun k : Nat => (k : Int)) ∧ ∀ p ∈ ps, low p.2)
    ⟨o, [0, 1, 2, 3, 4, 5, 6, 7, 8], [], by rw [er], rfl, hd, rfl, rfl, by unfold low; decide, rfl, by simp⟩ fun i x acc h' hx ⟨o1, ord, ps, eh, ea, hd1, e1, e2, e3, e4, e5⟩ => ?_) fun acc h' ⟨o1, ord, ps, eh, ea, hd1, e1, e2, e3, e4, e5⟩ => ?_
  · subst eh ea
    have hi : i < 9 := lt_of_some hx
    have hxi : x = .int i := by
      unfold rngI at hx
      rw [List.getElem?_map, List.getElem?_range (by simpa using hi)] at hx
      simp at hx
      exact hx.symm
    subst hxi
    unfold lcC bodyO
    simp only [bnd_bnd, bnd_sbnd, sbnd_seq, seq_seq, seqC_ap, ss_cons, ss_nil, s_asg, s_ret, s_ite, s_ex, s_for, s_whl, e_non, e_bl, e_int, e_str, e_var, e_bin, e_neg, e_cmp, e_not, e_tup, e_lst, e_dic0, e_sub, e_call, e_bi, e_mt, kindG_same, e_isi, e_inv, e_lrg, e_lc, e_dc, wipeP, new, evEs, evT, evTs, evP, evI, evG, bnd_ok, sbnd_ok, seq_nx, seq_rt, to_nx, go_nx, go_ct, rt_rt, ok_ok, slot, item0, item1, item2, item3, sub_t, i_int, i_abs, i_lenT, c_eqI, c_neI, c_eqS, c_neS, c_lt, c_le, c_gt, c_ge, asB_bl, iteC_t, iteC_f, iteC_d, b_add, b_sub, b_mul, b_mod, List.getElem?_cons_succ, List.getElem?_cons_zero, List.set_cons_succ, List.set_cons_zero, i_lenL (show ([PO.lst (cs.map PV.int), o1, p2, p3, .lst (ord.map PV.int)] : PH)[4]? = some (.lst (ord.map PV.int)) from rfl), List.length_map, if_true]
    refine Out.Ok.bnd (hT _ cs o1 ord.length rfl rfl hd1 (by omega) (by omega)) fun v h1 ⟨r, o2, ev, r0, r1, hd2, eh⟩ => ?_
    subst ev eh
    simp only [List.set_cons_succ, List.set_cons_zero, bnd_ok, sbnd_ok]
    obtain ⟨d, hdd⟩ : ∃ d, ord[r.toNat]? = some d := ⟨ord[r.toNat]'(by omega), List.getElem?_eq_getElem (by omega)⟩
    have p1 := pop_l (h := [.lst (cs.map PV.int), o2, p2, p3, .lst (ord.map PV.int)]) (l := 4) (i := r) rfl r0 (by omega) (by omega) hdd
    have k4 : ∀ (a b c d : PO) (x : List PV), kind (.ref 4) [a, b, c, d, .lst x] = 1 := fun _ _ _ _ _ => rfl
    rw [k4, k4, kindG_same, p1, bnd_ok]
    simp only [List.set_cons_succ, List.set_cons_zero]
    rw [if_pos (by show 2 ≤ sizeLine; omega), bnd_ok, if_pos (by omega)]
    have ldd := lt_of_some hdd
    refine ⟨o2, ord.eraseIdx r.toNat, ps ++ [((i : Int), d)], rfl, by simp [pairP], hd2, by simp; exact e1, ?_, fun x hx => e3 x (List.mem_of_mem_eraseIdx hx), ?_, fun p hp => ?_⟩
    · rw [List.length_eraseIdx_of_lt ldd]; omega
    · rw [List.range_succ, List.map_append, ← e4]
      simp [keys]
    · rcases List.mem_append.mp hp with q | q
      · exact e5 p q
      · have : p = ((i : Int), d) := by simpa using q
        subst this
        exact e3 d (List.mem_of_getElem? hdd)
  · have e9 : (rngI 0 9).length = 9 := rfl
    rw [e9] at e1 e2 e4
    refine ⟨o1, _, ps, eh, ea, hd1, by omega, ?_, fun p hp => ⟨?_, e5 p hp⟩⟩
    · rw [e4]
      decide
    · have : p.1 ∈ keys ps := List.mem_map.mpr ⟨p, hp, rfl⟩
      rw [e4] at this
      obtain ⟨k, hk, e⟩ := List.mem_map.mp this
      have := List.mem_range.mp hk
      unfold low
      omega
end
end K42

set_option Elab.async false
set_option linter.all false
set_option maxRecDepth 100000
set_option maxHeartbeats 4000000
namespace K42
open PySem MP
open Out (ok bad)
section
variable {C : Str → List PV → PH → Out PV} {h h0 : PH} {ps : List (Int × Int)} {a0 a1 a2 a3 a4 a5 a6 a7 a8 a9 a10 a11 a12 a13 : Option PV}
def bodyL : Ss := .cons (.ite (.cmp .NotEq (.var 5) (.var 10)) (.cons (.asg (.sub (.var 9) (.var 5)) (.var 10)) .nil) .nil) .nil
def QL (a0 a1 a2 a3 a4 a6 a7 a8 : Option PV) (lf : Nat) (a11 a12 a13 : Option PV) (L : List (Int × Int)) (h : PH) (s' : PSt) (h' : PH) : Prop := ∃ a5 a10, s' = [a0, a1, a2, a3, a4, a5, a6, a7, a8, some (.ref lf), a10, a11, a12, a13] ∧ h'[lf]? = some (.dic (dI L)) ∧ (∀ i, i ≠ lf → h'[i]? = h[i]?) ∧ h'.length = h.length
theorem left_ok {lp lf : Nat} (hp : h[lp]? = some (.lst (ps.map pairP))) (hf : h[lf]? = some (.dic [])) (hne : lp ≠ lf) (hn : (keys ps).Nodup) (hl : ps.length ≤ 10) :
    (forC C (.tup [5, 10]) bodyL [a0, a1, a2, a3, a4, a5, a6, a7, a8, some (.ref lf), a10, a11, a12, a13] (.lst lp) h).To (QL a0 a1 a2 a3 a4 a6 a7 a8 lf a11 a12 a13 (offL ps) h) := by
  have hS : (64 : Nat) ≤ sizeLine := by decide
  have := for_lst (C := C) (t := .tup [5, 10]) (b := bodyL) (l := lp) (xs := ps.map pairP) (s := [a0, a1, a2, a3, a4, a5, a6, a7, a8, some (.ref lf), a10, a11, a12, a13]) (h := h) (fun i => QL a0 a1 a2 a3 a4 a6 a7 a8 lf a11 a12 a13 (offL (ps.take i)) h) (by rw [List.length_map]; omega)
    (fun i s' h' ⟨_, _, _, _, q, _⟩ => (q lp hne).trans hp) ⟨a5, a10, rfl, hf, fun _ _ => rfl, rfl⟩ fun i x s' h' hx ⟨a5, a10, es, q1, q2, q3⟩ => ?_
  · rw [List.length_map, List.take_length] at this; exact this
  · subst es
    rw [List.getElem?_map, Option.map_eq_some_iff] at hx
    obtain ⟨p, hp2, rfl⟩ := hx
    have hlen : (offL (ps.take i)).length < sizeLine := by
      have h1 : (offL (ps.take i)).length ≤ (ps.take i).length := List.length_filter_le _ _
      have h2 := List.length_take_le i ps
      have h3 := lt_of_some hp2
      omega
    have hnew := off_new hn hp2
    have ep := put_d (d := p.1) (v := p.2) q1 hlen
    have eg : evG C (.tup [5, 10]) (pairP p) [a0, a1, a2, a3, a4, a5, a6, a7, a8, some (.ref lf), a10, a11, a12, a13] h' = ok [a0, a1, a2, a3, a4, some (.int p.1), a6, a7, a8, some (.ref lf), some (.int p.2), a11, a12, a13] h' := by
      simp [evG, pairP, setAll]
    rw [eg, sbnd_ok]
    unfold bodyL
    rw [show offL (ps.take (i + 1)) = if p.1 ≠ p.2 then offL (ps.take i) ++ [p] else offL (ps.take i) from off_take hp2]
    by_cases q : p.1 = p.2
    · simp [bnd_bnd, bnd_sbnd, sbnd_seq, seq_seq, seqC_ap, ss_cons, ss_nil, s_asg, s_ret, s_ite, s_ex, s_for, s_whl, e_non, e_bl, e_int, e_str, e_var, e_bin, e_neg, e_cmp, e_not, e_tup, e_lst, e_dic0, e_sub, e_call, e_bi, e_mt, kindG_same, e_isi, e_inv, e_lrg, e_lc, e_dc, wipeP, new, evEs, evT, evTs, evP, evI, evG, bnd_ok, sbnd_ok, seq_nx, seq_rt, to_nx, go_nx, go_ct, rt_rt, ok_ok, slot, item0, item1, item2, item3, sub_t, i_int, i_abs, i_lenT, c_eqI, c_neI, c_eqS, c_neS, c_lt, c_le, c_gt, c_ge, asB_bl, iteC_t, iteC_f, iteC_d, b_add, b_sub, b_mul, b_mod, q]
      exact ⟨_, _, rfl, q1, q2, q3⟩
    · have eput : putL (offL (ps.take i)) p.1 p.2 = offL (ps.take i) ++ [p] := by unfold putL; rw [if_neg hnew]
      rw [eput] at ep
      simp [bnd_bnd, bnd_sbnd, sbnd_seq, seq_seq, seqC_ap, ss_cons, ss_nil, s_asg, s_ret, s_ite, s_ex, s_for, s_whl, e_non, e_bl, e_int, e_str, e_var, e_bin, e_neg, e_cmp, e_not, e_tup, e_lst, e_dic0, e_sub, e_call, e_bi, e_mt, kindG_same, e_isi, e_inv, e_lrg, e_lc, e_dc, wipeP, new, evEs, evT, evTs, evP, evI, evG, bnd_ok, sbnd_ok, seq_nx, seq_rt, to_nx, go_nx, go_ct, rt_rt, ok_ok, slot, item0, item1, item2, item3, sub_t, i_int, i_abs, i_lenT, c_eqI, c_neI, c_eqS, c_neS, c_lt, c_le, c_gt, c_ge, asB_bl, iteC_t, iteC_f, iteC_d, b_add, b_sub, b_mul, b_mod, q, ep]
      exact ⟨_, _, rfl, List.getElem?_set_self (lt_of_some q1), fun j hj => by rw [List.getElem?_set_ne (Ne.symm hj)]; exact q2 j hj, by rw [List.length_set]; exact q3⟩
def W14 : List (Int × Int) := (List.range 14).map fun k : Nat => ((k : Int), 100 + (k : Int))
def bodyX : Ss := .cons (.asg (.sub (.var 11) (.var 12)) (.bin .Add (.int 100) (.var 12))) .nil
def QX (a0 a1 a2 a3 a4 a5 a6 a7 a8 a9 a10 : Option PV) (wd : Nat) (a13 : Option PV) (L : List (Int × Int)) (h : PH) (s' : PSt) (h' : PH) : Prop := ∃ a12, s' = [a0, a1, a2, a3, a4, a5, a6, a7, a8, a9, a10, some (.ref wd), a12, a13] ∧ h'[wd]? = some (.dic (dI L)) ∧ (∀ i, i ≠ wd → h'[i]? = h[i]?) ∧ h'.length = h.length
theorem words_ok {wd : Nat} (hf : h[wd]? = some (.dic [])) :
    (forC C (.nm 12) bodyX [a0, a1, a2, a3, a4, a5, a6, a7, a8, a9, a10, some (.ref wd), a12, a13] (.vals (rngI 0 14)) h).To (QX a0 a1 a2 a3 a4 a5 a6 a7 a8 a9 a10 wd a13 W14 h) := by
  have hS : (64 : Nat) ≤ sizeLine := by decide
  refine for_vals (fun i => QX a0 a1 a2 a3 a4 a5 a6 a7 a8 a9 a10 wd a13 ((List.range i).map fun k : Nat => ((k : Int), 100 + (k : Int))) h) ⟨a12, rfl, hf, fun _ _ => rfl, rfl⟩ fun i x s' h' hx ⟨a12, es, q1, q2, q3⟩ => ?_
  subst es
  have hi : i < 14 := lt_of_some hx
  have hxi : x = .int i := by
    unfold rngI at hx
    rw [List.getElem?_map, List.getElem?_range (by simpa using hi)] at hx
    simp at hx
    exact hx.symm
  subst hxi
  have ep := put_d (d := (i : Int)) (v := 100 + (i : Int)) q1 (by simp; omega)
  have eput : putL ((List.range i).map fun k : Nat => ((k : Int), 100 + (k : Int))) (i : Int) (100 + (i : Int)) = (List.range (i + 1)).map fun k : Nat => ((k : Int), 100 + (k : Int)) := by
    unfold putL
    rw [if_neg, List.range_succ, List.map_append]
    · rfl
    · intro z
      unfold keys at z
      rw [List.map_map] at z
      obtain ⟨k, hk, e⟩ := List.mem_map.mp z
      have := List.mem_range.mp hk
      have e : (k : Int) = i := e
      omega
  rw [eput] at ep
  unfold bodyX
  simp [bnd_bnd, bnd_sbnd, sbnd_seq, seq_seq, seqC_ap, ss_cons, ss_nil, s_asg, s_ret, s_ite, s_ex, s_for, s_whl, e_non, e_bl, e_int, e_str, e_var, e_bin, e_neg, e_cmp, e_not, e_tup, e_lst, e_dic0, e_sub, e_call, e_bi, e_mt, kindG_same, e_isi, e_inv, e_lrg, e_lc, e_dc, wipeP, new, evEs, evT, evTs, evP, evI, evG, bnd_ok, sbnd_ok, seq_nx, seq_rt, to_nx, go_nx, go_ct, rt_rt, ok_ok, slot, item0, item1, item2, item3, sub_t, i_int, i_abs, i_lenT, c_eqI, c_neI, c_eqS, c_neS, c_lt, c_le, c_gt, c_ge, asB_bl, iteC_t, iteC_f, iteC_d, b_add, b_sub, b_mul, b_mod, ep]
  exact ⟨_, rfl, List.getElem?_set_self (lt_of_some q1), fun j hj => by rw [List.getElem?_set_ne (Ne.symm hj)]; exact q2 j hj, by rw [List.length_set]; exact q3⟩
theorem W14_keys {x : Int} : x ∈ keys W14 ↔ Ring.inR x := by
  unfold W14 keys Ring.inR
  rw [List.map_map, List.mem_map]
  constructor
  · rintro ⟨k, hk, rfl⟩
    have := List.mem_range.mp hk
    show 0 ≤ (k : Int) ∧ (k : Int) < 14
    omega
  · rintro ⟨h1, h2⟩
    refine ⟨x.toNat, List.mem_range.mpr (by omega), ?_⟩
    show ((x.toNat : Nat) : Int) = x
    omega
theorem W14_lk {x : Int} (h : Ring.inR x) : lk W14 x = some (100 + x) := by
  have hn : (keys W14).Nodup := by decide
  obtain ⟨h1, h2⟩ := h
  refine lk_of hn (List.mem_map.mpr ⟨x.toNat, List.mem_range.mpr (by omega), ?_⟩)
  have : ((x.toNat : Nat) : Int) = x := by omega
  rw [this]
def bodyY : Ss := .cons (.ite (.or (.cmp .NotEq (.bi .len (.cons (.var 13) .nil)) (.int 3)) (.or (.cmp .NotEq (.sub (.var 13) (.int 0)) (.str "move")) (.or (.cmp .NotIn (.sub (.var 13) (.int 1)) (.var 11)) (.cmp .NotIn (.sub (.var 13) (.int 2)) (.var 11))))) (.cons (.ret (.bl false)) .nil) .nil)
    (.cons (.asg (.sub (.var 11) (.sub (.var 13) (.int 1))) (.sub (.var 11) (.sub (.var 13) (.int 2)))) .nil)
def QY (a0 a1 a2 a3 a4 a5 a6 a7 a8 a9 a10 : Option PV) (wd : Nat) (a12 : Option PV) (R : List (Int × Int)) (h : PH) (s' : PSt) (h' : PH) : Prop := ∃ a13 W, s' = [a0, a1, a2, a3, a4, a5, a6, a7, a8, a9, a10, some (.ref wd), a12, a13] ∧ h'[wd]? = some (.dic (dI W)) ∧ W.length = 14 ∧ (∀ x, x ∈ keys W ↔ Ring.inR x) ∧ (∀ x, Ring.inR x → lk W x = some (Ring.run R (fun y => 100 + y) x)) ∧ (∀ i, i ≠ wd → h'[i]? = h[i]?)
theorem rows_ok {rr wd : Nat} {R : List (Int × Int)} (hr : h[rr]? = some (.lst (R.map rowP))) (hw : h[wd]? = some (.dic (dI W14))) (hne : rr ≠ wd) (hz : R.length < 64) (hreg : ∀ r ∈ R, Ring.inR r.1 ∧ Ring.inR r.2) :
    (forC C (.nm 13) bodyY [a0, a1, a2, a3, a4, a5, a6, a7, a8, a9, a10, some (.ref wd), a12, a13] (.lst rr) h).To (QY a0 a1 a2 a3 a4 a5 a6 a7 a8 a9 a10 wd a12 R h) := by
  have hS : (64 : Nat) ≤ sizeLine := by decide
  have := for_lst (C := C) (t := .nm 13) (b := bodyY) (l := rr) (xs := R.map rowP) (s := [a0, a1, a2, a3, a4, a5, a6, a7, a8, a9, a10, some (.ref wd), a12, a13]) (h := h) (fun i => QY a0 a1 a2 a3 a4 a5 a6 a7 a8 a9 a10 wd a12 (R.take i) h) (by rw [List.length_map]; omega)
    (fun i s' h' ⟨_, _, _, _, _, _, _, q⟩ => (q rr hne).trans hr) ⟨a13, W14, rfl, hw, rfl, fun x => W14_keys, fun x hx => W14_lk hx, fun _ _ => rfl⟩ fun i x s' h' hx ⟨a13, W, es, q1, q2, q3, q4, q5⟩ => ?_
  · rw [List.length_map, List.take_length] at this; exact this
  · subst es
    rw [List.getElem?_map, Option.map_eq_some_iff] at hx
    obtain ⟨r, hr2, rfl⟩ := hx
    obtain ⟨i1, i2⟩ := hreg r (List.mem_of_getElem? hr2)
    have ep := fun v => put_d (d := r.1) (v := v) q1 (by omega)
    have n1 := cNotIn (in_dI (k := r.1) q1)
    have n2 := cNotIn (in_dI (k := r.2) q1)
    rw [show decide (r.1 ∈ keys W) = true from decide_eq_true ((q3 _).mpr i1)] at n1
    rw [show decide (r.2 ∈ keys W) = true from decide_eq_true ((q3 _).mpr i2)] at n2
    have e2 := look_d (d := r.2) q1 (q4 _ i2)
    have etk : R.take (i + 1) = R.take i ++ [r] := by rw [List.take_add_one, hr2]; rfl
    unfold bodyY
    simp [bnd_bnd, bnd_sbnd, sbnd_seq, seq_seq, seqC_ap, ss_cons, ss_nil, s_asg, s_ret, s_ite, s_ex, s_for, s_whl, e_non, e_bl, e_int, e_str, e_var, e_bin, e_neg, e_cmp, e_not, e_tup, e_lst, e_dic0, e_sub, e_call, e_bi, e_mt, kindG_same, e_isi, e_inv, e_lrg, e_lc, e_dc, wipeP, new, evEs, evT, evTs, evP, evI, evG, bnd_ok, sbnd_ok, seq_nx, seq_rt, to_nx, go_nx, go_ct, rt_rt, ok_ok, slot, item0, item1, item2, item3, sub_t, i_int, i_abs, i_lenT, c_eqI, c_neI, c_eqS, c_neS, c_lt, c_le, c_gt, c_ge, asB_bl, iteC_t, iteC_f, iteC_d, b_add, b_sub, b_mul, b_mod, rowP, n1, n2, e2, ep]
    refine ⟨_, putL W r.1 _, rfl, List.getElem?_set_self (lt_of_some q1), ?_, fun x => ?_, fun x hx => ?_, fun j hj => by rw [List.getElem?_set_ne (Ne.symm hj)]; exact q5 j hj⟩
    · have := keys_put (v := Ring.run (R.take i) (fun y => 100 + y) r.2) ((q3 _).mpr i1)
      rw [← keys_len, this, keys_len]; exact q2
    · rw [keys_put ((q3 _).mpr i1)]; exact q3 x
    · rw [lk_put, etk, Ring.run_snoc]
      unfold Ring.put
      by_cases e : x = r.1
      · rw [if_pos e, if_pos e]
      · rw [if_neg e, if_neg e]; exact q4 x hx
def bodyZ : Ss := .cons (.ite (.and (.cmp .NotEq (.var 12) (.var 7)) (.cmp .NotEq (.sub (.var 11) (.var 12)) (.bin .Add (.int 100) (.mt .get (.var 9) (.cons (.var 12) (.cons (.var 12) .nil)))))) (.cons (.ret (.bl false)) .nil) .nil) .nil
theorem check_ok {wd lf : Nat} {W L : List (Int × Int)} {sp : Int} (hw : h[wd]? = some (.dic (dI W))) (hf : h[lf]? = some (.dic (dI L))) (hk : ∀ x, Ring.inR x → x ≠ sp → lk W x = some (100 + (lk L x).getD x)) (hs : ∀ x, Ring.inR x → ∃ v, lk W x = some v) :
    (forC C (.nm 12) bodyZ [a0, a1, a2, a3, a4, a5, a6, some (.int sp), a8, some (.ref lf), a10, some (.ref wd), a12, a13] (.vals (rngI 0 14)) h).To fun s' h' => True := by
  refine SO.To.mono (for_vals (fun i s' h' => ∃ a12, s' = [a0, a1, a2, a3, a4, a5, a6, some (.int sp), a8, some (.ref lf), a10, some (.ref wd), a12, a13] ∧ h' = h) ⟨a12, rfl, rfl⟩ fun i x s' h' hx ⟨a12, es, eh⟩ => ?_) fun _ _ _ => trivial
  subst es eh
  have hi : i < 14 := lt_of_some hx
  have hxi : x = .int i := by
    unfold rngI at hx
    rw [List.getElem?_map, List.getElem?_range (by simpa using hi)] at hx
    simp at hx
    exact hx.symm
  subst hxi
  have hin : Ring.inR (i : Int) := ⟨by omega, by omega⟩
  obtain ⟨v, hv⟩ := hs _ hin
  have e1 := look_d (d := (i : Int)) hw hv
  have e2 : mtF .get (.ref lf) [.int i, .int i] h' = ok (.int ((lk L i).getD i)) h' := by
    simp only [mtF, hf, dicM, dicR, isKey, if_true, dGet_dI]
    cases lk L (i : Int) <;> rfl
  unfold bodyZ
  by_cases q : (i : Int) = sp
  · simp [bnd_bnd, bnd_sbnd, sbnd_seq, seq_seq, seqC_ap, ss_cons, ss_nil, s_asg, s_ret, s_ite, s_ex, s_for, s_whl, e_non, e_bl, e_int, e_str, e_var, e_bin, e_neg, e_cmp, e_not, e_tup, e_lst, e_dic0, e_sub, e_call, e_bi, e_mt, kindG_same, e_isi, e_inv, e_lrg, e_lc, e_dc, wipeP, new, evEs, evT, evTs, evP, evI, evG, bnd_ok, sbnd_ok, seq_nx, seq_rt, to_nx, go_nx, go_ct, rt_rt, ok_ok, slot, item0, item1, item2, item3, sub_t, i_int, i_abs, i_lenT, c_eqI, c_neI, c_eqS, c_neS, c_lt, c_le, c_gt, c_ge, asB_bl, iteC_t, iteC_f, iteC_d, b_add, b_sub, b_mul, b_mod, q]
  · have hv2 := hk _ hin q
    rw [hv] at hv2
    cases hv2
    simp [bnd_bnd, bnd_sbnd, sbnd_seq, seq_seq, seqC_ap, ss_cons, ss_nil, s_asg, s_ret, s_ite, s_ex, s_for, s_whl, e_non, e_bl, e_int, e_str, e_var, e_bin, e_neg, e_cmp, e_not, e_tup, e_lst, e_dic0, e_sub, e_call, e_bi, e_mt, kindG_same, e_isi, e_inv, e_lrg, e_lc, e_dc, wipeP, new, evEs, evT, evTs, evP, evI, evG, bnd_ok, sbnd_ok, seq_nx, seq_rt, to_nx, go_nx, go_ct, rt_rt, ok_ok, slot, item0, item1, item2, item3, sub_t, i_int, i_abs, i_lenT, c_eqI, c_neI, c_eqS, c_neS, c_lt, c_le, c_gt, c_ge, asB_bl, iteC_t, iteC_f, iteC_d, b_add, b_sub, b_mul, b_mod, q, e1, e2]
end
end K42

set_option Elab.async false
set_option linter.all false
set_option maxRecDepth 100000
set_option maxHeartbeats 4000000
namespace K42
open PySem MP
open Out (ok bad)
section
variable {C : Str → List PV → PH → Out PV}
def Draws (C : Str → List PV → PH → Out PV) (sc : PV) : Prop := (C "_law_draw" [sc] []).Ok fun v h => v = .ref 1 ∧ ∃ (cs : List Int) (o : PO), DrawO 0 o ∧ h = [.lst (cs.map PV.int), o]
def Seqs (C : Str → List PV → PH → Out PV) : Prop := ∀ (h0 : PH) (ps : List (Int × Int)) (sp : Int), (keys ps).Nodup → ps.length ≤ 10 → (∀ p ∈ ps, Ring.inR p.1 ∧ Ring.inR p.2) → Ring.inR sp → (∀ p ∈ ps, p.1 ≠ sp) →
  (C "sequence" [.tup (ps.map pairP), .int sp] h0).Ok fun v h => v = .ref (h0.length + 1) ∧ ∃ R, h[h0.length + 1]? = some (.lst (R.map rowP)) ∧ (∀ i, i < h0.length → h[i]? = h0[i]?) ∧ h0.length ≤ h.length ∧
      Ring.Inv (lk (offL ps)) sp ((keys (offL ps)).length + Ring.rings (lk (offL ps)) (keys (offL ps))) [] (lk []) R
def Rings (C : Str → List PV → PH → Out PV) : Prop := ∀ (h0 : PH) (l : Nat) (L : List (Int × Int)), h0[l]? = some (.dic (dI L)) → (keys L).Nodup → L.length ≤ 10 →
  (C "_law_rings" [.ref l] h0).Ok fun v h => v = .int (Ring.rings (lk L) (keys L)) ∧ (∀ i, i < h0.length → h[i]? = h0[i]?) ∧ h0.length ≤ h.length
/-- behind the draws -/
def tail2 : Ss :=
    (.cons (.asg (.nm 8) (.call "sequence" (.cons (.bi .tuple (.cons (.var 3) .nil)) (.cons (.var 7) .nil))))
    (.cons (.asg (.nm 9) (.dic .nil))
    (.cons (.frr (.tup [5, 10]) (.ex (.var 3)) bodyL)
    (.cons (.ite (.or (.not (.e (.isi .list (.var 8)))) (.cmp .NotEq (.bi .len (.cons (.var 8) .nil)) (.bin .Add (.bi .len (.cons (.var 9) .nil)) (.call "_law_rings" (.cons (.var 9) .nil))))) (.cons (.ret (.bl false)) .nil) .nil)
    (.cons (.asg (.nm 11) (.dic .nil))
    (.cons (.frr (.nm 12) (.rng (.cons (.int 14) .nil)) bodyX)
    (.cons (.frr (.nm 13) (.ex (.var 8)) bodyY)
    (.cons (.frr (.nm 12) (.rng (.cons (.int 14) .nil)) bodyZ)
    (.cons (.ret (.bl true)) .nil)))))))))
theorem tail2_ok (hS : Seqs C) (hR : Rings C) {h : PH} {lp : Nat} {ps : List (Int × Int)} {sp : Int} {a0 a1 a2 a4 a5 a6 : Option PV} (hp : h[lp]? = some (.lst (ps.map pairP))) (hn : (keys ps).Nodup) (hl : ps.length ≤ 10) (hlo : ∀ p ∈ ps, low p.1 ∧ low p.2) (s1 : 10 ≤ sp) (s2 : sp < 14) :
    (evSs C tail2 [a0, a1, a2, some (.ref lp), a4, a5, a6, some (.int sp), none, none, none, none, none, none] h).Rt fun v _ => v = .bl true := by
  have hS64 : (64 : Nat) ≤ sizeLine := by decide
  have llp := lt_of_some hp
  have et : biF .tuple [.ref lp] h = ok (.tup (ps.map pairP)) h := by simp only [biF, hp]
  unfold tail2
  simp only [bnd_bnd, bnd_sbnd, sbnd_seq, seq_seq, seqC_ap, ss_cons, ss_nil, s_asg, s_ret, s_ite, s_ex, s_for, s_whl, e_non, e_bl, e_int, e_str, e_var, e_bin, e_neg, e_cmp, e_not, e_tup, e_lst, e_dic0, e_sub, e_call, e_bi, e_mt, kindG_same, e_isi, e_inv, e_lrg, e_lc, e_dc, wipeP, new, evEs, evT, evTs, evP, evI, evG, bnd_ok, sbnd_ok, seq_nx, seq_rt, to_nx, go_nx, go_ct, rt_rt, ok_ok, slot, item0, item1, item2, item3, sub_t, i_int, i_abs, i_lenT, c_eqI, c_neI, c_eqS, c_neS, c_lt, c_le, c_gt, c_ge, asB_bl, iteC_t, iteC_f, iteC_d, b_add, b_sub, b_mul, b_mod, et, List.getElem?_cons_succ, List.getElem?_cons_zero, List.set_cons_succ, List.set_cons_zero]
  refine Out.Ok.rt (hS h ps sp hn hl (fun p hp => by
    obtain ⟨⟨q1, q2⟩, q3, q4⟩ := hlo p hp
    exact ⟨⟨q1, by omega⟩, q3, by omega⟩) ⟨by omega, s2⟩ fun p hp => by
    obtain ⟨⟨q1, q2⟩, q3, q4⟩ := hlo p hp
    omega) fun v h1 ⟨ev, R, r1, r2, r3, I⟩ => ?_
  subst ev
  have lr1 := lt_of_some r1
  have hp1 : (h1 ++ [.dic []])[lp]? = some (.lst (ps.map pairP)) := by rw [List.getElem?_append_left (by omega), r2 lp llp]; exact hp
  have hd1 : (h1 ++ [PO.dic []])[h1.length]? = some (.dic []) := by simp
  have hr1 : (h1 ++ [PO.dic []])[h.length + 1]? = some (.lst (R.map rowP)) := by rw [List.getElem?_append_left lr1]; exact r1
  simp only [bnd_bnd, bnd_sbnd, sbnd_seq, seq_seq, seqC_ap, ss_cons, ss_nil, s_asg, s_ret, s_ite, s_ex, s_for, s_whl, e_non, e_bl, e_int, e_str, e_var, e_bin, e_neg, e_cmp, e_not, e_tup, e_lst, e_dic0, e_sub, e_call, e_bi, e_mt, kindG_same, e_isi, e_inv, e_lrg, e_lc, e_dc, wipeP, new, evEs, evT, evTs, evP, evI, evG, bnd_ok, sbnd_ok, seq_nx, seq_rt, to_nx, go_nx, go_ct, rt_rt, ok_ok, slot, item0, item1, item2, item3, sub_t, i_int, i_abs, i_lenT, c_eqI, c_neI, c_eqS, c_neS, c_lt, c_le, c_gt, c_ge, asB_bl, iteC_t, iteC_f, iteC_d, b_add, b_sub, b_mul, b_mod, List.getElem?_cons_succ, List.getElem?_cons_zero, List.set_cons_succ, List.set_cons_zero, hp1]
  refine SO.To.rt (left_ok hp1 hd1 (by omega) hn hl) fun s2 h2 ⟨a5, a10, es, l1, l2, l3⟩ => ?_
  subst es
  have hr2 : h2[h.length + 1]? = some (.lst (R.map rowP)) := (l2 _ (by omega)).trans hr1
  have eis : isiF .list (.ref (h.length + 1)) h2 = ok (.bl true) h2 := by
    have : L2.kitB "list" "list" = some true := by decide +kernel
    simp only [isiF, tyP, hr2, Bi.ty, this]
  have hoff : (offL ps).length ≤ ps.length := List.length_filter_le _ _
  have hcnt : R.length = (offL ps).length + Ring.rings (lk (offL ps)) (keys (offL ps)) := by
    have := I.cnt
    rw [keys_len] at this
    have e0 : Ring.rings (lk []) [] = 0 := rfl
    rw [e0] at this
    simpa using this
  have hrl : Ring.rings (lk (offL ps)) (keys (offL ps)) ≤ (offL ps).length := by
    have : Ring.rings (lk (offL ps)) (keys (offL ps)) ≤ (keys (offL ps)).length := List.countP_le_length
    rwa [keys_len] at this
  simp only [bnd_bnd, bnd_sbnd, sbnd_seq, seq_seq, seqC_ap, ss_cons, ss_nil, s_asg, s_ret, s_ite, s_ex, s_for, s_whl, e_non, e_bl, e_int, e_str, e_var, e_bin, e_neg, e_cmp, e_not, e_tup, e_lst, e_dic0, e_sub, e_call, e_bi, e_mt, kindG_same, e_isi, e_inv, e_lrg, e_lc, e_dc, wipeP, new, evEs, evT, evTs, evP, evI, evG, bnd_ok, sbnd_ok, seq_nx, seq_rt, to_nx, go_nx, go_ct, rt_rt, ok_ok, slot, item0, item1, item2, item3, sub_t, i_int, i_abs, i_lenT, c_eqI, c_neI, c_eqS, c_neS, c_lt, c_le, c_gt, c_ge, asB_bl, iteC_t, iteC_f, iteC_d, b_add, b_sub, b_mul, b_mod, List.getElem?_cons_succ, List.getElem?_cons_zero, List.set_cons_succ, List.set_cons_zero, eis, truth, Bool.not_true, Bool.false_eq_true, if_false, i_lenL hr2, i_lenD l1]
  refine Out.Ok.rt (hR h2 h1.length (offL ps) l1 (off_keys hn) (by omega)) fun v h3 ⟨ev, k1, k2⟩ => ?_
  subst ev
  have ec : ((R.map rowP).length : Int) = ((dI (offL ps)).length : Int) + (Ring.rings (lk (offL ps)) (keys (offL ps)) : Nat) := by
    rw [List.length_map, dI_len, hcnt, Int.natCast_add]
  have sm : small 14 = true := by decide
  have lr2 := lt_of_some hr2
  have ll1 := lt_of_some l1
  have hr3 : (h3 ++ [PO.dic []])[h.length + 1]? = some (.lst (R.map rowP)) := by rw [List.getElem?_append_left (by omega), k1 _ lr2]; exact hr2
  have hf3 : (h3 ++ [PO.dic []])[h1.length]? = some (.dic (dI (offL ps))) := by rw [List.getElem?_append_left (by omega), k1 _ ll1]; exact l1
  have hw3 : (h3 ++ [PO.dic []])[h3.length]? = some (.dic []) := by simp
  simp only [bnd_bnd, bnd_sbnd, sbnd_seq, seq_seq, seqC_ap, ss_cons, ss_nil, s_asg, s_ret, s_ite, s_ex, s_for, s_whl, e_non, e_bl, e_int, e_str, e_var, e_bin, e_neg, e_cmp, e_not, e_tup, e_lst, e_dic0, e_sub, e_call, e_bi, e_mt, kindG_same, e_isi, e_inv, e_lrg, e_lc, e_dc, wipeP, new, evEs, evT, evTs, evP, evI, evG, bnd_ok, sbnd_ok, seq_nx, seq_rt, to_nx, go_nx, go_ct, rt_rt, ok_ok, slot, item0, item1, item2, item3, sub_t, i_int, i_abs, i_lenT, c_eqI, c_neI, c_eqS, c_neS, c_lt, c_le, c_gt, c_ge, asB_bl, iteC_t, iteC_f, iteC_d, b_add, b_sub, b_mul, b_mod, ← ec, decide_true, Bool.not_true, List.getElem?_cons_succ, List.getElem?_cons_zero, List.set_cons_succ, List.set_cons_zero, sm, if_true]
  refine SO.To.rt (words_ok hw3) fun s4 h4 ⟨a12, es, w1, w2, w3⟩ => ?_
  subst es
  have hr4 : h4[h.length + 1]? = some (.lst (R.map rowP)) := (w2 _ (by omega)).trans hr3
  have hf4 : h4[h1.length]? = some (.dic (dI (offL ps))) := (w2 _ (by omega)).trans hf3
  simp only [bnd_bnd, bnd_sbnd, sbnd_seq, seq_seq, seqC_ap, ss_cons, ss_nil, s_asg, s_ret, s_ite, s_ex, s_for, s_whl, e_non, e_bl, e_int, e_str, e_var, e_bin, e_neg, e_cmp, e_not, e_tup, e_lst, e_dic0, e_sub, e_call, e_bi, e_mt, kindG_same, e_isi, e_inv, e_lrg, e_lc, e_dc, wipeP, new, evEs, evT, evTs, evP, evI, evG, bnd_ok, sbnd_ok, seq_nx, seq_rt, to_nx, go_nx, go_ct, rt_rt, ok_ok, slot, item0, item1, item2, item3, sub_t, i_int, i_abs, i_lenT, c_eqI, c_neI, c_eqS, c_neS, c_lt, c_le, c_gt, c_ge, asB_bl, iteC_t, iteC_f, iteC_d, b_add, b_sub, b_mul, b_mod, List.getElem?_cons_succ, List.getElem?_cons_zero, hr4]
  refine SO.To.rt (rows_ok hr4 w1 (by omega) (by omega) I.reg) fun s5 h5 ⟨a13, W, es, v1, v2, v3, v4, v5⟩ => ?_
  subst es
  have hf5 : h5[h1.length]? = some (.dic (dI (offL ps))) := (v5 _ (by omega)).trans hf4
  simp only [bnd_bnd, bnd_sbnd, sbnd_seq, seq_seq, seqC_ap, ss_cons, ss_nil, s_asg, s_ret, s_ite, s_ex, s_for, s_whl, e_non, e_bl, e_int, e_str, e_var, e_bin, e_neg, e_cmp, e_not, e_tup, e_lst, e_dic0, e_sub, e_call, e_bi, e_mt, kindG_same, e_isi, e_inv, e_lrg, e_lc, e_dc, wipeP, new, evEs, evT, evTs, evP, evI, evG, bnd_ok, sbnd_ok, seq_nx, seq_rt, to_nx, go_nx, go_ct, rt_rt, ok_ok, slot, item0, item1, item2, item3, sub_t, i_int, i_abs, i_lenT, c_eqI, c_neI, c_eqS, c_neS, c_lt, c_le, c_gt, c_ge, asB_bl, iteC_t, iteC_f, iteC_d, b_add, b_sub, b_mul, b_mod, List.getElem?_cons_succ, List.getElem?_cons_zero, sm, if_true]
  refine SO.To.rt (check_ok v1 hf5 (fun x hx hne => ?_) fun x hx => ⟨_, v4 x hx⟩) fun s6 h6 _ => ?_
  · rw [v4 x hx, (I.eff fun y => 100 + y).2 x (by simp) hne]
    cases lk (offL ps) x <;> rfl
  · simp only [bnd_bnd, bnd_sbnd, sbnd_seq, seq_seq, seqC_ap, ss_cons, ss_nil, s_asg, s_ret, s_ite, s_ex, s_for, s_whl, e_non, e_bl, e_int, e_str, e_var, e_bin, e_neg, e_cmp, e_not, e_tup, e_lst, e_dic0, e_sub, e_call, e_bi, e_mt, kindG_same, e_isi, e_inv, e_lrg, e_lc, e_dc, wipeP, new, evEs, evT, evTs, evP, evI, evG, bnd_ok, sbnd_ok, seq_nx, seq_rt, to_nx, go_nx, go_ct, rt_rt, ok_ok, slot, item0, item1, item2, item3, sub_t, i_int, i_abs, i_lenT, c_eqI, c_neI, c_eqS, c_neS, c_lt, c_le, c_gt, c_ge, asB_bl, iteC_t, iteC_f, iteC_d, b_add, b_sub, b_mul, b_mod]
def headL : Ss → Ss := fun r =>
    (.cons (.asg (.nm 1) (.call "_law_draw" (.cons (.var 0) .nil)))
    (.cons (.asg (.nm 2) (.lrg false (.cons (.int 10) .nil)))
    (.cons (.asg (.nm 3) (.lst .nil))
    (.cons (.frr (.nm 4) (.rng (.cons (.call "_law_take" (.cons (.var 1) (.cons (.int 9) .nil))) .nil)) bodyP)
    (.cons (.ite (.cmp .Eq (.call "_law_take" (.cons (.var 1) (.cons (.int 2) .nil))) (.int 0)) (.cons (.asg (.nm 6) (.lrg false (.cons (.int 9) .nil)))
    (.cons (.asg (.nm 3) (.lc bodyO (.nm 4) (.rng (.cons (.int 9) .nil)) .nil [4])) .nil)) .nil)
    (.cons (.asg (.nm 7) (.bin .Add (.int 10) (.call "_law_take" (.cons (.var 1) (.cons (.int 4) .nil))))) r))))))
theorem tail1_ok (hT : Takes C) (hS : Seqs C) (hR : Rings C) {h : PH} {lp : Nat} {ps : List (Int × Int)} {cs : List Int} {o : PO} {a0 a2 a4 a5 a6 : Option PV} (h0 : h[0]? = some (.lst (cs.map PV.int))) (h1 : h[1]? = some o) (hd : DrawO 0 o) (hp : h[lp]? = some (.lst (ps.map pairP))) (l2 : 2 ≤ lp)
    (hn : (keys ps).Nodup) (hl : ps.length ≤ 10) (hlo : ∀ p ∈ ps, low p.1 ∧ low p.2) :
    (evSs C (.cons (.asg (.nm 7) (.bin .Add (.int 10) (.call "_law_take" (.cons (.var 1) (.cons (.int 4) .nil))))) tail2) [a0, some (.ref 1), a2, some (.ref lp), a4, a5, a6, none, none, none, none, none, none, none] h).Rt fun v _ => v = .bl true := by
  simp only [bnd_bnd, bnd_sbnd, sbnd_seq, seq_seq, seqC_ap, ss_cons, ss_nil, s_asg, s_ret, s_ite, s_ex, s_for, s_whl, e_non, e_bl, e_int, e_str, e_var, e_bin, e_neg, e_cmp, e_not, e_tup, e_lst, e_dic0, e_sub, e_call, e_bi, e_mt, kindG_same, e_isi, e_inv, e_lrg, e_lc, e_dc, wipeP, new, evEs, evT, evTs, evP, evI, evG, bnd_ok, sbnd_ok, seq_nx, seq_rt, to_nx, go_nx, go_ct, rt_rt, ok_ok, slot, item0, item1, item2, item3, sub_t, i_int, i_abs, i_lenT, c_eqI, c_neI, c_eqS, c_neS, c_lt, c_le, c_gt, c_ge, asB_bl, iteC_t, iteC_f, iteC_d, b_add, b_sub, b_mul, b_mod, List.getElem?_cons_succ, List.getElem?_cons_zero, List.set_cons_succ, List.set_cons_zero]
  refine Out.Ok.rt (hT h cs o 4 h0 h1 hd (by omega) (by omega)) fun v h2 ⟨r, o2, ev, r0, r1, hd1, eh⟩ => ?_
  subst ev eh
  simp only [bnd_bnd, bnd_sbnd, sbnd_seq, seq_seq, seqC_ap, ss_cons, ss_nil, s_asg, s_ret, s_ite, s_ex, s_for, s_whl, e_non, e_bl, e_int, e_str, e_var, e_bin, e_neg, e_cmp, e_not, e_tup, e_lst, e_dic0, e_sub, e_call, e_bi, e_mt, kindG_same, e_isi, e_inv, e_lrg, e_lc, e_dc, wipeP, new, evEs, evT, evTs, evP, evI, evG, bnd_ok, sbnd_ok, seq_nx, seq_rt, to_nx, go_nx, go_ct, rt_rt, ok_ok, slot, item0, item1, item2, item3, sub_t, i_int, i_abs, i_lenT, c_eqI, c_neI, c_eqS, c_neS, c_lt, c_le, c_gt, c_ge, asB_bl, iteC_t, iteC_f, iteC_d, b_add, b_sub, b_mul, b_mod, List.set_cons_succ, List.set_cons_zero]
  exact tail2_ok hS hR (by rw [List.getElem?_set_ne (by omega)]; exact hp) hn hl hlo (by omega) (by omega)
theorem law_ok (hT : Takes C) (hS : Seqs C) (hR : Rings C) {sc : PV} (hD : Draws C sc) : (evSs C Lw.b_law [some sc, none, none, none, none, none, none, none, none, none, none, none, none, none] []).Rt fun v _ => v = .bl true := by
  show (evSs C (headL tail2) _ _).Rt _
  have hS64 : (64 : Nat) ≤ sizeLine := by decide
  have s10 : small 10 = true := by decide
  have s9 : small 9 = true := by decide
  unfold headL
  simp only [bnd_bnd, bnd_sbnd, sbnd_seq, seq_seq, seqC_ap, ss_cons, ss_nil, s_asg, s_ret, s_ite, s_ex, s_for, s_whl, e_non, e_bl, e_int, e_str, e_var, e_bin, e_neg, e_cmp, e_not, e_tup, e_lst, e_dic0, e_sub, e_call, e_bi, e_mt, kindG_same, e_isi, e_inv, e_lrg, e_lc, e_dc, wipeP, new, evEs, evT, evTs, evP, evI, evG, bnd_ok, sbnd_ok, seq_nx, seq_rt, to_nx, go_nx, go_ct, rt_rt, ok_ok, slot, item0, item1, item2, item3, sub_t, i_int, i_abs, i_lenT, c_eqI, c_neI, c_eqS, c_neS, c_lt, c_le, c_gt, c_ge, asB_bl, iteC_t, iteC_f, iteC_d, b_add, b_sub, b_mul, b_mod, List.getElem?_cons_succ, List.getElem?_cons_zero, List.set_cons_succ, List.set_cons_zero]
  refine Out.Ok.rt hD fun v h1 ⟨ev, cs, o, hd, eh⟩ => ?_
  subst ev eh
  have er : rngI 0 (Int.toNat 10) = [0, 1, 2, 3, 4, 5, 6, 7, 8, 9].map PV.int := rfl
  simp only [bnd_bnd, bnd_sbnd, sbnd_seq, seq_seq, seqC_ap, ss_cons, ss_nil, s_asg, s_ret, s_ite, s_ex, s_for, s_whl, e_non, e_bl, e_int, e_str, e_var, e_bin, e_neg, e_cmp, e_not, e_tup, e_lst, e_dic0, e_sub, e_call, e_bi, e_mt, kindG_same, e_isi, e_inv, e_lrg, e_lc, e_dc, wipeP, new, evEs, evT, evTs, evP, evI, evG, bnd_ok, sbnd_ok, seq_nx, seq_rt, to_nx, go_nx, go_ct, rt_rt, ok_ok, slot, item0, item1, item2, item3, sub_t, i_int, i_abs, i_lenT, c_eqI, c_neI, c_eqS, c_neS, c_lt, c_le, c_gt, c_ge, asB_bl, iteC_t, iteC_f, iteC_d, b_add, b_sub, b_mul, b_mod, lrgF, s10, List.getElem?_cons_succ, List.getElem?_cons_zero, List.set_cons_succ, List.set_cons_zero, List.cons_append, List.nil_append, List.length_cons, List.length_nil, Bool.false_eq_true, if_false]
  rw [if_pos ⟨trivial, by decide⟩, sbnd_ok, if_pos (Nat.zero_le _), sbnd_ok, er]
  refine Out.Ok.rt (hT _ cs o 9 rfl rfl hd (by omega) (by omega)) fun v h2 ⟨r, o2, ev, r0, r1, hd2, eh⟩ => ?_
  subst ev eh
  have sr : small r = true := decide_eq_true ⟨by omega, by omega⟩
  simp only [sr, if_true, sbnd_ok, List.set_cons_succ, List.set_cons_zero, List.cons_append, List.nil_append, List.length_cons, List.length_nil]
  have hlen : (rngI 0 r.toNat).length = r.toNat := by simp [rngI]
  refine SO.To.rt (for_vals (fun i s' h' => ∃ a4 a5 o' rest ps, s' = [some sc, some (.ref 1), some (.ref 2), some (.ref 3), a4, a5, none, none, none, none, none, none, none, none] ∧ h' = [.lst (cs.map PV.int), o', .lst (rest.map PV.int), .lst (ps.map pairP)] ∧ DrawO 0 o' ∧ PR rest ps 10 ∧ ps.length = i)
    ⟨none, none, o2, [0, 1, 2, 3, 4, 5, 6, 7, 8, 9], [], rfl, rfl, hd2, ⟨by decide, by unfold low; decide, by simp, rfl⟩, rfl⟩ fun i x s' h' hx ⟨a4, a5, o3, rest, ps, es, eh, hd3, P, hi⟩ => ?_) fun s' h' ⟨a4, a5, o3, rest, ps, es, eh, hd3, P, hi⟩ => ?_
  · subst es eh
    have hi2 := lt_of_some hx
    rw [hlen] at hi2
    have hln := P.ln
    simp only [evG, sbnd_ok, List.set_cons_succ, List.set_cons_zero]
    refine go_mono (bodyP_ok hT hd3 P (by omega)) fun s2 h2 ⟨a5, o4, rest', d, s, es, eh, hd4, P'⟩ => ⟨_, a5, o4, rest', _, es, eh, hd4, P', ?_⟩
    rw [List.length_append, hi]
    rfl
  · subst es eh
    rw [hlen] at hi
    have hln := P.ln
    have hnd : (keys ps).Nodup := (List.nodup_append.mp P.nd).1
    have hlo : ∀ p ∈ ps, low p.1 ∧ low p.2 := fun p hp => ⟨P.lo _ (List.mem_append_left _ (List.mem_map.mpr ⟨p, hp, rfl⟩)), P.va p hp⟩
    simp only [bnd_bnd, bnd_sbnd, sbnd_seq, seq_seq, seqC_ap, ss_cons, ss_nil, s_asg, s_ret, s_ite, s_ex, s_for, s_whl, e_non, e_bl, e_int, e_str, e_var, e_bin, e_neg, e_cmp, e_not, e_tup, e_lst, e_dic0, e_sub, e_call, e_bi, e_mt, kindG_same, e_isi, e_inv, e_lrg, e_lc, e_dc, wipeP, new, evEs, evT, evTs, evP, evI, evG, bnd_ok, sbnd_ok, seq_nx, seq_rt, to_nx, go_nx, go_ct, rt_rt, ok_ok, slot, item0, item1, item2, item3, sub_t, i_int, i_abs, i_lenT, c_eqI, c_neI, c_eqS, c_neS, c_lt, c_le, c_gt, c_ge, asB_bl, iteC_t, iteC_f, iteC_d, b_add, b_sub, b_mul, b_mod, List.getElem?_cons_succ, List.getElem?_cons_zero, List.set_cons_succ, List.set_cons_zero]
    refine Out.Ok.rt (hT _ cs o3 2 rfl rfl hd3 (by omega) (by omega)) fun v h3 ⟨r2, o4, ev, r20, r21, hd4, eh⟩ => ?_
    subst ev eh
    simp only [c_eqI, asB_bl, sbnd_ok, iteC_d, List.set_cons_succ, List.set_cons_zero]
    by_cases q : r2 = 0
    · rw [if_pos q]
      simp only [bnd_bnd, bnd_sbnd, sbnd_seq, seq_seq, seqC_ap, ss_cons, ss_nil, s_asg, s_ret, s_ite, s_ex, s_for, s_whl, e_non, e_bl, e_int, e_str, e_var, e_bin, e_neg, e_cmp, e_not, e_tup, e_lst, e_dic0, e_sub, e_call, e_bi, e_mt, kindG_same, e_isi, e_inv, e_lrg, e_lc, e_dc, wipeP, new, evEs, evT, evTs, evP, evI, evG, bnd_ok, sbnd_ok, seq_nx, seq_rt, to_nx, go_nx, go_ct, rt_rt, ok_ok, slot, item0, item1, item2, item3, sub_t, i_int, i_abs, i_lenT, c_eqI, c_neI, c_eqS, c_neS, c_lt, c_le, c_gt, c_ge, asB_bl, iteC_t, iteC_f, iteC_d, b_add, b_sub, b_mul, b_mod, lrgF, s9, List.getElem?_cons_succ, List.getElem?_cons_zero, List.set_cons_succ, List.set_cons_zero, List.cons_append, List.nil_append, List.length_cons, List.length_nil, Bool.false_eq_true, if_false]
      rw [if_pos ⟨trivial, by decide⟩]
      simp only [sbnd_ok, if_true]
      refine Out.Ok.rt (order_ok hT hd4) fun acc h4 ⟨o5, p4, ps2, eh, ea, hd5, b1, b2, b3⟩ => ?_
      subst eh ea
      simp only [bnd_bnd, bnd_sbnd, sbnd_seq, seq_seq, seqC_ap, ss_cons, ss_nil, s_asg, s_ret, s_ite, s_ex, s_for, s_whl, e_non, e_bl, e_int, e_str, e_var, e_bin, e_neg, e_cmp, e_not, e_tup, e_lst, e_dic0, e_sub, e_call, e_bi, e_mt, kindG_same, e_isi, e_inv, e_lrg, e_lc, e_dc, wipeP, new, evEs, evT, evTs, evP, evI, evG, bnd_ok, sbnd_ok, seq_nx, seq_rt, to_nx, go_nx, go_ct, rt_rt, ok_ok, slot, item0, item1, item2, item3, sub_t, i_int, i_abs, i_lenT, c_eqI, c_neI, c_eqS, c_neS, c_lt, c_le, c_gt, c_ge, asB_bl, iteC_t, iteC_f, iteC_d, b_add, b_sub, b_mul, b_mod, List.set_cons_succ, List.set_cons_zero, List.cons_append, List.nil_append, List.length_cons, List.length_nil]
      have := tail1_ok (a0 := some sc) (a2 := some (.ref 2)) (a4 := a4) (a5 := a5) (a6 := some (.ref 4)) hT hS hR (h := [.lst (cs.map PV.int), o5, .lst (rest.map PV.int), .lst (ps.map pairP), p4, .lst (ps2.map pairP)]) (lp := 5) rfl rfl hd5 rfl (by omega) b2 b1 b3
      simp only [bnd_bnd, bnd_sbnd, sbnd_seq, seq_seq, seqC_ap, ss_cons, ss_nil, s_asg, s_ret, s_ite, s_ex, s_for, s_whl, e_non, e_bl, e_int, e_str, e_var, e_bin, e_neg, e_cmp, e_not, e_tup, e_lst, e_dic0, e_sub, e_call, e_bi, e_mt, kindG_same, e_isi, e_inv, e_lrg, e_lc, e_dc, wipeP, new, evEs, evT, evTs, evP, evI, evG, bnd_ok, sbnd_ok, seq_nx, seq_rt, to_nx, go_nx, go_ct, rt_rt, ok_ok, slot, item0, item1, item2, item3, sub_t, i_int, i_abs, i_lenT, c_eqI, c_neI, c_eqS, c_neS, c_lt, c_le, c_gt, c_ge, asB_bl, iteC_t, iteC_f, iteC_d, b_add, b_sub, b_mul, b_mod, List.getElem?_cons_succ, List.getElem?_cons_zero, List.set_cons_succ, List.set_cons_zero] at this
      exact this
    · rw [if_neg q]
      simp only [ss_nil, seq_nx]
      exact tail1_ok hT hS hR (h := [.lst (cs.map PV.int), o4, _, .lst (ps.map pairP)]) (lp := 3) rfl rfl hd4 rfl (by omega) hnd (by omega) hlo
end
theorem holds (ns : List Int) (hz : ns.length ≤ 63) : ∃ h, evCall Lw.T 12 "law" [.fro (ns.map PV.int)] [] = .ok (.bl true) h := by
  have hT : Takes (evCall Lw.T 11) := fun h cs o m e1 e2 hd m1 m2 => by
    refine call_ok Lw.T__law_take rfl (by decide) ?_
    obtain ⟨r, o', q1, q2, q3, q4⟩ := take_ok (C := evCall Lw.T 10) e1 e2 hd (by decide) m1 m2
    show (evSs (evCall Lw.T 10) b_take [some (.ref 1), some (.int m), none] h).Rt _
    rw [q4]
    exact ⟨r, o', rfl, q1, q2, q3, rfl⟩
  have hD : Draws (evCall Lw.T 11) (.fro (ns.map PV.int)) := call_ok Lw.T__law_draw rfl (by decide) (draw_ok (C := evCall Lw.T 10) ns hz)
  have hS : Seqs (evCall Lw.T 11) := fun h0 ps sp q1 q2 q3 q4 q5 => call_ok Lw.T_sequence rfl (by decide) (seq_ok (C := evCall Lw.T 10) q1 q2 q3 q4 q5)
  have hR : Rings (evCall Lw.T 11) := fun h0 l L q1 q2 q3 => call_ok Lw.T__law_rings rfl (by decide) (rings_ok (C := evCall Lw.T 10) q1 q2 q3)
  obtain ⟨v, h, e, rfl⟩ := (call_ok (T := Lw.T) (k := 11) (f := "law") (xs := [.fro (ns.map PV.int)]) (h := []) (Q := fun v _ => v = .bl true) Lw.T_law rfl (by decide) (law_ok hT hS hR hD)).ex
  exact ⟨h, e⟩
end K42
theorem PySem.Challenge.cw_leasttiles_k42_moves_at_once_holds : PySem.Challenge.rw_leasttiles_k42_moves_at_once.Holds :=
  Lw.holds_of K42.holds

