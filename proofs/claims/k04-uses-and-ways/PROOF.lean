import PyProof.Rows.All
import Wide.All
import OpenK.AllK
import Wide.FinOn
import HandS.ForMost
import HandS.TupAny
import HandS.Deep
import HandS.DictComp
import HandS.Conv
import HandS.More
import HandS.Flow
import HandS.SortInts
import HandS.TupSets
import HandS.HeadEnd
import HandS.HeadHook2
import HandS.HeadHook1
import HandS.Head0
import HandS.Head1
import HandS.Head2
import HandS.IsInst
import PyProof.DictValues
import HandS.Rev
import PySem.Challenge.RW_leasttiles_k04_uses_and_ways
set_option Elab.async false
set_option linter.all false
/-! A small machine over plain values: what the walk of a def computes. -/
namespace MP
open PySem

/-- plain values: tuples are data, lists, dicts and instances stand at places -/
inductive PV where
  | non | bl (b : Bool) | int (i : Int) | str (s : Str) | tup (xs : List PV) | ref (l : Nat)
  | fro (xs : List PV)
  deriving Inhabited

/-- what stands at a place -/
inductive PO where
  | lst (xs : List PV)
  | dic (kvs : List (PV × PV))
  | lck (kvs : List (PV × PV))
  | ins (c : Str) (fs : List (Str × PV))
  deriving Inhabited

abbrev PH := List PO
abbrev PSt := List (Option PV)

/-- an exception: its class, its fields -/
structure PX where
  cls : Str
  fs : List (Str × PV)

inductive Out (α : Type) where
  | ok (v : α) (h : PH)
  | exc (e : PX) (h : PH)
  | bad

def Out.bnd {α β : Type} (o : Out α) (f : α → PH → Out β) : Out β :=
  match o with
  | .ok v h => f v h
  | .exc e h => .exc e h
  | .bad => .bad

inductive SO where
  | nx (s : PSt) (h : PH) | rt (v : PV) (h : PH) | bk (s : PSt) (h : PH) | ct (s : PSt) (h : PH) | exc (e : PX) (h : PH) | bad

def Out.sbnd {α : Type} (o : Out α) (f : α → PH → SO) : SO :=
  match o with
  | .ok v h => f v h
  | .exc e h => .exc e h
  | .bad => .bad

/-! ### the text -/
inductive Bi where
  | len | abs | int | bool | max | min | list | tuple | sorted | sum | any | all | dict | isList | isInt | isStr | isTuple | isBool
  deriving DecidableEq
inductive Mt where
  | append | extend | pop | get | values | items | keys | index | insert | setdefault
  deriving DecidableEq
mutual
inductive E where
  | non | bl (b : Bool) | int (i : Int) | str (s : Str)
  | var (i : Nat)
  | cst (x : Str) (v : PV)
  | bin (op : Operator) (a b : E)
  | neg (a : E)
  | cmp (op : CmpOp) (a b : E)
  | cmp2 (op op' : CmpOp) (a b c : E)
  | and (a b : E) | or (a b : E) | not (a : E)
  | ite (c : T) (a b : E)
  | tup (es : Es) | lst (es : Es) | dic (ks : Ks)
  | sub (a i : E)
  | slc (a : E) (lo hi : Pt)
  | call (f : Str) (es : Es)
  | bi (f : Bi) (es : Es)
  | mt (m : Mt) (o : E) (es : Es)
  | fld (o : E) (f : Str)
  | mk (c : Str) (es : Es)
  | um (m : Str) (o : E) (es : Es)
  | lc (elt : E) (tg : Tg) (it : It) (ifs : Ts) (own : List Nat)
  | dc (k v : E) (tg : Tg) (it : It) (ifs : Ts) (own : List Nat)
  | isi (f : Bi) (e : E)
  | lock (i : Nat) (e : E)
  | inv (neg : Bool) (a d : E)
  | lrg (tup : Bool) (es : Es)
inductive Es where
  | nil | cons (e : E) (r : Es)
/-- a display's pairs -/
inductive Ks where
  | nil | cons (k v : E) (r : Ks)
/-- tests -/
inductive T where
  | e (e : E) | and (a b : T) | or (a b : T) | not (a : T) | ite (c a b : T)
  | cmp (op : CmpOp) (a b : E) | cmp2 (op op' : CmpOp) (a b c : E) | inv (neg : Bool) (a d : E)
/-- a part of a slice -/
inductive Pt where
  | none | some (e : E)
inductive Ts where
  | nil | cons (t : T) (r : Ts)
/-- what is walked -/
inductive It where
  | ex (e : E) | rng (es : Es) | enu (e : E) | rev (e : E) | keys (e : E) | vals (e : E) | items (e : E)
/-- targets -/
inductive Tg where
  | nm (i : Nat) | tup (is : List Nat) | sub (o i : E) | fld (o : E) (f : Str)
end

mutual
inductive S where
  | pass | brk | cont | retN
  | ret (e : E) | ex (e : E)
  | asg (t : Tg) (e : E)
  | par (i j : Nat) (a b : E)
  | aug (i : Nat) (op : Operator) (e : E)
  | augF (o : E) (f : Str) (op : Operator) (e : E)
  | augS (o i : E) (op : Operator) (e : E)
  | ite (c : T) (a b : Ss)
  | whl (c : T) (b : Ss)
  | frr (t : Tg) (it : It) (b : Ss)
  | never
  | lk (e : E) (s : S)
inductive Ss where
  | nil | cons (s : S) (r : Ss)
end

/-! ### operators by values -/
open Out

def truth (x : PV) (h : PH) : Out Bool :=
  match x with
  | .fro _ => bad
  | .non => ok false h
  | .bl b => ok b h
  | .int i => ok (i != 0) h
  | .str s => if s.length ≤ sizeLine then ok (s.length != 0) h else bad
  | .tup xs => ok (!xs.isEmpty) h
  | .ref l => match h[l]? with
    | some (.lst xs) => ok (!xs.isEmpty) h
    | some (.dic kvs) => ok (!kvs.isEmpty) h
    | _ => bad

/-- a new object -/
def new (o : PO) (h : PH) : Out PV := ok (.ref h.length) (h ++ [o])

def binF (op : Operator) (x y : PV) (h : PH) : Out PV :=
  match op, x, y with
  | .Add, .int i, .int j => ok (.int (i + j)) h
  | .Add, .str a, .str b => if a.length + b.length ≤ sizeLine then ok (.str (a ++ b)) h else bad
  | .Add, .tup a, .tup b => if a.length + b.length ≤ sizeLine then ok (.tup (a ++ b)) h else bad
  | .Add, .ref a, .ref b => match h[a]?, h[b]? with
    | some (.lst xs), some (.lst ys) => if xs.length + ys.length ≤ sizeLine then new (.lst (xs ++ ys)) h else bad
    | _, _ => bad
  | .Sub, .int i, .int j => ok (.int (i - j)) h
  | .Mult, .int i, .int j => if i.natAbs < 2 ^ 64 ∨ j.natAbs < 2 ^ 64 then ok (.int (i * j)) h else bad
  | .Mult, .ref a, .int j => match h[a]? with
    | some (.lst xs) => if -(2 ^ 63) ≤ j ∧ j < 2 ^ 63 ∧ xs.length * j.toNat ≤ sizeLine then new (.lst (List.flatten (List.replicate j.toNat xs))) h else bad
    | _ => bad
  | .FloorDiv, .int i, .int j => if 0 < j ∧ j < 1073741824 then ok (.int (i / j)) h else bad
  | .Mod, .int i, .int j => if 0 < j then ok (.int (i % j)) h else bad
  | .LShift, .int i, .int j => if 0 ≤ j ∧ j ≤ 1000000 ∧ i.natAbs < 2 ^ 64 then ok (.int (i * 2 ^ j.toNat)) h else bad
  | .RShift, .int i, .int j => if 0 ≤ j then ok (.int (i / 2 ^ j.toNat)) h else bad
  | .Pow, .int i, .int j => if 0 ≤ j ∧ j ≤ 1000000 ∧ i.natAbs < 2 ^ 64 then ok (.int (i ^ j.toNat)) h else bad
  | .BitAnd, .int i, .int j => ok (.int (Builtin.bitAnd i j)) h
  | .BitOr, .int i, .int j => ok (.int (Builtin.bitOr i j)) h
  | .BitXor, .int i, .int j => ok (.int (Builtin.bitXor i j)) h
  | _, _, _ => bad

/-! data, for == -/
def dataL (f : PV → Option PyData) : List PV → Option (List PyData)
  | [] => some []
  | x :: r => match f x, dataL f r with
    | some d, some ds => some (d :: ds)
    | _, _ => none
def datum (h : PH) : Nat → PV → Option PyData
  | 0, _ => none
  | _ + 1, .non => some .none
  | _ + 1, .bl b => some (.bool b)
  | _ + 1, .int i => some (.int i)
  | _ + 1, .str s => some (.str s)
  | n + 1, .tup xs => (dataL (datum h n) xs).map PyData.tuple
  | _ + 1, .fro _ => none
  | n + 1, .ref l => match h[l]? with
    | some (.lst xs) => (dataL (datum h n) xs).map PyData.list
    | _ => none

def eqB (x y : PV) (h : PH) : Out Bool :=
  match x, y with
  | .non, .non => ok true h
  | .bl a, .bl b => ok (decide (a = b)) h
  | .int a, .int b => ok (decide (a = b)) h
  | .str a, .str b => ok (decide (a = b)) h
  | x, y => match datum h 64 x, datum h 64 y with
    | some d, some e => if SeqAt.shaped d = true ∧ SeqAt.shaped e = true then ok (PyData.eqv d e) h else bad
    | _, _ => bad

/-! dicts -/
def isKey : PV → Bool
  | .int _ => true
  | .str _ => true
  | _ => false
/-- the key's word, where it is an int or a text -/
def keyOf : PV → Option L2.Key
  | .int i => some (.inl i)
  | .str s => some (.inr s)
  | _ => none
def keyEq (x y : PV) : Bool :=
  match x, y with
  | .int a, .int b => decide (a = b)
  | .str a, .str b => decide (a = b)
  | _, _ => false
def dGet (kvs : List (PV × PV)) (k : PV) : Option PV :=
  match kvs with
  | [] => none
  | (a, v) :: r => if keyEq a k then some v else dGet r k
def dPut (kvs : List (PV × PV)) (k v : PV) : List (PV × PV) :=
  if (kvs.any fun p => keyEq p.1 k) = true then kvs.map (fun p => if keyEq p.1 k = true then (p.1, v) else p) else kvs ++ [(k, v)]
def dDrop (kvs : List (PV × PV)) (k : PV) : List (PV × PV) := kvs.filter fun p => !keyEq p.1 k
/-- the dict at a place, read -/
def dAt (h : PH) (l : Nat) : Option (List (PV × PV)) :=
  match h[l]? with
  | some (.dic kvs) => some kvs
  | some (.lck kvs) => some kvs
  | _ => none

def flatP : PV → Bool
  | .non => true
  | .bl _ => true
  | .int _ => true
  | .str _ => true
  | _ => false
def flatEq : PV → PV → Bool
  | .non, .non => true
  | .bl a, .bl b => a == b
  | .bl a, .int b => (if a then 1 else 0) == b
  | .int a, .bl b => a == (if b then 1 else 0)
  | .int a, .int b => decide (a = b)
  | .str a, .str b => decide (a = b)
  | _, _ => false
/-- in a list or tuple of any data -/
def inDeep (x : PV) (ys : List PV) (h : PH) : Out Bool :=
  match datum h 63 x, dataL (datum h 62) ys with
  | some d, some ds => if SeqAt.shaped d = true ∧ SeqAt.shaped (.list ds) = true then ok (ds.any fun z => PyData.eqv z d) h else bad
  | _, _ => bad
def inB (x y : PV) (h : PH) : Out Bool :=
  match y with
  | .str b => match x with
    | .str a => if a.length = 1 then ok (decide (a.cps.toList.head? ∈ b.cps.toList.map some)) h else bad
    | _ => bad
  | .tup ys => inL x ys h
  | .ref l => match h[l]? with
    | some (.lst ys) => if flatP x = true ∧ ys.all flatP = true then ok (ys.any fun y => flatEq y x) h else inDeep x ys h
    | some (.dic kvs) => if isKey x then ok (dGet kvs x).isSome h else bad
    | some (.lck kvs) => if isKey x then ok (dGet kvs x).isSome h else bad
    | _ => bad
  | _ => bad
where inL (x : PV) (ys : List PV) (h : PH) : Out Bool :=
  if flatP x = true ∧ ys.all flatP = true then ok (ys.any fun y => flatEq y x) h else bad

def cmpF (op : CmpOp) (x y : PV) (h : PH) : Out PV :=
  match op with
  | .Eq => (eqB x y h).bnd fun b h => ok (.bl b) h
  | .NotEq => (eqB x y h).bnd fun b h => ok (.bl (!b)) h
  | .In => (inB x y h).bnd fun b h => ok (.bl b) h
  | .NotIn => (inB x y h).bnd fun b h => ok (.bl (!b)) h
  | .Is => match y with
    | .non => match x with
      | .non => ok (.bl true) h
      | _ => ok (.bl false) h
    | _ => bad
  | .IsNot => match y with
    | .non => match x with
      | .non => ok (.bl false) h
      | _ => ok (.bl true) h
    | _ => bad
  | .Lt => match x, y with
    | .int i, .int j => ok (.bl (decide (i < j))) h
    | _, _ => bad
  | .LtE => match x, y with
    | .int i, .int j => ok (.bl (decide (i ≤ j))) h
    | _, _ => bad
  | .Gt => match x, y with
    | .int i, .int j => ok (.bl (decide (j < i))) h
    | _, _ => bad
  | .GtE => match x, y with
    | .int i, .int j => ok (.bl (decide (j ≤ i))) h
    | _, _ => bad

/-! places of sequences -/
/-- the place that an index names -/
abbrev pix (n : Nat) (i : Int) : Option Nat := L2.ixN n i
def itemF (xs : List PV) (y : PV) (h : PH) : Out PV :=
  match y with
  | .int i => (match (pix xs.length i).bind fun j => xs[j]? with
    | some v => ok v h
    | none => bad)
  | _ => bad
def lookF (kvs : List (PV × PV)) (k : PV) (h : PH) : Out PV :=
  if isKey k = true then (match dGet kvs k with
    | some v => ok v h
    | none => bad) else bad
def subF (x y : PV) (h : PH) : Out PV :=
  match x with
  | .tup xs => itemF xs y h
  | .str s => (match y with
    | .int i => if s.length ≤ sizeLine then (match (pix s.length i).bind fun j => s.cps.toList[j]? with
      | some c => ok (.str ⟨#[c]⟩) h
      | none => bad) else bad
    | _ => bad)
  | .ref l => match h[l]? with
    | some (.lst xs) => itemF xs y h
    | some (.dic kvs) => lookF kvs y h
    | some (.lck kvs) => lookF kvs y h
    | _ => bad
  | _ => bad
def cut {α : Type} (xs : List α) (lo hi : Nat) : List α := (xs.drop lo).take (hi - lo)
def cutP (xs : List PV) (lo hi : Option Int) : List PV := cut xs (HT.sIx xs.length 0 lo) (HT.sIx xs.length xs.length hi)
def slcF (x : PV) (a b : Option Int) (h : PH) : Out PV :=
  match x with
  | .tup xs => ok (.tup (cutP xs a b)) h
  | .ref l => (match h[l]? with
    | some (.lst xs) => new (.lst (cutP xs a b)) h
    | _ => bad)
  | _ => bad
/-- o[i] = v -/
def setF (o i v : PV) (h : PH) : Out Unit :=
  match o with
  | .ref l => match h[l]? with
    | some (.lst xs) => (match i with
      | .int k => (match pix xs.length k with
        | some j => ok () (h.set l (.lst (xs.set j v)))
        | none => bad)
      | _ => bad)
    | some (.dic kvs) => if isKey i ∧ kvs.length < sizeLine then ok () (h.set l (.dic (dPut kvs i v))) else bad
    | _ => bad
  | _ => bad

/-! built-in functions -/
def intsOf : List PV → Option (List Int)
  | [] => some []
  | .int i :: r => (intsOf r).map fun l => i :: l
  | _ :: _ => none
def boolsOf : List PV → Option (List Bool)
  | [] => some []
  | .bl i :: r => (boolsOf r).map fun l => i :: l
  | _ :: _ => none
def insI (x : Int) : List Int → List Int
  | [] => [x]
  | y :: r => if x ≤ y then x :: y :: r else y :: insI x r
def sortI : List Int → List Int
  | [] => []
  | x :: r => insI x (sortI r)
def minI : List Int → Int → Int
  | [], m => m
  | x :: r, m => minI r (if x < m then x else m)
def maxI : List Int → Int → Int
  | [], m => m
  | x :: r, m => maxI r (if m < x then x else m)
def seqAt (h : PH) (x : PV) : Option (List PV) :=
  match x with
  | .tup xs => some xs
  | .ref l => match h[l]? with
    | some (.lst xs) => some xs
    | _ => none
  | _ => none
def lstAt (h : PH) (x : PV) : Option (List PV) :=
  match x with
  | .ref l => match h[l]? with
    | some (.lst xs) => some xs
    | _ => none
  | _ => none
/-- a dict's keys -/
def dicAt (h : PH) (x : PV) : Option (List PV) :=
  match x with
  | .ref l => match h[l]? with
    | some (.dic kvs) => some (kvs.map (·.1))
    | _ => none
  | _ => none
def rngI (lo : Int) (n : Nat) : List PV := (List.range n).map fun i => .int (lo + (i : Nat))
def small (i : Int) : Bool := decide (-(2 ^ 62) ≤ i ∧ i < 2 ^ 62)


def biF (f : Bi) (xs : List PV) (h : PH) : Out PV :=
  match f with
  | .len => match xs with
    | [.str s] => if s.length ≤ sizeLine then ok (.int s.length) h else bad
    | [.tup ys] => ok (.int ys.length) h
    | [.ref l] => match h[l]? with
      | some (.lst ys) => ok (.int ys.length) h
      | some (.dic kvs) => ok (.int kvs.length) h
      | _ => bad
    | _ => bad
  | .abs => match xs with
    | [.int i] => ok (.int (if i < 0 then -i else i)) h
    | _ => bad
  | .int => match xs with
    | [.int i] => ok (.int i) h
    | [.bl b] => ok (.int (if b then 1 else 0)) h
    | _ => bad
  | .bool => match xs with
    | [.int i] => ok (.bl (i != 0)) h
    | [.bl b] => ok (.bl b) h
    | _ => bad
  | .max => match xs with
    | [.int i, .int j] => ok (.int (if j > i then j else i)) h
    | [x] => match (lstAt h x).bind intsOf with
      | some (a :: r) => ok (.int (maxI r a)) h
      | _ => bad
    | _ => bad
  | .min => match xs with
    | [.int i, .int j] => ok (.int (if j < i then j else i)) h
    | [.ref l] => match h[l]? with
      | some (.lst ys) => (match intsOf ys with
        | some (a :: r) => ok (.int (minI r a)) h
        | _ => bad)
      | some (.dic kvs) => (match intsOf (kvs.map (·.1)) with
        | some (a :: r) => ok (.int (minI r a)) h
        | _ => bad)
      | _ => bad
    | _ => bad
  | .list => match xs with
    | [.tup ys] => new (.lst ys) h
    | [.ref l] => match h[l]? with
      | some (.lst ys) => new (.lst ys) h
      | some (.dic kvs) => new (.lst (kvs.map (·.1))) h
      | _ => bad
    | _ => bad
  | .tuple => match xs with
    | [.tup ys] => ok (.tup ys) h
    | [.ref l] => match h[l]? with
      | some (.lst ys) => ok (.tup ys) h
      | _ => bad
    | _ => bad
  | .sorted => match xs with
    | [x] => match (lstAt h x).bind intsOf with
      | some ns => new (.lst ((sortI ns).map PV.int)) h
      | _ => match (dicAt h x).bind intsOf with
        | some ns => if ns.length < 64 then new (.lst ((sortI ns).map PV.int)) h else bad
        | none => bad
    | _ => bad
  | .sum => match xs with
    | [x] => match (lstAt h x).bind intsOf with
      | some ns => ok (.int ns.sum) h
      | _ => bad
    | _ => bad
  | .any => match xs with
    | [x] => match (lstAt h x).bind boolsOf with
      | some bs => ok (.bl (bs.any id)) h
      | _ => bad
    | _ => bad
  | .all => match xs with
    | [x] => match (lstAt h x).bind boolsOf with
      | some bs => ok (.bl (bs.all id)) h
      | _ => bad
    | _ => bad
  | .dict => match xs with
    | [.ref l] => match dAt h l with
      | some kvs => new (.dic kvs) h
      | _ => bad
    | _ => bad
  | _ => bad

/-! methods of lists, dicts, texts -/
/-- what kind of thing a method is asked of -/
def kind (x : PV) (h : PH) : Nat :=
  match x with
  | .ref l => match h[l]? with
    | some (.lst _) => 1
    | some (.dic _) => 2
    | some (.lck _) => 2
    | _ => 0
  | .str _ => 3
  | _ => 0
def lstM (m : Mt) (l : Nat) (ys xs : List PV) (h : PH) : Out PV :=
  match m with
  | .append => (match xs with
    | [x] => if ys.length < sizeLine then ok .non (h.set l (.lst (ys ++ [x]))) else bad
    | _ => bad)
  | .extend => (match xs with
    | [.ref k] => (match h[k]? with
      | some (.lst zs) => if ys.length + zs.length ≤ sizeLine then ok .non (h.set l (.lst (ys ++ zs))) else bad
      | _ => bad)
    | _ => bad)
  | .pop => (match xs with
    | [] => (match ys[ys.length - 1]? with
      | some y => ok y (h.set l (.lst ys.dropLast))
      | none => bad)
    | [.int i] => if small i then (match seqIndex? i ys.length with
      | some j => (match ys[j]? with
        | some y => ok y (h.set l (.lst (ys.eraseIdx j)))
        | none => bad)
      | none => bad) else bad
    | _ => bad)
  | .insert => (match xs with
    | [.int i, y] => if ys.length < sizeLine ∧ 0 ≤ i ∧ small i then ok .non (h.set l (.lst (ys.take i.toNat ++ [y] ++ ys.drop i.toNat))) else bad
    | _ => bad)
  | _ => bad
def dicR (m : Mt) (kvs : List (PV × PV)) (xs : List PV) (h : PH) : Out PV :=
  match m with
  | .get => (match xs with
    | [k] => if isKey k then ok ((dGet kvs k).getD .non) h else bad
    | [k, d] => if isKey k then ok ((dGet kvs k).getD d) h else bad
    | _ => bad)
  | _ => bad
def dicM (m : Mt) (l : Nat) (kvs : List (PV × PV)) (xs : List PV) (h : PH) : Out PV :=
  match m with
  | .pop => (match xs with
    | [k] => if isKey k then (match dGet kvs k with
      | some v => ok v (h.set l (.dic (dDrop kvs k)))
      | none => bad) else bad
    | _ => bad)
  | m => dicR m kvs xs h
def mtF (m : Mt) (o : PV) (xs : List PV) (h : PH) : Out PV :=
  match o with
  | .ref l => match h[l]? with
    | some (.lst ys) => lstM m l ys xs h
    | some (.dic kvs) => dicM m l kvs xs h
    | some (.lck kvs) => dicR m kvs xs h
    | _ => bad
  | _ => bad
/-- the names of the types -/
def Bi.ty : Bi → Option String
  | .int => some "int" | .bool => some "bool" | .list => some "list" | .tuple => some "tuple" | .dict => some "dict" | .isStr => some "str" | _ => none
def tyP (x : PV) (h : PH) : Option String :=
  match x with
  | .non => some "NoneType"
  | .bl _ => some "bool"
  | .int _ => some "int"
  | .str _ => some "str"
  | .tup _ => some "tuple"
  | .fro _ => some "list"
  | .ref l => match h[l]? with
    | some (.lst _) => some "list"
    | some (.dic _) => some "dict"
    | some (.lck _) => some "dict"
    | _ => none
/-- list(range(..)), tuple(range(..)) -/
def lrgF (tup : Bool) (xs : List PV) (h : PH) : Out PV :=
  match xs with
  | [.int n] => if small n = true ∧ n.toNat ≤ 2 ^ 24 then (if tup = true then ok (.tup (rngI 0 n.toNat)) h else new (.lst (rngI 0 n.toNat)) h) else bad
  | [.int a, .int b] => if small a = true ∧ small b = true ∧ (b - a).toNat ≤ 2 ^ 24 then (if tup = true then ok (.tup (rngI a (b - a).toNat)) h else new (.lst (rngI a (b - a).toNat)) h) else bad
  | _ => bad
def isiF (f : Bi) (x : PV) (h : PH) : Out PV :=
  match tyP x h, f.ty with
  | some a, some b => (match L2.kitB a b with
    | some r => ok (.bl r) h
    | none => bad)
  | _, _ => bad
/-- x in d.values(), d locked -/
def invF (neg : Bool) (x d : PV) (h : PH) : Out PV :=
  match x, d with
  | .int i, .ref l => (match h[l]? with
    | some (.lck kvs) => (match intsOf (kvs.map (·.2)) with
      | some ns => ok (.bl (neg != decide (i ∈ ns))) h
      | none => bad)
    | _ => bad)
  | _, _ => bad
end MP

set_option Elab.async false
set_option linter.all false
namespace MP
open PySem
open Out

/-- what an iterable has come to -/
inductive Itr where
  | vals (xs : List PV) | lst (l : Nat)

/-- the pairs of a display, the later ones win -/
def dAll (ps : List (PV × PV)) : List (PV × PV) := ps.foldl (fun a p => dPut a p.1 p.2) []
def asB (x : PV) (h : PH) : Out Bool :=
  match x with
  | .bl b => ok b h
  | _ => bad
def slot (s : PSt) (i : Nat) (h : PH) : Out PV :=
  match s[i]? with
  | some (some v) => ok v h
  | _ => bad
def wipeP (s : PSt) : List Nat → PSt
  | [] => s
  | v :: vs => (wipeP s vs).set v none
/-- the names of a tuple's target, from the left -/
def setAll (s : PSt) : List Nat → List PV → Option PSt
  | [], [] => some s
  | i :: is, v :: vs => setAll (s.set i (some v)) is vs
  | _, _ => none

/-- the i-th step of a walk: none: it cannot be; some none: it is through -/
def itStep (it : Itr) (i : Nat) (h : PH) : Option (Option PV) :=
  match it with
  | .vals xs => some xs[i]?
  | .lst l => match h[l]? with
    | some (.lst xs) => some xs[i]?
    | _ => none
def Itr.fuel : Itr → Nat
  | .vals xs => xs.length + 1
  | .lst _ => sizeLine + 2
/-- a walk that carries something -/
def eachI {α : Type} (f : α → PV → PH → Out α) (it : Itr) : Nat → Nat → α → PH → Out α
  | 0, _, _, _ => bad
  | n + 1, i, a, h => match itStep it i h with
    | none => bad
    | some none => ok a h
    | some (some x) => (f a x h).bnd fun a h => eachI f it n (i + 1) a h
def each {α : Type} (f : α → PV → PH → Out α) (it : Itr) (a : α) (h : PH) : Out α := eachI f it it.fuel 0 a h

section
variable (C : Str → List PV → PH → Out PV)
mutual
def evE : E → PSt → PH → Out PV
  | .non, _, h => ok .non h
  | .bl b, _, h => ok (.bl b) h
  | .int i, _, h => ok (.int i) h
  | .str x, _, h => ok (.str x) h
  | .var i, s, h => slot s i h
  | .cst _ v, _, h => ok v h
  | .bin op a b, s, h => (evE a s h).bnd fun x h => (evE b s h).bnd fun y h => binF op x y h
  | .neg a, s, h => (evE a s h).bnd fun x h => match x with
    | .int i => ok (.int (-i)) h
    | _ => bad
  | .cmp op a b, s, h => (evE a s h).bnd fun x h => (evE b s h).bnd fun y h => cmpF op x y h
  | .cmp2 op op' a b c, s, h => (evE a s h).bnd fun x h => (evE b s h).bnd fun y h => (cmpF op x y h).bnd fun z h => (asB z h).bnd fun k h =>
      if k = true then (evE c s h).bnd fun w h => cmpF op' y w h else ok (.bl false) h
  | .and a b, s, h => (evE a s h).bnd fun x h => (truth x h).bnd fun k h => if k = true then evE b s h else ok x h
  | .or a b, s, h => (evE a s h).bnd fun x h => (truth x h).bnd fun k h => if k = true then ok x h else evE b s h
  | .not a, s, h => (evE a s h).bnd fun x h => (truth x h).bnd fun k h => ok (.bl (!k)) h
  | .ite c a b, s, h => (evT c s h).bnd fun k h => if k = true then evE a s h else evE b s h
  | .tup es, s, h => (evEs es s h).bnd fun xs h => if xs.length ≤ sizeLine then ok (.tup xs) h else bad
  | .lst es, s, h => (evEs es s h).bnd fun xs h => if xs.length ≤ sizeLine then new (.lst xs) h else bad
  | .dic ks, s, h => (evD ks s h).bnd fun ps h => if (ps.all fun p => isKey p.1) = true ∧ ps.length ≤ 15 then new (.dic (dAll ps)) h else bad
  | .sub a i, s, h => (evE a s h).bnd fun x h => (evE i s h).bnd fun y h => subF x y h
  | .slc a lo hi, s, h => (evE a s h).bnd fun x h => (evP lo s h).bnd fun y h => (evP hi s h).bnd fun z h => slcF x y z h
  | .call f es, s, h => (evEs es s h).bnd fun xs h => C f xs h
  | .bi f es, s, h => (evEs es s h).bnd fun xs h => biF f xs h
  | .mt m o es, s, h => (evE o s h).bnd fun x h1 => (evEs es s h1).bnd fun xs h => if kind x h1 = kind x h then mtF m x xs h else bad
  | .fld o f, s, h => (evE o s h).bnd fun x h => match x with
    | .ref l => (match h[l]? with
      | some (.ins _ fs) => (match fs.lookup f with
        | some v => ok v h
        | none => bad)
      | _ => bad)
    | _ => bad
  | .mk c es, s, h => (evEs es s h).bnd fun xs h => bad
  | .um m o es, s, h => (evE o s h).bnd fun x h => (evEs es s h).bnd fun xs h => bad
  | .lc elt tg it ifs own, s, h => (evI it s h).bnd fun r h =>
      (each (fun (acc : List PV) x h => (evG tg x (wipeP s own) h).bnd fun s2 h => (evTs ifs s2 h).bnd fun k h =>
        if k = true then (evE elt s2 h).bnd fun y h => if acc.length < sizeLine then ok (acc ++ [y]) h else bad else ok acc h) r [] h).bnd fun acc h => new (.lst acc) h
  | .dc kx vx tg it ifs own, s, h => (evI it s h).bnd fun r h =>
      (each (fun (acc : List (PV × PV)) x h => (evG tg x (wipeP s own) h).bnd fun s2 h => (evTs ifs s2 h).bnd fun k h =>
        if k = true then (evE kx s2 h).bnd fun y h => (evE vx s2 h).bnd fun z h => if isKey y ∧ acc.length < sizeLine then ok (dPut acc y z) h else bad else ok acc h) r [] h).bnd fun acc h => new (.dic acc) h
  | .isi f e, s, h => (evE e s h).bnd fun x h => isiF f x h
  | .lock i e, s, h => (slot s i h).bnd fun x h => match x with
    | .ref l => (match h[l]? with
      | some (.dic kvs) => (evE e s (h.set l (.lck kvs))).bnd fun v h => (match h[l]? with
        | some (.lck kvs) => ok v (h.set l (.dic kvs))
        | _ => bad)
      | _ => bad)
    | _ => bad
  | .inv neg a d, s, h => (evE a s h).bnd fun x h => (evE d s h).bnd fun y h => invF neg x y h
  | .lrg t es, s, h => (evEs es s h).bnd fun xs h => lrgF t xs h
def evEs : Es → PSt → PH → Out (List PV)
  | .nil, _, h => ok [] h
  | .cons e r, s, h => (evE e s h).bnd fun x h => (evEs r s h).bnd fun xs h => ok (x :: xs) h
/-- a display of pairs -/
def evD : Ks → PSt → PH → Out (List (PV × PV))
  | .nil, _, h => ok [] h
  | .cons k v r, s, h => (evE k s h).bnd fun x h => (evE v s h).bnd fun y h => (evD r s h).bnd fun ps h => ok ((x, y) :: ps) h
/-- a test -/
def evT : T → PSt → PH → Out Bool
  | .and a b, s, h => (evT a s h).bnd fun k h => if k = true then evT b s h else ok false h
  | .or a b, s, h => (evT a s h).bnd fun k h => if k = true then ok true h else evT b s h
  | .not a, s, h => (evT a s h).bnd fun k h => ok (!k) h
  | .ite c a b, s, h => (evT c s h).bnd fun k h => if k = true then evT a s h else evT b s h
  | .cmp op a b, s, h => (evE a s h).bnd fun x h => (evE b s h).bnd fun y h => (cmpF op x y h).bnd asB
  | .cmp2 op op' a b c, s, h => (evE a s h).bnd fun x h => (evE b s h).bnd fun y h => (cmpF op x y h).bnd fun z h => (asB z h).bnd fun k h =>
      if k = true then (evE c s h).bnd fun w h => (cmpF op' y w h).bnd asB else ok false h
  | .e e, s, h => (evE e s h).bnd truth
  | .inv neg a d, s, h => (evE a s h).bnd fun x h => (evE d s h).bnd fun y h => (invF neg x y h).bnd asB
def evP : Pt → PSt → PH → Out (Option Int)
  | .none, _, h => ok none h
  | .some e, s, h => (evE e s h).bnd fun x h => match x with
    | .int i => ok (some i) h
    | _ => bad
/-- tests, all of them -/
def evTs : Ts → PSt → PH → Out Bool
  | .nil, _, h => ok true h
  | .cons e r, s, h => (evT e s h).bnd fun k h => if k = true then evTs r s h else ok false h
def evI : It → PSt → PH → Out Itr
  | .ex e, s, h => (evE e s h).bnd fun x h => match x with
    | .tup xs => ok (.vals xs) h
    | .fro xs => ok (.vals xs) h
    | .ref l => (match h[l]? with
      | some (.lst _) => ok (.lst l) h
      | _ => bad)
    | .str x => ok (.vals (x.cps.toList.map fun c => .str ⟨#[c]⟩)) h
    | _ => bad
  | .rng es, s, h => (evEs es s h).bnd fun xs h => match xs with
    | [.int n] => if small n then ok (.vals (rngI 0 n.toNat)) h else bad
    | [.int a, .int b] => if small a ∧ small b then ok (.vals (rngI a (b - a).toNat)) h else bad
    | _ => bad
  | .rev e, s, h => (evE e s h).bnd fun x h => match x with
    | .tup xs => ok (.vals xs.reverse) h
    | _ => bad
  | .keys e, s, h => (evE e s h).bnd fun x h => match x with
    | .ref l => (match h[l]? with
      | some (.lck kvs) => ok (.vals (kvs.map (·.1))) h
      | _ => bad)
    | _ => bad
  | _, _, _ => bad
def evG : Tg → PV → PSt → PH → Out PSt
  | .nm i, v, s, h => ok (s.set i (some v)) h
  | .tup is, v, s, h => match v with
    | .tup vs => (match setAll s is vs with
      | some s => ok s h
      | none => bad)
    | _ => bad
  | .sub o i, v, s, h => (evE o s h).bnd fun x h => (evE i s h).bnd fun y h => (setF x y v h).bnd fun _ h => ok s h
  | .fld o f, v, s, h => bad
end

def whl (c : PSt → PH → Out Bool) (b : PSt → PH → SO) : Nat → PSt → PH → SO
  | 0, _, _ => .bad
  | n + 1, s, h => (c s h).sbnd fun k h => if k = true then (match b s h with
      | .nx s h => whl c b n s h
      | .ct s h => whl c b n s h
      | .bk s h => .nx s h
      | .rt v h => .rt v h
      | .exc e h => .exc e h
      | .bad => .bad) else .nx s h
def forI (g : PV → PSt → PH → Out PSt) (b : PSt → PH → SO) (it : Itr) : Nat → Nat → PSt → PH → SO
  | 0, _, _, _ => .bad
  | n + 1, i, s, h => match itStep it i h with
    | none => .bad
    | some none => .nx s h
    | some (some x) => (g x s h).sbnd fun s h => match b s h with
      | .nx s h => forI g b it n (i + 1) s h
      | .ct s h => forI g b it n (i + 1) s h
      | .bk s h => .nx s h
      | .rt v h => .rt v h
      | .exc e h => .exc e h
      | .bad => .bad
/-- the dict at a place is free again -/
def free (l : Nat) (h : PH) : Option PH :=
  match h[l]? with
  | some (.lck kvs) => some (h.set l (.dic kvs))
  | _ => none
def unlk (l : Nat) (o : SO) : SO :=
  match o with
  | .nx s h => (match free l h with
    | some h => .nx s h
    | none => .bad)
  | .ct s h => (match free l h with
    | some h => .ct s h
    | none => .bad)
  | .bk s h => (match free l h with
    | some h => .bk s h
    | none => .bad)
  | .rt v h => (match free l h with
    | some h => .rt v h
    | none => .bad)
  | .exc e h => .bad
  | .bad => .bad
def big : Nat := 1000000000
mutual
def evS : S → PSt → PH → SO
  | .pass, s, h => .nx s h
  | .brk, s, h => .bk s h
  | .cont, s, h => .ct s h
  | .retN, _, h => .rt .non h
  | .ret e, s, h => (evE C e s h).sbnd fun v h => .rt v h
  | .ex e, s, h => (evE C e s h).sbnd fun _ h => .nx s h
  | .asg t e, s, h => (evE C e s h).sbnd fun v h => (evG C t v s h).sbnd fun s h => .nx s h
  | .par i j a b, s, h => (evE C a s h).sbnd fun x h => (evE C b s h).sbnd fun y h => .nx ((s.set i (some x)).set j (some y)) h
  | .aug i op e, s, h => (slot s i h).sbnd fun x h => (evE C e s h).sbnd fun y h => (match x, y with
      | .int _, .int _ => binF op x y h
      | .str _, .str _ => binF op x y h
      | _, _ => bad).sbnd fun z h => .nx (s.set i (some z)) h
  | .augF o f op e, s, h => .bad
  | .augS o i op e, s, h => .bad
  | .ite c a b, s, h => (evT C c s h).sbnd fun k h => if k = true then evSs a s h else evSs b s h
  | .whl c b, s, h => whl (evT C c) (evSs b) big s h
  | .frr t it b, s, h => (evI C it s h).sbnd fun r h => forI (evG C t) (evSs b) r r.fuel 0 s h
  | .never, _, _ => .bad
  | .lk e st, s, h => (evE C e s h).sbnd fun x _ => match x with
    | .ref l => (match h[l]? with
      | some (.dic kvs) => unlk l (evS st s (h.set l (.lck kvs)))
      | _ => .bad)
    | _ => .bad
def evSs : Ss → PSt → PH → SO
  | .nil, s, h => .nx s h
  | .cons a r, s, h => match evS a s h with
    | .nx s h => evSs r s h
    | o => o
end
end

structure Df where
  np : Nat
  ns : Nat
  body : Ss
def evCall (T : Str → Option Df) : Nat → Str → List PV → PH → Out PV
  | 0, _, _, _ => bad
  | k + 1, f, xs, h => match T f with
    | none => bad
    | some d => if xs.length = d.np ∧ d.np ≤ d.ns then (match evSs (evCall T k) d.body (xs.map some ++ List.replicate (d.ns - d.np) none) h with
      | .rt v h => ok v h
      | .nx _ h => ok .non h
      | .exc e h => exc e h
      | _ => bad) else bad
end MP

set_option Elab.async false
set_option linter.all false
set_option maxRecDepth 100000
namespace MP
open PySem PySem.Spec PyProof.Rows L2

abbrev Fg := PySem.W.Frag

/-- a list that stands still -/
def FrL (K : Fg) (H : Hp) (a : Addr) (xs : List V) : Prop := (∃ o, H a = some (.frz o (.lst xs))) ∨
  ∃ (o : Obj) (its : Array Value) (n : Nat), K.lookup a = some o ∧ o.cls = .type "list" ∧ o.dict = none ∧ o.data = .seq its n ∧ its.size ≤ sizeLine ∧ Vals xs its.toList
theorem FrL.sq {K : Fg} {H : Hp} {a : Addr} {xs : List V} (h : FrL K H a xs) : SqL K H a xs := h.imp (fun ⟨o, e⟩ => .inr ⟨o, e⟩) id
/-- a tuple, or a list that stands still -/
def SqI (K : Fg) (H : Hp) (a : Addr) (t : Bool × List V) : Prop := match t.1 with
  | true => SqT K H a t.2
  | false => FrL K H a t.2
mutual
/-- the plain value p is the value v -/
inductive RepV (K : Fg) (ρ : List Addr) (H : Hp) : PV → V → Prop
  | non : RepV K ρ H .non .non
  | bl (b : Bool) : RepV K ρ H (.bl b) (.bl b)
  | int (i : Int) : RepV K ρ H (.int i) (.int i)
  | str (x : Str) : RepV K ρ H (.str x) (.str x)
  | tup {a : Addr} {xs : List V} {ps : List PV} : SqT K H a xs → RepVs K ρ H ps xs → RepV K ρ H (.tup ps) (.ref a)
  | ref {l : Nat} {a : Addr} : ρ[l]? = some a → RepV K ρ H (.ref l) (.ref a)
  | fro {a : Addr} {xs : List V} {ps : List PV} : FrL K H a xs → RepVs K ρ H ps xs → RepV K ρ H (.fro ps) (.ref a)
inductive RepVs (K : Fg) (ρ : List Addr) (H : Hp) : List PV → List V → Prop
  | nil : RepVs K ρ H [] []
  | cons {p : PV} {v : V} {ps : List PV} {vs : List V} : RepV K ρ H p v → RepVs K ρ H ps vs → RepVs K ρ H (p :: ps) (v :: vs)
end
inductive RepKs (K : Fg) (ρ : List Addr) (H : Hp) : List (PV × PV) → List (L2.Key × V) → Prop
  | nil : RepKs K ρ H [] []
  | cons {k : PV} {kk : L2.Key} {p : PV} {v : V} {r : List (PV × PV)} {rs : List (L2.Key × V)} : keyOf k = some kk → RepV K ρ H p v → RepKs K ρ H r rs → RepKs K ρ H ((k, p) :: r) ((kk, v) :: rs)
def RepO (K : Fg) (ρ : List Addr) (H : Hp) : PO → Addr → Prop
  | .lst ps, a => ∃ xs, H a = some (.lst xs) ∧ RepVs K ρ H ps xs
  | .dic kvs, a => ∃ ks, H a = some (.dK ks) ∧ RepKs K ρ H kvs ks
  | .lck kvs, a => ∃ o ks, H a = some (.frz o (.dK ks)) ∧ RepKs K ρ H kvs ks
  | .ins _ _, _ => False

structure Sim (K : Fg) (ρ : List Addr) (h : PH) (H : Hp) : Prop where
  len : ρ.length = h.length
  nd : ρ.Nodup
  ob : ∀ (l : Nat) o a, h[l]? = some o → ρ[l]? = some a → RepO K ρ H o a
structure Ext (K : Fg) (ρ : List Addr) (H : Hp) (ρ' : List Addr) (H' : Hp) : Prop where
  pre : ∀ (l : Nat) a, ρ[l]? = some a → ρ'[l]? = some a
  tup : ∀ a xs, SqI K H a xs → SqI K H' a xs
  frm : ∀ a o, H a = some o → a ∉ ρ → H' a = some o
  new : ∀ a, a ∈ ρ' → a ∈ ρ ∨ H a = none
  lck : ∀ a o ks, H a = some (.frz o (.dK ks)) → H' a = some (.frz o (.dK ks))
def RepSt (K : Fg) (ρ : List Addr) (H : Hp) (s : PSt) (σ : L2.St) : Prop :=
  s.length = σ.length ∧ ∀ (i : Nat) v, s[i]? = some (some v) → ∃ u, σ[i]? = some (some u) ∧ RepV K ρ H v u

section
variable {K : Fg} {ρ ρ' ρ2 : List Addr} {H H' H2 : Hp} {h h' : PH}
mutual
theorem RepV.mono (hp : ∀ (l : Nat) a, ρ[l]? = some a → ρ'[l]? = some a) (ht : ∀ a xs, SqI K H a xs → SqI K H' a xs) : ∀ {p : PV} {v : V}, RepV K ρ H p v → RepV K ρ' H' p v
  | _, _, .non => .non
  | _, _, .bl b => .bl b
  | _, _, .int i => .int i
  | _, _, .str x => .str x
  | _, _, .tup (xs := xs) q r => .tup (ht _ (true, xs) q) (RepVs.mono hp ht r)
  | _, _, .fro (xs := xs) q r => .fro (ht _ (false, xs) q) (RepVs.mono hp ht r)
  | _, _, .ref e => .ref (hp _ _ e)
theorem RepVs.mono (hp : ∀ (l : Nat) a, ρ[l]? = some a → ρ'[l]? = some a) (ht : ∀ a xs, SqI K H a xs → SqI K H' a xs) : ∀ {p : List PV} {v : List V}, RepVs K ρ H p v → RepVs K ρ' H' p v
  | _, _, .nil => .nil
  | _, _, .cons q r => .cons (RepV.mono hp ht q) (RepVs.mono hp ht r)
end
theorem RepKs.mono (hp : ∀ (l : Nat) a, ρ[l]? = some a → ρ'[l]? = some a) (ht : ∀ a xs, SqI K H a xs → SqI K H' a xs) : ∀ {p : List (PV × PV)} {v : List (L2.Key × V)}, RepKs K ρ H p v → RepKs K ρ' H' p v
  | _, _, .nil => .nil
  | _, _, .cons e q r => .cons e (q.mono hp ht) (RepKs.mono hp ht r)
theorem Ext.refl : Ext K ρ H ρ H := ⟨fun _ _ e => e, fun _ _ e => e, fun _ _ e _ => e, fun _ e => .inl e, fun _ _ _ e => e⟩
theorem mem_of_get {l : Nat} {a : Addr} (e : ρ[l]? = some a) : a ∈ ρ := List.mem_of_getElem? e
theorem get_of_mem {a : Addr} (e : a ∈ ρ) : ∃ l : Nat, ρ[l]? = some a := List.mem_iff_getElem?.mp e
theorem Ext.mem (x : Ext K ρ H ρ' H') {a : Addr} (e : a ∈ ρ) : a ∈ ρ' := by
  obtain ⟨l, e⟩ := get_of_mem e
  exact mem_of_get (x.pre l a e)
theorem Ext.trans (x : Ext K ρ H ρ' H') (y : Ext K ρ' H' ρ2 H2) : Ext K ρ H ρ2 H2 where
  pre := fun l a e => y.pre l a (x.pre l a e)
  tup := fun a xs e => y.tup a xs (x.tup a xs e)
  lck := fun a o ks e => y.lck a o ks (x.lck a o ks e)
  frm := fun a o e n => by
    refine y.frm a o (x.frm a o e n) fun z => ?_
    rcases x.new a z with q | q
    · exact n q
    · rw [e] at q; cases q
  new := fun a e => by
    rcases y.new a e with q | q
    · exact x.new a q
    · cases e2 : H a with
      | none => exact .inr rfl
      | some o =>
        by_cases m : a ∈ ρ
        · exact .inl m
        · rw [x.frm a o e2 m] at q; cases q
theorem RepV.ext (x : Ext K ρ H ρ' H') {p : PV} {v : V} (r : RepV K ρ H p v) : RepV K ρ' H' p v := r.mono x.pre x.tup
theorem RepVs.ext (x : Ext K ρ H ρ' H') {p : List PV} {v : List V} (r : RepVs K ρ H p v) : RepVs K ρ' H' p v := r.mono x.pre x.tup
theorem RepKs.ext (x : Ext K ρ H ρ' H') {p : List (PV × PV)} {v : List (L2.Key × V)} (r : RepKs K ρ H p v) : RepKs K ρ' H' p v := r.mono x.pre x.tup
theorem RepSt.ext (x : Ext K ρ H ρ' H') {s : PSt} {σ : L2.St} (r : RepSt K ρ H s σ) : RepSt K ρ' H' s σ := ⟨r.1, fun i v e => let ⟨u, a, b⟩ := r.2 i v e; ⟨u, a, b.ext x⟩⟩
theorem RepO.mono {o : PO} {a : Addr} (hp : ∀ (l : Nat) a, ρ[l]? = some a → ρ'[l]? = some a) (ht : ∀ a xs, SqI K H a xs → SqI K H' a xs) (e : H' a = H a) (r : RepO K ρ H o a) : RepO K ρ' H' o a := by
  cases o with
  | lst ps => obtain ⟨xs, h1, h2⟩ := r; exact ⟨xs, e.trans h1, h2.mono hp ht⟩
  | dic ps => obtain ⟨xs, h1, h2⟩ := r; exact ⟨xs, e.trans h1, h2.mono hp ht⟩
  | lck ps => obtain ⟨o, xs, h1, h2⟩ := r; exact ⟨o, xs, e.trans h1, h2.mono hp ht⟩
  | ins _ _ => exact r
/-- what stands at a place is tracked, and no tuple -/
theorem RepO.some {o : PO} {a : Addr} (r : RepO K ρ H o a) : ∃ u, H a = some u ∧ (∀ xs, u ≠ .tup xs) ∧ ∀ ob xs, u ≠ .frz ob (.tup xs) ∧ u ≠ .frz ob (.lst xs) := by
  cases o with
  | lst ps => obtain ⟨xs, h1, h2⟩ := r; exact ⟨_, h1, fun _ => nofun, fun _ _ => ⟨nofun, nofun⟩⟩
  | dic ps => obtain ⟨xs, h1, h2⟩ := r; exact ⟨_, h1, fun _ => nofun, fun _ _ => ⟨nofun, nofun⟩⟩
  | lck ps => obtain ⟨o, xs, h1, h2⟩ := r; exact ⟨_, h1, fun _ => nofun, fun _ _ => ⟨nofun, nofun⟩⟩
  | ins _ _ => exact r.elim
theorem Sim.at (S : Sim K ρ h H) {l : Nat} {o : PO} (e : h[l]? = some o) : ∃ a, ρ[l]? = some a ∧ RepO K ρ H o a := by
  have lt : l < ρ.length := by rw [S.len]; exact (List.getElem?_eq_some_iff.mp e).1
  exact ⟨ρ[l], List.getElem?_eq_getElem lt, S.ob l o _ e (List.getElem?_eq_getElem lt)⟩
theorem Sim.mem (S : Sim K ρ h H) {a : Addr} (e : a ∈ ρ) : ∃ (l : Nat) (o : PO), ρ[l]? = some a ∧ h[l]? = some o ∧ RepO K ρ H o a := by
  obtain ⟨l, e⟩ := get_of_mem e
  have lt : l < h.length := by rw [← S.len]; exact (List.getElem?_eq_some_iff.mp e).1
  exact ⟨l, h[l], e, List.getElem?_eq_getElem lt, S.ob l _ a (List.getElem?_eq_getElem lt) e⟩
theorem Sim.tracked (S : Sim K ρ h H) {a : Addr} (e : a ∈ ρ) : ∃ u, H a = some u ∧ (∀ xs, u ≠ .tup xs) ∧ ∀ ob xs, u ≠ .frz ob (.tup xs) ∧ u ≠ .frz ob (.lst xs) := let ⟨_, _, _, _, r⟩ := S.mem e; r.some
theorem Sim.inj (S : Sim K ρ h H) {i j : Nat} {a : Addr} (e : ρ[i]? = some a) (f : ρ[j]? = some a) : i = j := by
  obtain ⟨h1, e1⟩ := List.getElem?_eq_some_iff.mp e
  obtain ⟨h2, e2⟩ := List.getElem?_eq_some_iff.mp f
  exact (List.getElem_inj S.nd).mp (e1.trans e2.symm)
theorem SqI.upd_new {a p : Addr} {xs : Bool × List V} {o : HO} (hp : H p = none) (q : SqI K H a xs) : SqI K (upd H p o) a xs := by
  obtain ⟨b, xs⟩ := xs
  cases b with
  | true =>
    rcases (show SqT K H a xs from q) with (q | ⟨ob, q⟩) | q
    · exact .inl (.inl (by rw [upd_ne (ne_of_none q hp)]; exact q))
    · exact .inl (.inr ⟨ob, by rw [upd_ne (ne_of_none q hp)]; exact q⟩)
    · exact .inr q
  | false =>
    rcases (show FrL K H a xs from q) with ⟨ob, q⟩ | q
    · exact .inl ⟨ob, by rw [upd_ne (ne_of_none q hp)]; exact q⟩
    · exact .inr q
theorem SqI.upd_old {a p : Addr} {xs : Bool × List V} {o u : HO} (hu : H p = some u) (h1 : ∀ xs, u ≠ .tup xs) (h2 : ∀ ob xs, u ≠ .frz ob (.tup xs) ∧ u ≠ .frz ob (.lst xs)) (q : SqI K H a xs) : SqI K (upd H p o) a xs := by
  obtain ⟨b, xs⟩ := xs
  cases b with
  | true =>
    rcases (show SqT K H a xs from q) with (q | ⟨ob, q⟩) | q
    · refine .inl (.inl ?_)
      rw [upd_ne]
      · exact q
      · intro e; subst e; rw [hu] at q; exact h1 _ (Option.some.inj q)
    · refine .inl (.inr ⟨ob, ?_⟩)
      rw [upd_ne]
      · exact q
      · intro e; subst e; rw [hu] at q; exact (h2 _ _).1 (Option.some.inj q)
    · exact .inr q
  | false =>
    rcases (show FrL K H a xs from q) with ⟨ob, q⟩ | q
    · refine .inl ⟨ob, ?_⟩
      rw [upd_ne]
      · exact q
      · intro e; subst e; rw [hu] at q; exact (h2 _ _).2 (Option.some.inj q)
    · exact .inr q
/-- a new thing that stands at no place -/
theorem Ext.tuple {p : Addr} {o : HO} (hp : H p = none) : Ext K ρ H ρ (upd H p o) :=
  ⟨fun _ _ e => e, fun _ _ q => SqI.upd_new hp q, fun a o e _ => by rw [upd_ne (ne_of_none e hp)]; exact e, fun _ e => .inl e, fun _ _ _ e => by rw [upd_ne (ne_of_none e hp)]; exact e⟩
theorem Sim.tuple {p : Addr} {o : HO} (S : Sim K ρ h H) (hp : H p = none) : Sim K ρ h (upd H p o) :=
  ⟨S.len, S.nd, fun l ob a e f => (S.ob l ob a e f).mono (fun _ _ e => e) (fun _ _ q => SqI.upd_new hp q) (by
    obtain ⟨u, hu, _⟩ := S.tracked (mem_of_get f)
    rw [upd_ne (ne_of_none hu hp)])⟩
/-- a new place -/
theorem Ext.push {p : Addr} {o : HO} (hp : H p = none) : Ext K ρ H (ρ ++ [p]) (upd H p o) :=
  ⟨fun l a e => by rw [List.getElem?_append_left (List.getElem?_eq_some_iff.mp e).1]; exact e, fun _ _ q => SqI.upd_new hp q, fun a o e _ => by rw [upd_ne (ne_of_none e hp)]; exact e, fun a e => by
    rcases List.mem_append.mp e with e | e
    · exact .inl e
    · have : a = p := by simpa using e
      subst this
      exact .inr hp, fun _ _ _ e => by rw [upd_ne (ne_of_none e hp)]; exact e⟩
theorem Sim.push {p : Addr} {o : HO} {po : PO} (S : Sim K ρ h H) (hp : H p = none) (r : RepO K (ρ ++ [p]) (upd H p o) po p) : Sim K (ρ ++ [p]) (h ++ [po]) (upd H p o) := by
  have X : Ext K ρ H (ρ ++ [p]) (upd H p o) := Ext.push hp
  refine ⟨by simp [S.len], ?_, fun l ob a e f => ?_⟩
  · refine List.nodup_append.mpr ⟨S.nd, by simp, fun a ha b hb e => ?_⟩
    have : b = p := by simpa using hb
    subst this e
    obtain ⟨u, hu, _⟩ := S.tracked ha
    rw [hp] at hu; cases hu
  · by_cases lt : l < h.length
    · rw [List.getElem?_append_left lt] at e
      rw [List.getElem?_append_left (by rw [S.len]; exact lt)] at f
      refine (S.ob l ob a e f).mono X.pre X.tup ?_
      obtain ⟨u, hu, _⟩ := S.tracked (mem_of_get f)
      rw [upd_ne (ne_of_none hu hp)]
    · have e2 : l = h.length := by
        have := (List.getElem?_eq_some_iff.mp e).1
        simp at this; omega
      subst e2
      rw [List.getElem?_append_right (Nat.le_refl _)] at e
      rw [List.getElem?_append_right (by rw [S.len]; exact Nat.le_refl _)] at f
      simp [S.len] at e f
      subst e f
      exact r
theorem push_at (S : Sim K ρ h H) (p : Addr) : (ρ ++ [p])[h.length]? = some p := by
  rw [List.getElem?_append_right (by rw [S.len]; exact Nat.le_refl _), S.len]
  simp
/-- a place is written -/
theorem set_tup {l : Nat} {p : Addr} {o : HO} (S : Sim K ρ h H) (e : ρ[l]? = some p) : ∀ a xs, SqI K H a xs → SqI K (upd H p o) a xs := by
  obtain ⟨u, hu, h1, h2⟩ := S.tracked (mem_of_get e)
  exact fun _ _ q => SqI.upd_old hu h1 h2 q
theorem Ext.set {l : Nat} {p : Addr} {o : HO} (S : Sim K ρ h H) (e : ρ[l]? = some p) (hm : ∀ ob w, H p ≠ some (.frz ob w)) : Ext K ρ H ρ (upd H p o) :=
  ⟨fun _ _ e => e, set_tup S e, fun a o e' n => by rw [upd_ne]; exact e'; intro z; exact n (z ▸ mem_of_get e), fun _ e => .inl e, fun a o ks e' => by rw [upd_ne]; exact e'; intro z; subst z; exact hm _ _ e'⟩
theorem nfL {p : Addr} {xs : List V} (e : H p = some (.lst xs)) : ∀ ob w, H p ≠ some (.frz ob w) := fun _ _ z => by rw [e] at z; cases z
theorem nfD {p : Addr} {xs : List (L2.Key × V)} (e : H p = some (.dK xs)) : ∀ ob w, H p ≠ some (.frz ob w) := fun _ _ z => by rw [e] at z; cases z
theorem Sim.set {l : Nat} {p : Addr} {o : HO} {po : PO} (S : Sim K ρ h H) (e : ρ[l]? = some p) (r : RepO K ρ (upd H p o) po p) : Sim K ρ (h.set l po) (upd H p o) := by
  refine ⟨by simp [S.len], S.nd, fun j ob a e' f => ?_⟩
  by_cases hj : j = l
  · subst hj
    rw [e] at f; cases f
    have lt : j < h.length := by rw [← S.len]; exact (List.getElem?_eq_some_iff.mp e).1
    rw [List.getElem?_set_self lt] at e'
    cases e'
    exact r
  · rw [List.getElem?_set_ne (Ne.symm hj)] at e'
    refine (S.ob j ob a e' f).mono (fun _ _ e => e) (set_tup S e) ?_
    rw [upd_ne]
    intro z
    subst z
    exact hj (S.inj f e)
theorem RepVs.length : ∀ {p : List PV} {v : List V}, RepVs K ρ H p v → p.length = v.length
  | _, _, .nil => rfl
  | _, _, .cons _ r => by simp [RepVs.length r]
theorem RepVs.get : ∀ {p : List PV} {v : List V} {i : Nat} {x : PV}, RepVs K ρ H p v → p[i]? = some x → ∃ u, v[i]? = some u ∧ RepV K ρ H x u
  | _, _, _, _, .nil, e => by simp at e
  | _, _, 0, _, .cons r _, e => by simp at e; subst e; exact ⟨_, rfl, r⟩
  | _, _, i + 1, x, .cons _ t, e => by
    obtain ⟨u, h1, h2⟩ := RepVs.get (i := i) (x := x) t (by simpa using e)
    exact ⟨u, by simpa using h1, h2⟩
theorem RepVs.get' : ∀ {p : List PV} {v : List V} {i : Nat} {u : V}, RepVs K ρ H p v → v[i]? = some u → ∃ x, p[i]? = some x ∧ RepV K ρ H x u
  | _, _, _, _, .nil, e => by simp at e
  | _, _, 0, _, .cons r _, e => by simp at e; subst e; exact ⟨_, rfl, r⟩
  | _, _, i + 1, x, .cons _ t, e => by
    obtain ⟨u, h1, h2⟩ := RepVs.get' (i := i) (u := x) t (by simpa using e)
    exact ⟨u, by simpa using h1, h2⟩
theorem RepVs.append : ∀ {p q : List PV} {v w : List V}, RepVs K ρ H p v → RepVs K ρ H q w → RepVs K ρ H (p ++ q) (v ++ w)
  | _, _, _, _, .nil, s => s
  | _, _, _, _, .cons r t, s => .cons r (RepVs.append t s)
theorem RepVs.take : ∀ {p : List PV} {v : List V} (n : Nat), RepVs K ρ H p v → RepVs K ρ H (p.take n) (v.take n)
  | _, _, 0, _ => .nil
  | _, _, _ + 1, .nil => .nil
  | _, _, n + 1, .cons r t => .cons r (RepVs.take n t)
theorem RepVs.drop : ∀ {p : List PV} {v : List V} (n : Nat), RepVs K ρ H p v → RepVs K ρ H (p.drop n) (v.drop n)
  | _, _, 0, r => r
  | _, _, _ + 1, .nil => .nil
  | _, _, n + 1, .cons _ t => RepVs.drop n t
theorem RepVs.set {x : PV} {u : V} (r : RepV K ρ H x u) : ∀ {p : List PV} {v : List V} (i : Nat), RepVs K ρ H p v → RepVs K ρ H (p.set i x) (v.set i u)
  | _, _, _, .nil => .nil
  | _, _, 0, .cons _ t => .cons r t
  | _, _, i + 1, .cons q t => .cons q (RepVs.set r i t)
theorem RepVs.erase : ∀ {p : List PV} {v : List V} (i : Nat), RepVs K ρ H p v → RepVs K ρ H (p.eraseIdx i) (v.eraseIdx i)
  | _, _, _, .nil => .nil
  | _, _, 0, .cons _ t => t
  | _, _, i + 1, .cons q t => .cons q (RepVs.erase i t)
theorem RepVs.flatRep {p : List PV} {v : List V} (r : RepVs K ρ H p v) : ∀ n : Nat, RepVs K ρ H (List.flatten (List.replicate n p)) (List.flatten (List.replicate n v))
  | 0 => .nil
  | n + 1 => by
    rw [List.replicate_succ, List.replicate_succ, List.flatten_cons, List.flatten_cons]
    exact r.append (RepVs.flatRep r n)
theorem RepVs.dropLast : ∀ {p : List PV} {v : List V}, RepVs K ρ H p v → RepVs K ρ H p.dropLast v.dropLast
  | _, _, .nil => .nil
  | _, _, .cons _ .nil => .nil
  | _, _, .cons q (.cons q' t) => .cons q (RepVs.dropLast (.cons q' t))
theorem RepVs.isEmpty {p : List PV} {v : List V} (r : RepVs K ρ H p v) : p.isEmpty = v.isEmpty := by
  cases r <;> rfl
theorem RepKs.isEmpty {p : List (PV × PV)} {v : List (L2.Key × V)} (r : RepKs K ρ H p v) : p.isEmpty = v.isEmpty := by
  cases r <;> rfl
theorem RepKs.length : ∀ {p : List (PV × PV)} {v : List (L2.Key × V)}, RepKs K ρ H p v → p.length = v.length
  | _, _, .nil => rfl
  | _, _, .cons _ _ r => by simp [RepKs.length r]
theorem RepV.intV {i : Int} {v : V} (r : RepV K ρ H (.int i) v) : v = .int i := by cases r; rfl
theorem RepV.strV {i : Str} {v : V} (r : RepV K ρ H (.str i) v) : v = .str i := by cases r; rfl
theorem RepV.blV {i : Bool} {v : V} (r : RepV K ρ H (.bl i) v) : v = .bl i := by cases r; rfl
theorem RepV.nonV {v : V} (r : RepV K ρ H .non v) : v = .non := by cases r; rfl
theorem RepVs.ints : ∀ {ps : List PV} {ns : List Int} {vs : List V}, intsOf ps = some ns → RepVs K ρ H ps vs → vs = ns.map V.int
  | [], ns, _, e, .nil => by simp [intsOf] at e; subst e; rfl
  | .int i :: r, ns, _, e, .cons q t => by
    simp only [intsOf, Option.map_eq_some_iff] at e
    obtain ⟨l, e1, e2⟩ := e
    subst e2
    rw [q.intV, RepVs.ints e1 t]
    rfl
  | .non :: _, _, _, e, _ => by simp [intsOf] at e
  | .bl _ :: _, _, _, e, _ => by simp [intsOf] at e
  | .str _ :: _, _, _, e, _ => by simp [intsOf] at e
  | .tup _ :: _, _, _, e, _ => by simp [intsOf] at e
  | .ref _ :: _, _, _, e, _ => by simp [intsOf] at e
  | .fro _ :: _, _, _, e, _ => by simp [intsOf] at e
theorem RepVs.bools : ∀ {ps : List PV} {ns : List Bool} {vs : List V}, boolsOf ps = some ns → RepVs K ρ H ps vs → vs = ns.map V.bl
  | [], ns, _, e, .nil => by simp [boolsOf] at e; subst e; rfl
  | .bl i :: r, ns, _, e, .cons q t => by
    simp only [boolsOf, Option.map_eq_some_iff] at e
    obtain ⟨l, e1, e2⟩ := e
    subst e2
    rw [q.blV, RepVs.bools e1 t]
    rfl
  | .non :: _, _, _, e, _ => by simp [boolsOf] at e
  | .int _ :: _, _, _, e, _ => by simp [boolsOf] at e
  | .str _ :: _, _, _, e, _ => by simp [boolsOf] at e
  | .tup _ :: _, _, _, e, _ => by simp [boolsOf] at e
  | .ref _ :: _, _, _, e, _ => by simp [boolsOf] at e
  | .fro _ :: _, _, _, e, _ => by simp [boolsOf] at e
theorem RepVs.ofInts : ∀ (ns : List Int), RepVs K ρ H (ns.map PV.int) (ns.map V.int)
  | [] => .nil
  | n :: r => .cons (.int n) (RepVs.ofInts r)
end
end MP

set_option Elab.async false
set_option linter.all false
set_option maxRecDepth 100000
set_option maxHeartbeats 1000000
namespace MP
open PySem PySem.Spec PyProof.Rows L2

/-- what is wanted behind an outcome -/
def PostG {α : Type} (K : Fg) (ρ : List Addr) (H : Hp) (o : Out α) (R : α → List Addr → Hp → Prop) : Prop :=
  match o with
  | .ok v h' => ∀ ρ' H', Ext K ρ H ρ' H' → Sim K ρ' h' H' → R v ρ' H'
  | _ => False
abbrev PostV (K : Fg) (ρ : List Addr) (H : Hp) (o : Out PV) (Q : VK) : Prop := PostG K ρ H o fun v ρ' H' => ∀ V, RepV K ρ' H' v V → Q V H'

section
variable {K : Fg} {ρ ρ1 : List Addr} {H H1 : Hp} {h : PH}
theorem PostG.mono {α : Type} {o : Out α} {R R' : α → List Addr → Hp → Prop} (p : PostG K ρ H o R) (f : ∀ v ρ' H', Ext K ρ H ρ' H' → R v ρ' H' → R' v ρ' H') : PostG K ρ H o R' := by
  cases o with
  | ok v h' => exact fun ρ' H' x s => f v ρ' H' x (p ρ' H' x s)
  | exc e h' => exact p
  | bad => exact p
theorem PostG.ext {α : Type} {o : Out α} {R : α → List Addr → Hp → Prop} (p : PostG K ρ H o R) (x : Ext K ρ H ρ1 H1) : PostG K ρ1 H1 o R := by
  cases o with
  | ok v h' => exact fun ρ' H' y s => p ρ' H' (x.trans y) s
  | exc e h' => exact p
  | bad => exact p
theorem PostG.bnd {α β : Type} {o : Out α} {f : α → PH → Out β} {R : β → List Addr → Hp → Prop} (p : PostG K ρ H (o.bnd f) R) :
    PostG K ρ H o fun v ρ' H' => ∃ h', Sim K ρ' h' H' ∧ PostG K ρ' H' (f v h') R := by
  cases o with
  | ok v h' => exact fun ρ' H' x s => ⟨h', s, PostG.ext (o := f v h') p x⟩
  | exc e h' => exact p
  | bad => exact p
theorem PostG.now {α : Type} {v : α} {R : α → List Addr → Hp → Prop} (p : PostG K ρ H (.ok v h) R) (s : Sim K ρ h H) : R v ρ H := p ρ H .refl s
theorem PostV.now {v : PV} {V : V} {Q : VK} (p : PostV K ρ H (.ok v h) Q) (s : Sim K ρ h H) (r : RepV K ρ H v V) : Q V H := p ρ H .refl s V r
/-- a new tuple -/
theorem PostV.tup {ps : List PV} {xs : List V} {Q : VK} (p : PostV K ρ H (.ok (.tup ps) h) Q) (s : Sim K ρ h H) (r : RepVs K ρ H ps xs) : ∀ a, H a = none → Q (.ref a) (upd H a (.tup xs)) := fun a ha =>
  p ρ _ (Ext.tuple ha) (s.tuple ha) _ (.tup (SqT.of upd_same) (r.ext (Ext.tuple ha)))
theorem PostV.new {o : PO} {u : HO} {Q : VK} (p : PostV K ρ H (MP.new o h) Q) (s : Sim K ρ h H) (r : ∀ a, H a = none → RepO K (ρ ++ [a]) (upd H a u) o a) : ∀ a, H a = none → Q (.ref a) (upd H a u) := fun a ha =>
  p (ρ ++ [a]) _ (Ext.push ha) (s.push ha (r a ha)) _ (.ref (push_at s a))
theorem PostV.newL {ps : List PV} {xs : List V} {Q : VK} (p : PostV K ρ H (MP.new (.lst ps) h) Q) (s : Sim K ρ h H) (r : RepVs K ρ H ps xs) : ∀ a, H a = none → Q (.ref a) (upd H a (.lst xs)) :=
  p.new s fun a ha => ⟨xs, upd_same, r.ext (Ext.push ha)⟩
theorem Sim.lst (S : Sim K ρ h H) {l : Nat} {a : Addr} {ps : List PV} (e : h[l]? = some (.lst ps)) (f : ρ[l]? = some a) : ∃ xs, H a = some (.lst xs) ∧ RepVs K ρ H ps xs := S.ob l _ a e f
theorem Sim.dic (S : Sim K ρ h H) {l : Nat} {a : Addr} {ps : List (PV × PV)} (e : h[l]? = some (.dic ps)) (f : ρ[l]? = some a) : ∃ xs, H a = some (.dK xs) ∧ RepKs K ρ H ps xs := S.ob l _ a e f
theorem Sim.lck (S : Sim K ρ h H) {l : Nat} {a : Addr} {ps : List (PV × PV)} (e : h[l]? = some (.lck ps)) (f : ρ[l]? = some a) : ∃ o xs, H a = some (.frz o (.dK xs)) ∧ RepKs K ρ H ps xs := S.ob l _ a e f
end

/-- a two-place operation, by plain values -/
def r2 (K : Fg) (g : PV → PV → PH → Out PV) : R2 := fun x y H Q => ∃ ρ h p q, Sim K ρ h H ∧ RepV K ρ H p x ∧ RepV K ρ H q y ∧ PostV K ρ H (g p q h) Q

section
variable {X : Cx}
theorem op_bin (op : Operator) : OpR X (binaryOp op) (r2 X.K (binF op)) := by
  intro pins s σ H x y v u Q I rx ry h
  obtain ⟨ρ, h, p, q, S, rp, rq, po⟩ := h
  unfold binF at po
  split at po
  · cases rp; cases rq
    exact op_add pins s σ H _ _ v u Q I rx ry ⟨_, _, rfl, rfl, po.now S (.int _)⟩
  · cases rp; cases rq
    split at po
    · exact op_add_str pins s σ H _ _ v u Q I rx ry ⟨_, _, rfl, rfl, by assumption, po.now S (.str _)⟩
    · exact po.elim
  · split at po
    · rename_i hz
      cases rp with
      | tup q1 r1 =>
        cases rq with
        | tup q2 r2 =>
          rename_i a xs b ys
          refine op_catA pins s σ H _ _ v u Q I rx ry ⟨_, _, xs, ys, rfl, rfl, q1, q2, by rw [← r1.length, ← r2.length]; exact hz, fun e => ?_, fun e1 e => ?_, fun _ _ => po.tup S (r1.append r2)⟩
          · subst e
            cases r1
            exact po.now S (.tup q2 r2)
          · subst e
            cases r2
            refine po.now S (.tup q1 ?_)
            rw [List.append_nil]
            exact r1
    · exact po.elim
  · split at po
    · rename_i h1 h2
      split at po
      · rename_i hz
        cases rp with
        | ref ea =>
          cases rq with
          | ref eb =>
            obtain ⟨xs, e1, r1⟩ := S.lst h1 ea
            obtain ⟨ys, e2, r2⟩ := S.lst h2 eb
            exact op_cat pins s σ H _ _ v u Q I rx ry ⟨_, _, xs, ys, rfl, rfl, e1, e2, by rw [← r1.length, ← r2.length]; exact hz, po.newL S (r1.append r2)⟩
      · exact po.elim
    · exact po.elim
  · cases rp; cases rq
    exact op_sub pins s σ H _ _ v u Q I rx ry ⟨_, _, rfl, rfl, po.now S (.int _)⟩
  · cases rp; cases rq
    split at po
    · rename_i i j hz
      refine op_mul pins s σ H _ _ v u Q I rx ry ⟨_, _, rfl, rfl, ?_, po.now S (.int _)⟩
      rcases hz with hz | hz
      · exact .inl (by constructor <;> omega)
      · exact .inr (by constructor <;> omega)
    · exact po.elim
  · split at po
    · rename_i h1
      split at po
      · rename_i hz
        cases rp with
        | ref ea =>
          cases rq
          obtain ⟨xs, e1, r1⟩ := S.lst h1 ea
          exact op_rep pins s σ H _ _ v u Q I rx ry ⟨_, _, xs, rfl, rfl, e1, hz.1, hz.2.1, by rw [← r1.length]; exact hz.2.2, po.newL S (r1.flatRep _)⟩
      · exact po.elim
    · exact po.elim
  · cases rp; cases rq
    split at po
    · exact op_fdiv pins s σ H _ _ v u Q I rx ry ⟨_, _, rfl, rfl, by assumption, po.now S (.int _)⟩
    · exact po.elim
  · cases rp; cases rq
    split at po
    · exact op_mod pins s σ H _ _ v u Q I rx ry ⟨_, _, rfl, rfl, by assumption, po.now S (.int _)⟩
    · exact po.elim
  · cases rp; cases rq
    split at po
    · exact op_shl pins s σ H _ _ v u Q I rx ry ⟨_, _, rfl, rfl, by assumption, po.now S (.int _)⟩
    · exact po.elim
  · cases rp; cases rq
    split at po
    · exact op_shr pins s σ H _ _ v u Q I rx ry ⟨_, _, rfl, rfl, by assumption, po.now S (.int _)⟩
    · exact po.elim
  · cases rp; cases rq
    split at po
    · exact op_pow pins s σ H _ _ v u Q I rx ry ⟨_, _, rfl, rfl, by assumption, po.now S (.int _)⟩
    · exact po.elim
  · cases rp; cases rq
    exact op_and pins s σ H _ _ v u Q I rx ry ⟨_, _, rfl, rfl, po.now S (.int _)⟩
  · cases rp; cases rq
    exact op_or pins s σ H _ _ v u Q I rx ry ⟨_, _, rfl, rfl, po.now S (.int _)⟩
  · cases rp; cases rq
    exact op_xor pins s σ H _ _ v u Q I rx ry ⟨_, _, rfl, rfl, po.now S (.int _)⟩
  · exact po.elim
end

/-! ### data -/
section
variable {K : Fg} {ρ : List Addr} {H : Hp} {h : PH}
theorem dataL_all {f : PV → Option PyData} (ih : ∀ p v d, f p = some d → RepV K ρ H p v → Dp K H v d) : ∀ {ps : List PV} {vs : List V} {ds : List PyData}, dataL f ps = some ds → RepVs K ρ H ps vs → DpAll K H vs ds
  | [], _, ds, e, .nil => by
    simp [dataL] at e
    subst e
    exact .nil
  | p :: r, _, ds, e, .cons q t => by
    unfold dataL at e
    split at e
    · rename_i d ds' e1 e2
      cases e
      exact .cons (ih _ _ _ e1 q) (dataL_all ih e2 t)
    · cases e
theorem datum_ok (S : Sim K ρ h H) : ∀ (n : Nat) (p : PV) (v : V) (d : PyData), datum h n p = some d → RepV K ρ H p v → Dp K H v d
  | 0, p, v, d, e, r => by simp [datum] at e
  | n + 1, .non, v, d, e, r => by cases r; simp [datum] at e; subst e; exact .non
  | n + 1, .bl b, v, d, e, r => by cases r; simp [datum] at e; subst e; exact .bl _
  | n + 1, .int b, v, d, e, r => by cases r; simp [datum] at e; subst e; exact .int _
  | n + 1, .str b, v, d, e, r => by cases r; simp [datum] at e; subst e; exact .str _
  | n + 1, .tup ps, v, d, e, r => by
    simp only [datum, Option.map_eq_some_iff] at e
    obtain ⟨ds, e1, e2⟩ := e
    subst e2
    cases r with
    | tup q t => exact .tup q (dataL_all (fun p v d => datum_ok S n p v d) e1 t)
  | n + 1, .fro _, v, d, e, r => by simp [datum] at e
  | n + 1, .ref l, v, d, e, r => by
    cases r with
    | ref ea =>
      simp only [datum] at e
      split at e
      · rename_i h1
        simp only [Option.map_eq_some_iff] at e
        obtain ⟨ds, e1, e2⟩ := e
        subst e2
        obtain ⟨xs, e3, r1⟩ := S.lst h1 ea
        exact .lst (SqL.of e3) (dataL_all (fun p v d => datum_ok S n p v d) e1 r1)
      · cases e
end
section
variable {X : Cx}
def rB (K : Fg) (g : PV → PV → PH → Out Bool) (f : Bool → Bool) : R2 := fun x y H Q => ∃ ρ h p q, Sim K ρ h H ∧ RepV K ρ H p x ∧ RepV K ρ H q y ∧ PostG K ρ H (g p q h) fun b _ H' => Q (.bl (f b)) H'
theorem op_eqP (hu : X.A.units + 64 < cLine) : OpR X (compareOp .Eq) (rB X.K eqB id) := by
  intro pins s σ H x y v u Q I rx ry h
  obtain ⟨ρ, h, p, q, S, rp, rq, po⟩ := h
  unfold eqB at po
  split at po
  · cases rp; cases rq
    exact op_eq pins s σ H _ _ v u Q I rx ry ⟨rfl, by have := po.now S; simpa using this⟩
  · cases rp; cases rq
    exact op_eq pins s σ H _ _ v u Q I rx ry ⟨rfl, by have := po.now S; simpa using this⟩
  · cases rp; cases rq
    exact op_eq pins s σ H _ _ v u Q I rx ry ⟨rfl, by have := po.now S; simpa using this⟩
  · cases rp; cases rq
    exact op_eq pins s σ H _ _ v u Q I rx ry ⟨rfl, by have := po.now S; simpa using this⟩
  · split at po
    · rename_i d e e1 e2
      split at po
      · rename_i hs
        exact op_eqD hu pins s σ H _ _ v u Q I rx ry ⟨d, e, datum_ok S _ _ _ _ e1 rp, datum_ok S _ _ _ _ e2 rq, hs.1, hs.2, po.now S⟩
      · exact po.elim
    · exact po.elim
theorem op_neP (hu : X.A.units + 64 < cLine) : OpR X (compareOp .NotEq) (rB X.K eqB (!·)) := by
  intro pins s σ H x y v u Q I rx ry h
  obtain ⟨ρ, h, p, q, S, rp, rq, po⟩ := h
  unfold eqB at po
  split at po
  · cases rp; cases rq
    exact op_ne pins s σ H _ _ v u Q I rx ry ⟨rfl, by have := po.now S; simpa using this⟩
  · cases rp; cases rq
    exact op_ne pins s σ H _ _ v u Q I rx ry ⟨rfl, by have := po.now S; simpa using this⟩
  · cases rp; cases rq
    exact op_ne pins s σ H _ _ v u Q I rx ry ⟨rfl, by have := po.now S; simpa using this⟩
  · cases rp; cases rq
    exact op_ne pins s σ H _ _ v u Q I rx ry ⟨rfl, by have := po.now S; simpa using this⟩
  · split at po
    · rename_i d e e1 e2
      split at po
      · rename_i hs
        exact op_neD hu pins s σ H _ _ v u Q I rx ry ⟨d, e, datum_ok S _ _ _ _ e1 rp, datum_ok S _ _ _ _ e2 rq, hs.1, hs.2, po.now S⟩
      · exact po.elim
    · exact po.elim
end
end MP

set_option Elab.async false
set_option linter.all false
set_option maxRecDepth 100000
set_option maxHeartbeats 1000000
namespace MP
open PySem PySem.Spec PyProof.Rows L2

section
variable {K : Fg} {ρ : List Addr} {H : Hp} {h : PH}
theorem keyOf_V {k : PV} {kk : L2.Key} {v : V} (e : keyOf k = some kk) (r : RepV K ρ H k v) : v = kV kk := by
  cases r <;> simp [keyOf] at e <;> subst e <;> rfl
theorem keyOf_some {k : PV} (e : isKey k = true) : ∃ kk, keyOf k = some kk := by
  cases k <;> simp [isKey] at e <;> exact ⟨_, rfl⟩
theorem keyEq_iff {a b : PV} {x y : L2.Key} (ea : keyOf a = some x) (eb : keyOf b = some y) : keyEq a b = decide (x = y) := by
  cases a <;> simp [keyOf] at ea <;> subst ea <;> cases b <;> simp [keyOf] at eb <;> subst eb <;> simp [keyEq, key_ll, key_rr, key_lr, key_rl]
theorem RepKs.get {k : PV} {kk : L2.Key} (ek : keyOf k = some kk) : ∀ {kvs : List (PV × PV)} {ks : List (L2.Key × V)}, RepKs K ρ H kvs ks →
    (∀ v, dGet kvs k = some v → ∃ u, valV ks kk = some u ∧ RepV K ρ H v u) ∧ (dGet kvs k = none → valV ks kk = none)
  | _, _, .nil => ⟨fun v e => by simp [dGet] at e, fun _ => rfl⟩
  | _, _, .cons (k := a) (kk := ka) (v := u) e q r => by
    have ih := RepKs.get ek r
    simp only [dGet]
    rw [keyEq_iff e ek]
    by_cases hk : ka = kk
    · simp only [hk, decide_true, if_true]
      refine ⟨fun v e => ?_, fun e => by cases e⟩
      cases e
      exact ⟨u, valV_pos (p := (kk, u)) rfl, q⟩
    · simp only [hk, decide_false, Bool.false_eq_true, if_false]
      rw [valV_neg (p := (ka, u)) hk]
      exact ih
theorem RepKs.someK {k : PV} {kk : L2.Key} (ek : keyOf k = some kk) {kvs : List (PV × PV)} {ks : List (L2.Key × V)} (r : RepKs K ρ H kvs ks) : (valV ks kk).isSome = (dGet kvs k).isSome := by
  obtain ⟨h1, h2⟩ := r.get ek
  cases e : dGet kvs k with
  | none => rw [h2 e]; rfl
  | some v => obtain ⟨u, h3, _⟩ := h1 v e; rw [h3]; rfl
theorem RepKs.any {k : PV} {kk : L2.Key} (ek : keyOf k = some kk) : ∀ {kvs : List (PV × PV)} {ks : List (L2.Key × V)}, RepKs K ρ H kvs ks → (kvs.any fun p => keyEq p.1 k) = (ks.any fun kv => decide (kv.1 = kk))
  | _, _, .nil => rfl
  | _, _, .cons e _ r => by simp only [List.any_cons, RepKs.any ek r, keyEq_iff e ek]
theorem RepKs.append : ∀ {kvs lvs : List (PV × PV)} {ks ls : List (L2.Key × V)}, RepKs K ρ H kvs ks → RepKs K ρ H lvs ls → RepKs K ρ H (kvs ++ lvs) (ks ++ ls)
  | _, _, _, _, .nil, s => s
  | _, _, _, _, .cons e q r, s => .cons e q (RepKs.append r s)
theorem RepKs.put {k p : PV} {kk : L2.Key} {u : V} (ek : keyOf k = some kk) (ru : RepV K ρ H p u) {kvs : List (PV × PV)} {ks : List (L2.Key × V)} (r : RepKs K ρ H kvs ks) : RepKs K ρ H (dPut kvs k p) (putK ks kk u) := by
  unfold dPut putK
  rw [r.any ek]
  by_cases hc : (ks.any fun kv => decide (kv.1 = kk)) = true
  · rw [if_pos hc, if_pos hc]
    have go : ∀ {kvs : List (PV × PV)} {ks : List (L2.Key × V)}, RepKs K ρ H kvs ks → RepKs K ρ H (kvs.map (fun q => if keyEq q.1 k = true then (q.1, p) else q)) (ks.map (fun kv => if kv.1 = kk then (kv.1, u) else kv)) := by
      intro kvs ks r
      induction r with
      | nil => exact .nil
      | cons e q r ih =>
        simp only [List.map_cons]
        rw [keyEq_iff e ek]
        split
        · rename_i h1
          simp only [decide_eq_true_eq] at h1
          rw [if_pos h1]
          exact .cons e ru ih
        · rename_i h1
          simp only [decide_eq_true_eq] at h1
          rw [if_neg h1]
          exact .cons e q ih
    exact go r
  · rw [if_neg hc, if_neg hc]
    exact r.append (.cons ek ru .nil)
theorem RepKs.drop {k : PV} {kk : L2.Key} (ek : keyOf k = some kk) : ∀ {kvs : List (PV × PV)} {ks : List (L2.Key × V)}, RepKs K ρ H kvs ks → RepKs K ρ H (dDrop kvs k) (dropK ks kk)
  | _, _, .nil => .nil
  | _, _, .cons (k := a) (kk := ka) e q r => by
    have ih := RepKs.drop ek r
    unfold dDrop dropK at ih ⊢
    simp only [List.filter_cons]
    rw [keyEq_iff e ek]
    by_cases hk : ka = kk
    · simpa [hk] using ih
    · simp only [hk, decide_false, Bool.not_false, if_true, ne_eq, not_false_eq_true, decide_true]
      exact .cons e q ih
theorem RepKs.keys : ∀ {kvs : List (PV × PV)} {ks : List (L2.Key × V)}, RepKs K ρ H kvs ks → RepVs K ρ H (kvs.map (·.1)) (ks.map fun kv => kV kv.1)
  | _, _, .nil => .nil
  | _, _, .cons (k := k) e q r => by
    refine .cons ?_ (RepKs.keys r)
    cases k <;> simp [keyOf] at e <;> subst e
    · exact .int _
    · exact .str _
theorem RepKs.intKeys : ∀ {kvs : List (PV × PV)} {ks : List (L2.Key × V)} {is : List Int}, RepKs K ρ H kvs ks → intsOf (kvs.map (·.1)) = some is → ks.map (·.1) = is.map Sum.inl
  | _, _, is, .nil, e => by simp [intsOf] at e; subst e; rfl
  | _, _, is, .cons (k := k) e q r, e2 => by
    cases k <;> simp [keyOf] at e <;> simp [intsOf] at e2
    subst e
    obtain ⟨l, h1, h2⟩ := e2
    subst h2
    simp [RepKs.intKeys r h1]
theorem RepV.flat {p : PV} {v : V} (r : RepV K ρ H p v) (e : flatP p = true) : flatV v = true := by
  cases r <;> first | rfl | (simp [flatP] at e)
theorem RepVs.flat : ∀ {ps : List PV} {vs : List V}, RepVs K ρ H ps vs → ps.all flatP = true → vs.all flatV = true
  | _, _, .nil, _ => rfl
  | _, _, .cons q r, e => by
    simp only [List.all_cons, Bool.and_eq_true] at e ⊢
    exact ⟨q.flat e.1, r.flat e.2⟩
theorem flatEq_V {p q : PV} {v u : V} (r : RepV K ρ H p v) (t : RepV K ρ H q u) (e1 : flatP p = true) (e2 : flatP q = true) : eqV v u = flatEq p q := by
  cases r <;> simp [flatP] at e1 <;> cases t <;> simp [flatP] at e2 <;> simp [eqV, flatEq, Bool.beq_eq_decide_eq]
theorem flatAny {q : PV} {u : V} (t : RepV K ρ H q u) (e2 : flatP q = true) : ∀ {ps : List PV} {vs : List V}, RepVs K ρ H ps vs → ps.all flatP = true → inV u vs = ps.any fun y => flatEq y q
  | _, _, .nil, _ => rfl
  | _, _, .cons p r, e => by
    simp only [List.all_cons, Bool.and_eq_true] at e
    have ih := flatAny t e2 r e.2
    unfold inV at ih ⊢
    rw [List.any_cons, List.any_cons, flatEq_V p t e.1 e2, ih]
end

section
variable {X : Cx}
theorem sign_of {a : Str} (h : a.length = 1) : ∃ c, a = ⟨#[c]⟩ := by
  obtain ⟨l⟩ := a
  have h' : l.size = 1 := h
  refine ⟨l[0], ?_⟩
  congr 1
  apply Array.ext
  · simp [h']
  · intro i h1 h2
    have : i = 0 := by omega
    subst this
    simp
theorem op_inP (hu : X.A.units + 65 < cLine) : OpR X (compareOp .In) (rB X.K inB id) := by
  intro pins s σ H x y v u Q I rx ry h
  obtain ⟨ρ, h, p, q, S, rp, rq, po⟩ := h
  unfold inB at po
  split at po
  · rename_i b
    split at po
    · rename_i a
      split at po
      · rename_i hl
        cases rp; cases rq
        obtain ⟨c, rfl⟩ := sign_of hl
        refine op_in_sign pins s σ H _ _ v u Q I rx ry ⟨c, b, rfl, rfl, ?_⟩
        have := po.now S
        simpa using this
      · exact po.elim
    · exact po.elim
  · rename_i ys
    unfold inB.inL at po
    split at po
    · rename_i hf
      cases rq with
      | tup q1 r1 =>
        refine op_in_seq pins s σ H _ _ v u Q I rx ry ⟨_, _, rfl, .inr q1, rp.flat hf.1, r1.flat hf.2, ?_⟩
        rw [flatAny rp hf.1 r1 hf.2]
        exact po.now S
    · exact po.elim
  · rename_i l
    cases rq with
    | ref ea =>
      split at po
      · rename_i ys h1
        obtain ⟨xs, e1, r1⟩ := S.lst h1 ea
        split at po
        · rename_i hf
          refine op_in_seq pins s σ H _ _ v u Q I rx ry ⟨_, _, rfl, .inl (SqL.of e1), rp.flat hf.1, r1.flat hf.2, ?_⟩
          rw [flatAny rp hf.1 r1 hf.2]
          exact po.now S
        · unfold inDeep at po
          split at po
          · rename_i d ds e2 e3
            split at po
            · rename_i hs
              exact op_inD hu pins s σ H _ _ v u Q I rx ry ⟨d, ds, datum_ok S _ _ _ _ e2 rp, .lst (SqL.of e1) (dataL_all (fun p v d => datum_ok S _ p v d) e3 r1), hs.1, hs.2, po.now S⟩
            · exact po.elim
          · exact po.elim
      · rename_i kvs h1
        obtain ⟨xs, e1, r1⟩ := S.dic h1 ea
        split at po
        · rename_i hk
          obtain ⟨kk, ek⟩ := keyOf_some hk
          cases ry
          refine d_in (o := valV xs kk) (by omega) I (.inl ⟨xs, kk, .inl e1, keyOf_V ek rp, rfl⟩) rx fun s' I' => ⟨.bl _, H, I', rfl, ?_⟩
          rw [r1.someK ek]
          exact po.now S
        · exact po.elim
      · rename_i kvs h1
        obtain ⟨o, xs, e1, r1⟩ := S.lck h1 ea
        split at po
        · rename_i hk
          obtain ⟨kk, ek⟩ := keyOf_some hk
          cases ry
          refine d_in (o := valV xs kk) (by omega) I (.inl ⟨xs, kk, .inr ⟨o, e1⟩, keyOf_V ek rp, rfl⟩) rx fun s' I' => ⟨.bl _, H, I', rfl, ?_⟩
          rw [r1.someK ek]
          exact po.now S
        · exact po.elim
      · exact po.elim
  · exact po.elim
theorem op_notInP (hu : X.A.units + 65 < cLine) : OpR X (compareOp .NotIn) (rB X.K inB (!·)) := by
  intro pins s σ H x y v u Q I rx ry h
  obtain ⟨ρ, h, p, q, S, rp, rq, po⟩ := h
  unfold inB at po
  split at po
  · rename_i b
    split at po
    · rename_i a
      split at po
      · rename_i hl
        cases rp; cases rq
        obtain ⟨c, rfl⟩ := sign_of hl
        refine op_notIn_sign pins s σ H _ _ v u Q I rx ry ⟨c, b, rfl, rfl, ?_⟩
        have := po.now S
        simpa using this
      · exact po.elim
    · exact po.elim
  · rename_i ys
    unfold inB.inL at po
    split at po
    · rename_i hf
      cases rq with
      | tup q1 r1 =>
        refine op_notIn_seq pins s σ H _ _ v u Q I rx ry ⟨_, _, rfl, .inr q1, rp.flat hf.1, r1.flat hf.2, ?_⟩
        rw [flatAny rp hf.1 r1 hf.2]
        exact po.now S
    · exact po.elim
  · rename_i l
    cases rq with
    | ref ea =>
      split at po
      · rename_i ys h1
        obtain ⟨xs, e1, r1⟩ := S.lst h1 ea
        split at po
        · rename_i hf
          refine op_notIn_seq pins s σ H _ _ v u Q I rx ry ⟨_, _, rfl, .inl (SqL.of e1), rp.flat hf.1, r1.flat hf.2, ?_⟩
          rw [flatAny rp hf.1 r1 hf.2]
          exact po.now S
        · unfold inDeep at po
          split at po
          · rename_i d ds e2 e3
            split at po
            · rename_i hs
              exact op_notInD hu pins s σ H _ _ v u Q I rx ry ⟨d, ds, datum_ok S _ _ _ _ e2 rp, .lst (SqL.of e1) (dataL_all (fun p v d => datum_ok S _ p v d) e3 r1), hs.1, hs.2, po.now S⟩
            · exact po.elim
          · exact po.elim
      · rename_i kvs h1
        obtain ⟨xs, e1, r1⟩ := S.dic h1 ea
        split at po
        · rename_i hk
          obtain ⟨kk, ek⟩ := keyOf_some hk
          cases ry
          refine d_notIn (o := valV xs kk) (by omega) I (.inl ⟨xs, kk, .inl e1, keyOf_V ek rp, rfl⟩) rx fun s' I' => ⟨.bl _, H, I', rfl, ?_⟩
          rw [r1.someK ek]
          exact po.now S
        · exact po.elim
      · rename_i kvs h1
        obtain ⟨o, xs, e1, r1⟩ := S.lck h1 ea
        split at po
        · rename_i hk
          obtain ⟨kk, ek⟩ := keyOf_some hk
          cases ry
          refine d_notIn (o := valV xs kk) (by omega) I (.inl ⟨xs, kk, .inr ⟨o, e1⟩, keyOf_V ek rp, rfl⟩) rx fun s' I' => ⟨.bl _, H, I', rfl, ?_⟩
          rw [r1.someK ek]
          exact po.now S
        · exact po.elim
      · exact po.elim
  · exact po.elim

theorem rB_of {K : Fg} {ρ : List Addr} {H : Hp} {h : PH} {g : PV → PV → PH → Out Bool} {f : Bool → Bool} {p q : PV} {x y : V} {Q : VK} (S : Sim K ρ h H) (rp : RepV K ρ H p x) (rq : RepV K ρ H q y)
    (po : PostV K ρ H ((g p q h).bnd fun b h => .ok (.bl (f b)) h) Q) : rB K g f x y H Q := by
  refine ⟨ρ, h, p, q, S, rp, rq, (PostG.bnd po).mono fun b ρ' H' _ ⟨h', S', po'⟩ => ?_⟩
  exact PostV.now po' S' (.bl _)
/-- a comparison, by plain values -/
theorem op_cmp (hu : X.A.units + 65 < cLine) (op : CmpOp) : OpR X (compareOp op) (r2 X.K (cmpF op)) := by
  intro pins s σ H x y v u Q I rx ry h
  obtain ⟨ρ, h, p, q, S, rp, rq, po⟩ := h
  unfold cmpF at po
  split at po
  · exact op_eqP (by omega) pins s σ H x y v u Q I rx ry (rB_of (f := id) S rp rq po)
  · exact op_neP (by omega) pins s σ H x y v u Q I rx ry (rB_of (f := (!·)) S rp rq po)
  · exact op_inP (by omega) pins s σ H x y v u Q I rx ry (rB_of (f := id) S rp rq po)
  · exact op_notInP (by omega) pins s σ H x y v u Q I rx ry (rB_of (f := (!·)) S rp rq po)
  · split at po
    · cases rq
      refine op_isN pins s σ H _ _ v u Q I rx ry ⟨rfl, ?_⟩
      split at po
      · cases rp
        exact po.now S (.bl _)
      · have e : decide (x = .non) = false := by
          cases rp <;> first | rfl | (rename_i hn; exact absurd rfl hn)
        rw [e]
        exact po.now S (.bl _)
    · exact po.elim
  · split at po
    · cases rq
      refine op_notN pins s σ H _ _ v u Q I rx ry ⟨rfl, ?_⟩
      split at po
      · cases rp
        exact po.now S (.bl _)
      · have e : decide (x = .non) = false := by
          cases rp <;> first | rfl | (rename_i hn; exact absurd rfl hn)
        rw [e]
        exact po.now S (.bl _)
    · exact po.elim
  · split at po
    · cases rp; cases rq
      exact op_lt pins s σ H _ _ v u Q I rx ry ⟨_, _, rfl, rfl, po.now S (.bl _)⟩
    · exact po.elim
  · split at po
    · cases rp; cases rq
      exact op_le pins s σ H _ _ v u Q I rx ry ⟨_, _, rfl, rfl, po.now S (.bl _)⟩
    · exact po.elim
  · split at po
    · cases rp; cases rq
      exact op_gt pins s σ H _ _ v u Q I rx ry ⟨_, _, rfl, rfl, po.now S (.bl _)⟩
    · exact po.elim
  · split at po
    · cases rp; cases rq
      exact op_ge pins s σ H _ _ v u Q I rx ry ⟨_, _, rfl, rfl, po.now S (.bl _)⟩
    · exact po.elim
end
end MP

set_option Elab.async false
set_option linter.all false
set_option maxRecDepth 100000
set_option maxHeartbeats 1000000
namespace MP
open PySem PySem.Spec PyProof.Rows L2

/-- an expression's reading, by its plain function -/
def lE (K : Fg) (f : PSt → PH → Out PV) : TE := fun σ H Q => ∃ ρ s h, Sim K ρ h H ∧ RepSt K ρ H s σ ∧ PostV K ρ H (f s h) Q
def lB (K : Fg) (f : PSt → PH → Out Bool) : TT := fun σ H Q => ∃ ρ s h, Sim K ρ h H ∧ RepSt K ρ H s σ ∧ PostG K ρ H (f s h) fun b _ H' => Q b H'
def lA (K : Fg) (f : PSt → PH → Out (List PV)) : TA := fun σ H Q => ∃ ρ s h, Sim K ρ h H ∧ RepSt K ρ H s σ ∧ PostG K ρ H (f s h) fun vs ρ' H' => ∀ us, RepVs K ρ' H' vs us → Q us H'
def lP (K : Fg) (f : PSt → PH → Out (Option Int)) : TO := fun σ H Q => ∃ ρ s h, Sim K ρ h H ∧ RepSt K ρ H s σ ∧ PostG K ρ H (f s h) fun b _ H' => Q b H'
def lG (K : Fg) (f : PV → PSt → PH → Out PSt) : TG := fun v σ H Q => ∃ ρ s h p, Sim K ρ h H ∧ RepSt K ρ H s σ ∧ RepV K ρ H p v ∧ PostG K ρ H (f p s h) fun s' ρ' H' => ∀ σ', RepSt K ρ' H' s' σ' → Q σ' H'
def lC (K : Fg) (f : List PV → PH → Out PV) : List V → Hp → VK → Prop := fun xs H Q => ∃ ρ h ps, Sim K ρ h H ∧ RepVs K ρ H ps xs ∧ PostV K ρ H (f ps h) Q

section
variable {K : Fg} {ρ : List Addr} {H : Hp} {h : PH} {σ : L2.St} {s : PSt}
/-- the first part of a computation -/
theorem lE.first {α : Type} {f : PSt → PH → Out PV} {g : PV → PH → Out α} {R : α → List Addr → Hp → Prop} {Q : VK} (S : Sim K ρ h H) (Rs : RepSt K ρ H s σ) (po : PostG K ρ H ((f s h).bnd g) R)
    (k : ∀ v ρ' H' h' u, Ext K ρ H ρ' H' → Sim K ρ' h' H' → RepSt K ρ' H' s σ → f s h = .ok v h' → RepV K ρ' H' v u → PostG K ρ' H' (g v h') R → Q u H') : lE K f σ H Q := by
  refine ⟨ρ, s, h, S, Rs, ?_⟩
  cases e : f s h with
  | ok v h' =>
    rw [e] at po
    intro ρ' H' x S' u ru
    exact k v ρ' H' h' u x S' (Rs.ext x) e ru (PostG.ext (o := g v h') po x)
  | exc _ _ => rw [e] at po; exact po.elim
  | bad => rw [e] at po; exact po.elim
theorem lB.first {α : Type} {f : PSt → PH → Out Bool} {g : Bool → PH → Out α} {R : α → List Addr → Hp → Prop} {Q : Bool → Hp → Prop} (S : Sim K ρ h H) (Rs : RepSt K ρ H s σ) (po : PostG K ρ H ((f s h).bnd g) R)
    (k : ∀ v ρ' H' h', Ext K ρ H ρ' H' → Sim K ρ' h' H' → RepSt K ρ' H' s σ → f s h = .ok v h' → PostG K ρ' H' (g v h') R → Q v H') : lB K f σ H Q := by
  refine ⟨ρ, s, h, S, Rs, ?_⟩
  cases e : f s h with
  | ok v h' =>
    rw [e] at po
    intro ρ' H' x S'
    exact k v ρ' H' h' x S' (Rs.ext x) e (PostG.ext (o := g v h') po x)
  | exc _ _ => rw [e] at po; exact po.elim
  | bad => rw [e] at po; exact po.elim
theorem lP.first {α : Type} {f : PSt → PH → Out (Option Int)} {g : Option Int → PH → Out α} {R : α → List Addr → Hp → Prop} {Q : Option Int → Hp → Prop} (S : Sim K ρ h H) (Rs : RepSt K ρ H s σ) (po : PostG K ρ H ((f s h).bnd g) R)
    (k : ∀ v ρ' H' h', Ext K ρ H ρ' H' → Sim K ρ' h' H' → RepSt K ρ' H' s σ → f s h = .ok v h' → PostG K ρ' H' (g v h') R → Q v H') : lP K f σ H Q := by
  refine ⟨ρ, s, h, S, Rs, ?_⟩
  cases e : f s h with
  | ok v h' =>
    rw [e] at po
    intro ρ' H' x S'
    exact k v ρ' H' h' x S' (Rs.ext x) e (PostG.ext (o := g v h') po x)
  | exc _ _ => rw [e] at po; exact po.elim
  | bad => rw [e] at po; exact po.elim
theorem lA.first {α : Type} {f : PSt → PH → Out (List PV)} {g : List PV → PH → Out α} {R : α → List Addr → Hp → Prop} {Q : List V → Hp → Prop} (S : Sim K ρ h H) (Rs : RepSt K ρ H s σ) (po : PostG K ρ H ((f s h).bnd g) R)
    (k : ∀ v ρ' H' h' u, Ext K ρ H ρ' H' → Sim K ρ' h' H' → RepSt K ρ' H' s σ → f s h = .ok v h' → RepVs K ρ' H' v u → PostG K ρ' H' (g v h') R → Q u H') : lA K f σ H Q := by
  refine ⟨ρ, s, h, S, Rs, ?_⟩
  cases e : f s h with
  | ok v h' =>
    rw [e] at po
    intro ρ' H' x S' u ru
    exact k v ρ' H' h' u x S' (Rs.ext x) e ru (PostG.ext (o := g v h') po x)
  | exc _ _ => rw [e] at po; exact po.elim
  | bad => rw [e] at po; exact po.elim
theorem PostG.okOf {α β : Type} {o : Out α} {g : α → PH → Out β} {R : β → List Addr → Hp → Prop} (po : PostG K ρ H (o.bnd g) R) : ∃ v h', o = .ok v h' ∧ PostG K ρ H (g v h') R := by
  cases o with
  | ok v h' => exact ⟨v, h', rfl, po⟩
  | exc _ _ => exact po.elim
  | bad => exact po.elim
end

/-! ### expressions -/
section
variable {X : Cx} {a b c : Expr} {fa fb fc : PSt → PH → Out PV} {pos : Pos}
theorem _root_.L2.PE.weak {e : Expr} {t t' : TE} (h : PE X e t) (w : ∀ σ H Q, t' σ H Q → t σ H Q) : PE X e t' := ⟨fun pins s σ H Q I q => h.run pins s σ H Q I (w σ H Q q)⟩
theorem _root_.L2.PT.weak {e : Expr} {t t' : TT} (h : PT X e t) (w : ∀ σ H Q, t' σ H Q → t σ H Q) : PT X e t' := ⟨fun pins s σ H Q I q => h.run pins s σ H Q I (w σ H Q q)⟩
theorem _root_.L2.PW.weak {e : Expr} {t t' : TT} (h : PW X e t) (w : ∀ σ H Q, t' σ H Q → t σ H Q) : PW X e t' := ⟨fun wh pins s σ H Q I q => h.run wh pins s σ H Q I (w σ H Q q)⟩
theorem _root_.L2.PA.weak {e : List Expr} {t t' : TA} (h : PA X e t) (w : ∀ σ H Q, t' σ H Q → t σ H Q) : PA X e t' := ⟨fun pos pins s σ H Q I q => h.run pos pins s σ H Q I (w σ H Q q)⟩

theorem se_const {e : Expr} {v : PV} {u : V} (h : PE X e (tC u)) (r : ∀ ρ H, RepV X.K ρ H v u) : PE X e (lE X.K fun _ h => .ok v h) := h.weak fun σ H Q ⟨ρ, s, h, S, R, po⟩ => po.now S (r ρ H)
theorem se_var {x : Str} {i : Nat} (hN : X.N[i]? = some x) (hv : Vis X.env.scope x) (hd : (x == ("__debug__" : Str)) = false) (hcd : (x == ("__classdict__" : Str)) = false) : PE X (.Name x pos) (lE X.K fun s h => slot s i h) :=
  (pe_var hN hv hd hcd).weak fun σ H Q ⟨ρ, s, h, S, R, po⟩ => by
    simp only [slot] at po
    split at po
    · rename_i v e
      obtain ⟨u, e1, r⟩ := R.2 i v e
      exact ⟨u, e1, PostV.now po S r⟩
    · exact po.elim
theorem se_two {r : R2} {g : PV → PV → PH → Out PV} (hr : ∀ ρ H h p q x y Q, Sim X.K ρ h H → RepV X.K ρ H p x → RepV X.K ρ H q y → PostV X.K ρ H (g p q h) Q → r x y H Q) {σ : L2.St} {H : Hp} {Q : VK}
    (h : lE X.K (fun s h => (fa s h).bnd fun x h => (fb s h).bnd fun y h => g x y h) σ H Q) : tOp r (lE X.K fa) (lE X.K fb) σ H Q := by
  obtain ⟨ρ, s, h, S, R, po⟩ := h
  refine lE.first S R po fun v ρ1 H1 h1 u x1 S1 R1 e1 ru po1 => lE.first S1 R1 po1 fun w ρ2 H2 h2 z x2 S2 R2 e2 rz po2 => ?_
  exact hr ρ2 H2 h2 v w u z Q S2 (ru.ext x2) rz po2
theorem se_bin {op : Operator} (ha : PE X a (lE X.K fa)) (hb : PE X b (lE X.K fb)) : PE X (.BinOp a op b pos) (lE X.K fun s h => (fa s h).bnd fun x h => (fb s h).bnd fun y h => binF op x y h) :=
  (pe_op (op_bin op) ha hb).weak fun σ H Q h => se_two (fun ρ H h p q x y Q S rp rq po => ⟨ρ, h, p, q, S, rp, rq, po⟩) h
theorem se_cmp {op : CmpOp} (hu : X.A.units + 65 < cLine) (ha : PE X a (lE X.K fa)) (hb : PE X b (lE X.K fb)) (hm : behindInMarks op b = false) :
    PE X (.Compare a [op] [b] pos) (lE X.K fun s h => (fa s h).bnd fun x h => (fb s h).bnd fun y h => cmpF op x y h) :=
  (pe_cmpR (op_cmp hu op) ha hb hm).weak fun σ H Q h => se_two (fun ρ H h p q x y Q S rp rq po => ⟨ρ, h, p, q, S, rp, rq, po⟩) h
theorem cmpF_bl {op : CmpOp} {x y z : PV} {h h' : PH} (e : cmpF op x y h = .ok z h') : ∃ b, z = .bl b := by
  unfold cmpF at e
  split at e
  · cases q : eqB x y h <;> rw [q] at e <;> first | (cases e; exact ⟨_, rfl⟩) | cases e
  · cases q : eqB x y h <;> rw [q] at e <;> first | (cases e; exact ⟨_, rfl⟩) | cases e
  · cases q : inB x y h <;> rw [q] at e <;> first | (cases e; exact ⟨_, rfl⟩) | cases e
  · cases q : inB x y h <;> rw [q] at e <;> first | (cases e; exact ⟨_, rfl⟩) | cases e
  all_goals (repeat' split at e) <;> first | (cases e; exact ⟨_, rfl⟩) | cases e
theorem st_cmp {op : CmpOp} (hu : X.A.units + 65 < cLine) (ha : PE X a (lE X.K fa)) (hb : PE X b (lE X.K fb)) (hm : behindInMarks op b = false) :
    PT X (.Compare a [op] [b] pos) (lB X.K fun s h => (fa s h).bnd fun x h => (fb s h).bnd fun y h => (cmpF op x y h).bnd asB) :=
  (pt_cmpR (op_cmp hu op) ha hb hm).weak fun σ H Q h => by
    obtain ⟨ρ, s, h, S, R, po⟩ := h
    refine lE.first S R po fun v ρ1 H1 h1 u x1 S1 R1 e1 ru po1 => lE.first S1 R1 po1 fun w ρ2 H2 h2 z x2 S2 R2 e2 rz po2 => ?_
    refine ⟨ρ2, h2, v, w, S2, ru.ext x2, rz, ?_⟩
    obtain ⟨t, h3, e3, po3⟩ := po2.okOf
    rw [e3]
    obtain ⟨k, rfl⟩ := cmpF_bl e3
    intro ρ3 H3 x3 S3 V rV
    exact ⟨k, rV.blV, po3 ρ3 H3 x3 S3⟩
theorem se_cmp2 {op op' : CmpOp} (hu : X.A.units + 65 < cLine) (ha : PE X a (lE X.K fa)) (hb : PE X b (lE X.K fb)) (hc : PE X c (lE X.K fc)) (hm : lastMarks [op, op'] [b, c] = false) :
    PE X (.Compare a [op, op'] [b, c] pos) (lE X.K fun s h => (fa s h).bnd fun x h => (fb s h).bnd fun y h => (cmpF op x y h).bnd fun z h => (asB z h).bnd fun k h =>
      if k = true then (fc s h).bnd fun w h => cmpF op' y w h else .ok (.bl false) h) :=
  (pe_chain (op_cmp hu op) (op_cmp hu op') ha hb hc hm).weak fun σ H Q h => by
    obtain ⟨ρ, s, h, S, R, po⟩ := h
    refine lE.first S R po fun v ρ1 H1 h1 u x1 S1 R1 e1 ru po1 => lE.first S1 R1 po1 fun w ρ2 H2 h2 z x2 S2 R2 e2 rz po2 => ?_
    refine ⟨ρ2, h2, v, w, S2, ru.ext x2, rz, ?_⟩
    obtain ⟨t, h3, e3, po3⟩ := po2.okOf
    rw [e3]
    obtain ⟨k, rfl⟩ := cmpF_bl e3
    intro ρ3 H3 x3 S3 V rV
    refine ⟨k, rV.blV, ?_⟩
    have po4 := PostG.ext po3 x3
    cases k with
    | true =>
      rw [if_pos rfl]
      exact lE.first S3 (R2.ext x3) po4 fun v4 ρ4 H4 h4 u4 x4 S4 R4 e4 ru4 po5 => ⟨ρ4, h4, w, v4, S4, (rz.ext x3).ext x4, ru4, po5⟩
    | false =>
      rw [if_neg Bool.false_ne_true]
      exact PostV.now po4 S3 (.bl false)
theorem st_cmp2 {op op' : CmpOp} (hu : X.A.units + 65 < cLine) (ha : PE X a (lE X.K fa)) (hb : PE X b (lE X.K fb)) (hc : PE X c (lE X.K fc)) (hm : lastMarks [op, op'] [b, c] = false) :
    PT X (.Compare a [op, op'] [b, c] pos) (lB X.K fun s h => (fa s h).bnd fun x h => (fb s h).bnd fun y h => (cmpF op x y h).bnd fun z h => (asB z h).bnd fun k h =>
      if k = true then (fc s h).bnd fun w h => (cmpF op' y w h).bnd asB else .ok false h) :=
  (pt_chain (op_cmp hu op) (op_cmp hu op') ha hb hc hm).weak fun σ H Q h => by
    obtain ⟨ρ, s, h, S, R, po⟩ := h
    refine lE.first S R po fun v ρ1 H1 h1 u x1 S1 R1 e1 ru po1 => lE.first S1 R1 po1 fun w ρ2 H2 h2 z x2 S2 R2 e2 rz po2 => ?_
    refine ⟨ρ2, h2, v, w, S2, ru.ext x2, rz, ?_⟩
    obtain ⟨t, h3, e3, po3⟩ := po2.okOf
    rw [e3]
    obtain ⟨k, rfl⟩ := cmpF_bl e3
    intro ρ3 H3 x3 S3 V rV
    refine ⟨k, rV.blV, ?_⟩
    have po4 := PostG.ext po3 x3
    cases k with
    | true =>
      rw [if_pos rfl]
      refine lE.first S3 (R2.ext x3) po4 fun v4 ρ4 H4 h4 u4 x4 S4 R4 e4 ru4 po5 => ⟨ρ4, h4, w, v4, S4, (rz.ext x3).ext x4, ru4, ?_⟩
      obtain ⟨t5, h5, e5, po6⟩ := po5.okOf
      rw [e5]
      obtain ⟨k5, rfl⟩ := cmpF_bl e5
      intro ρ6 H6 x6 S6 V6 rV6
      exact ⟨k5, rV6.blV, po6 ρ6 H6 x6 S6⟩
    | false =>
      rw [if_neg Bool.false_ne_true]
      exact ⟨false, rfl, PostG.now po4 S3⟩
theorem se_neg (ha : PE X a (lE X.K fa)) : PE X (.UnaryOp .USub a pos) (lE X.K fun s h => (fa s h).bnd fun x h => match x with
    | .int i => .ok (.int (-i)) h
    | _ => .bad) :=
  (pe_un un_neg ha).weak fun σ H Q h => by
    obtain ⟨ρ, s, h, S, R, po⟩ := h
    refine lE.first S R po fun v ρ1 H1 h1 u x1 S1 R1 e1 ru po1 => ?_
    split at po1
    · exact ⟨_, ru.intV, PostV.now po1 S1 (.int _)⟩
    · exact po1.elim

/-! truth -/
theorem truth_V {ρ : List Addr} {H : Hp} {h h' : PH} {p : PV} {v : V} {k : Bool} (S : Sim X.K ρ h H) (r : RepV X.K ρ H p v) (e : truth p h = .ok k h') : h' = h ∧ TruV X.K v H k := by
  unfold truth at e
  cases r with
  | non => cases e; exact ⟨rfl, rfl⟩
  | bl b => cases e; exact ⟨rfl, rfl⟩
  | int i => cases e; exact ⟨rfl, rfl⟩
  | str x =>
    dsimp only at e
    split at e
    · rename_i hz
      cases e
      refine ⟨rfl, hz, ?_⟩
      rw [Bool.eq_iff_iff]
      simp
    · cases e
  | tup q t => cases e; exact ⟨rfl, .inr (.inl ⟨_, q, by rw [t.isEmpty]⟩)⟩
  | fro _ _ => cases e
  | ref ea =>
    dsimp only at e
    split at e
    · rename_i h1
      cases e
      obtain ⟨xs, e1, t⟩ := S.lst h1 ea
      exact ⟨rfl, .inl ⟨_, SqL.of e1, by rw [t.isEmpty]⟩⟩
    · rename_i h1
      cases e
      obtain ⟨xs, e1, t⟩ := S.dic h1 ea
      exact ⟨rfl, .inr (.inr ⟨_, e1, by rw [t.isEmpty]⟩)⟩
    · cases e
theorem truth_P {ρ : List Addr} {H : Hp} {h : PH} {p : PV} {v : V} {α : Type} {g : Bool → PH → Out α} {R : α → List Addr → Hp → Prop} (S : Sim X.K ρ h H) (r : RepV X.K ρ H p v) (po : PostG X.K ρ H ((truth p h).bnd g) R) : ∃ k, TruV X.K v H k ∧ PostG X.K ρ H (g k h) R := by
  obtain ⟨k, h', e, po'⟩ := po.okOf
  obtain ⟨eh, t⟩ := truth_V S r e
  subst eh
  exact ⟨k, t, po'⟩
theorem st_plain (ha : PE X a (lE X.K fa)) (he : ∀ whole, isTrue a X.env whole = (do let v ← whole; standAt a.pos; holding [v] (truthy v))) : PT X a (lB X.K fun s h => (fa s h).bnd truth) :=
  (pt_truth ha he).weak fun σ H Q h => by
    obtain ⟨ρ, s, h, S, R, po⟩ := h
    refine lE.first S R po fun v ρ1 H1 h1 u x1 S1 R1 e1 ru po1 => ?_
    have po1 : PostG X.K ρ1 H1 ((truth v h1).bnd fun k h => .ok k h) fun b _ H' => Q b H' := by
      cases e : truth v h1 <;> rw [e] at po1 <;> exact po1
    obtain ⟨k, t, q⟩ := truth_P S1 ru po1
    exact ⟨k, t, q.now S1⟩
variable {rest : List Expr}
theorem se_and (ha : PE X a (lE X.K fa)) (hb : PE X (.BoolOp .And (b :: rest) pos) (lE X.K fb)) : PE X (.BoolOp .And (a :: b :: rest) pos) (lE X.K fun s h => (fa s h).bnd fun x h => (truth x h).bnd fun k h => if k = true then fb s h else .ok x h) :=
  (pe_andT ha hb).weak fun σ H Q h => by
    obtain ⟨ρ, s, h, S, R, po⟩ := h
    refine lE.first S R po fun v ρ1 H1 h1 u x1 S1 R1 e1 ru po1 => ?_
    obtain ⟨k, t, q⟩ := truth_P S1 ru po1
    refine ⟨k, t, ?_⟩
    cases k with
    | true => rw [if_pos rfl] at q ⊢; exact ⟨ρ1, s, h1, S1, R1, q⟩
    | false => rw [if_neg Bool.false_ne_true] at q ⊢; exact PostV.now q S1 ru
theorem se_or (ha : PE X a (lE X.K fa)) (hb : PE X (.BoolOp .Or (b :: rest) pos) (lE X.K fb)) : PE X (.BoolOp .Or (a :: b :: rest) pos) (lE X.K fun s h => (fa s h).bnd fun x h => (truth x h).bnd fun k h => if k = true then .ok x h else fb s h) :=
  (pe_orT ha hb).weak fun σ H Q h => by
    obtain ⟨ρ, s, h, S, R, po⟩ := h
    refine lE.first S R po fun v ρ1 H1 h1 u x1 S1 R1 e1 ru po1 => ?_
    obtain ⟨k, t, q⟩ := truth_P S1 ru po1
    refine ⟨k, t, ?_⟩
    cases k with
    | true => rw [if_pos rfl] at q ⊢; exact PostV.now q S1 ru
    | false => rw [if_neg Bool.false_ne_true] at q ⊢; exact ⟨ρ1, s, h1, S1, R1, q⟩
theorem se_not (ha : PE X a (lE X.K fa)) : PE X (.UnaryOp .Not a pos) (lE X.K fun s h => (fa s h).bnd fun x h => (truth x h).bnd fun k h => .ok (.bl (!k)) h) :=
  (pe_notT ha).weak fun σ H Q h => by
    obtain ⟨ρ, s, h, S, R, po⟩ := h
    refine lE.first S R po fun v ρ1 H1 h1 u x1 S1 R1 e1 ru po1 => ?_
    obtain ⟨k, t, q⟩ := truth_P S1 ru po1
    exact ⟨k, t, PostV.now q S1 (.bl _)⟩
variable {ga gb gc : PSt → PH → Out Bool}
theorem sw_and (ha : PT X a (lB X.K ga)) (hb : PW X (.BoolOp .And (b :: rest) pos) (lB X.K gb)) : PW X (.BoolOp .And (a :: b :: rest) pos) (lB X.K fun s h => (ga s h).bnd fun k h => if k = true then gb s h else .ok false h) :=
  (pw_and ha hb).weak fun σ H Q h => by
    obtain ⟨ρ, s, h, S, R, po⟩ := h
    refine lB.first S R po fun k ρ1 H1 h1 x1 S1 R1 e1 po1 => ?_
    cases k with
    | true => rw [if_pos rfl] at po1 ⊢; exact ⟨ρ1, s, h1, S1, R1, po1⟩
    | false => rw [if_neg Bool.false_ne_true] at po1 ⊢; exact po1.now S1
theorem sw_or (ha : PT X a (lB X.K ga)) (hb : PW X (.BoolOp .Or (b :: rest) pos) (lB X.K gb)) : PW X (.BoolOp .Or (a :: b :: rest) pos) (lB X.K fun s h => (ga s h).bnd fun k h => if k = true then .ok true h else gb s h) :=
  (pw_or ha hb).weak fun σ H Q h => by
    obtain ⟨ρ, s, h, S, R, po⟩ := h
    refine lB.first S R po fun k ρ1 H1 h1 x1 S1 R1 e1 po1 => ?_
    cases k with
    | true => rw [if_pos rfl] at po1 ⊢; exact po1.now S1
    | false => rw [if_neg Bool.false_ne_true] at po1 ⊢; exact ⟨ρ1, s, h1, S1, R1, po1⟩
theorem st_not (ha : PT X a (lB X.K ga)) : PT X (.UnaryOp .Not a pos) (lB X.K fun s h => (ga s h).bnd fun k h => .ok (!k) h) :=
  (pt_not ha).weak fun σ H Q h => by
    obtain ⟨ρ, s, h, S, R, po⟩ := h
    exact lB.first S R po fun k ρ1 H1 h1 x1 S1 R1 e1 po1 => po1.now S1
theorem se_ite (hc : PT X c (lB X.K gc)) (ha : PE X a (lE X.K fa)) (hb : PE X b (lE X.K fb)) : PE X (.IfExp c a b pos) (lE X.K fun s h => (gc s h).bnd fun k h => if k = true then fa s h else fb s h) :=
  (pe_ifExp hc ha hb).weak fun σ H Q h => by
    obtain ⟨ρ, s, h, S, R, po⟩ := h
    refine lB.first S R po fun k ρ1 H1 h1 x1 S1 R1 e1 po1 => ?_
    cases k with
    | true => rw [if_pos rfl] at po1 ⊢; exact ⟨ρ1, s, h1, S1, R1, po1⟩
    | false => rw [if_neg Bool.false_ne_true] at po1 ⊢; exact ⟨ρ1, s, h1, S1, R1, po1⟩
/-! displays -/
variable {es : List Expr} {fs : PSt → PH → Out (List PV)}
theorem sa_nil : PA X [] (lA X.K fun _ h => .ok [] h) := pa_nil.weak fun σ H Q ⟨ρ, s, h, S, R, po⟩ => po ρ H .refl S [] .nil
theorem sa_cons (ha : PE X a (lE X.K fa)) (hr : PA X es (lA X.K fs)) (hs : starEach (a :: es) X.env = (false, eval a X.env) :: starEach es X.env) : PA X (a :: es) (lA X.K fun s h => (fa s h).bnd fun x h => (fs s h).bnd fun xs h => .ok (x :: xs) h) :=
  (pa_cons ha hr hs).weak fun σ H Q h => by
    obtain ⟨ρ, s, h, S, R, po⟩ := h
    refine lE.first S R po fun v ρ1 H1 h1 u x1 S1 R1 e1 ru po1 => ?_
    refine lA.first S1 R1 po1 fun w ρ2 H2 h2 z x2 S2 R2 e2 rz po2 => ?_
    exact po2 ρ2 H2 .refl S2 _ (.cons (ru.ext x2) rz)
theorem se_tup {k : Nat} (h : PA X es (lA X.K fs)) : PE X (.Tuple es k pos) (lE X.K fun s h => (fs s h).bnd fun xs h => if xs.length ≤ sizeLine then .ok (.tup xs) h else .bad) :=
  (pe_tup h).weak fun σ H Q h => by
    obtain ⟨ρ, s, h, S, R, po⟩ := h
    refine lA.first S R po fun v ρ1 H1 h1 u x1 S1 R1 e1 ru po1 => ?_
    split at po1
    · rename_i hz
      exact ⟨by rw [← ru.length]; exact hz, PostV.tup po1 S1 ru⟩
    · exact po1.elim
theorem se_lst (h : PA X es (lA X.K fs)) : PE X (.List es pos) (lE X.K fun s h => (fs s h).bnd fun xs h => if xs.length ≤ sizeLine then new (.lst xs) h else .bad) :=
  (pe_lst h).weak fun σ H Q h => by
    obtain ⟨ρ, s, h, S, R, po⟩ := h
    refine lA.first S R po fun v ρ1 H1 h1 u x1 S1 R1 e1 ru po1 => ?_
    split at po1
    · rename_i hz
      exact ⟨by rw [← ru.length]; exact hz, PostV.newL po1 S1 ru⟩
    · exact po1.elim
/-! subscripts -/
theorem se_sub (hu : X.A.units + 65 < cLine) (ha : PE X a (lE X.K fa)) (hb : PE X b (lE X.K fb)) (hs : PlainIx b) : PE X (.Subscript a b pos) (lE X.K fun s h => (fa s h).bnd fun x h => (fb s h).bnd fun y h => subF x y h) := by
  refine ⟨fun pins s σ H Q I h => ?_⟩
  obtain ⟨ρ, s', h, S, R, po⟩ := h
  obtain ⟨p, h1, e1, po1⟩ := po.okOf
  obtain ⟨q, h2, e2, po2⟩ := po1.okOf
  have two : ∀ {r : V → V → Hp → Prop}, (∀ ρ2 H2 x y, Sim X.K ρ2 h2 H2 → RepV X.K ρ2 H2 p x → RepV X.K ρ2 H2 q y → PostV X.K ρ2 H2 (subF p q h2) Q → r x y H2) → lE X.K fa σ H fun x H1 => lE X.K fb σ H1 fun y H2 => r x y H2 := fun {r} k => by
    refine lE.first S R po fun v ρ1 H1 h1' u x1 S1 R1 e1' ru po1 => lE.first S1 R1 po1 fun w ρ2 H2 h2' z x2 S2 R2 e2' rz po2 => ?_
    rw [e1] at e1'; cases e1'
    rw [e2] at e2'; cases e2'
    exact k ρ2 H2 u z S2 (ru.ext x2) rz po2
  have item : ∀ {ρ2 H2 ps vs y}, RepVs X.K ρ2 H2 ps vs → Sim X.K ρ2 h2 H2 → RepV X.K ρ2 H2 q y → PostV X.K ρ2 H2 (itemF ps q h2) Q → ∃ i v, y = .int i ∧ atI vs i = some v ∧ Q v H2 := fun {ρ2 H2 ps vs y} r S2 ry po => by
    unfold itemF at po
    split at po
    · rename_i i
      split at po
      · rename_i v ev
        obtain ⟨j, hj, hv⟩ := Option.bind_eq_some_iff.mp ev
        obtain ⟨u, hu', ru⟩ := r.get hv
        exact ⟨i, u, ry.intV, by unfold atI; rw [← r.length]; exact Option.bind_eq_some_iff.mpr ⟨j, hj, hu'⟩, PostV.now po S2 ru⟩
      · exact po.elim
    · exact po.elim
  have dict : ∀ kvs, (∀ ρ2 H2 x, Sim X.K ρ2 h2 H2 → RepV X.K ρ2 H2 p x → ∃ a ks, x = .ref a ∧ Rd H2 a (.dK ks) ∧ RepKs X.K ρ2 H2 kvs ks) → subF p q h2 = lookF kvs q h2 →
      wpAny (model X.prog X.w) X.A (eval (.Subscript a b pos) X.env) (EP X pins σ Q) X.xe s := fun kvs hk hv => by
    refine (pe_dget (by omega) ha hb (fun _ _ => hs _ _)).run pins s σ H Q I (two fun ρ2 H2 x y S2 rx ry po => ?_)
    obtain ⟨a, ks, ex, rd, rk⟩ := hk ρ2 H2 x S2 rx
    rw [hv] at po
    unfold lookF at po
    split at po
    · rename_i k1
      split at po
      · rename_i v k2
        obtain ⟨kk, ek⟩ := keyOf_some k1
        obtain ⟨u, hu', ru⟩ := (rk.get ek).1 v k2
        exact ⟨a, u, ex, .inl ⟨ks, kk, rd, keyOf_V ek ry, hu'.symm⟩, PostV.now po S2 ru⟩
      · exact po.elim
    · exact po.elim
  cases p with
  | tup ps =>
    refine (pe_ix ix_tup ha hb hs).run pins s σ H Q I (two fun ρ2 H2 x y S2 rx ry po => ?_)
    cases rx with
    | tup q1 r1 =>
      obtain ⟨i, v, h1, h2, h3⟩ := item r1 S2 ry po
      exact ⟨_, _, _, v, rfl, h1, q1, h2, h3⟩
  | str x =>
    refine (pe_ix ix_str ha hb hs).run pins s σ H Q I (two fun ρ2 H2 u y S2 rx ry po => ?_)
    simp only [subF] at po
    split at po <;> try exact po.elim
    rename_i i
    split at po <;> try exact po.elim
    rename_i hz
    split at po <;> try exact po.elim
    rename_i c ev
    exact ⟨x, _, c, rx.strV, ry.intV, hz, by unfold atI; rw [Array.length_toList]; exact ev, PostV.now po S2 (.str _)⟩
  | ref l =>
    cases e : h2[l]? with
    | none => simp only [subF, e] at po2; exact po2.elim
    | some o =>
      cases o with
      | lst ps =>
        refine (pe_ix ix_list ha hb hs).run pins s σ H Q I (two fun ρ2 H2 x y S2 rx ry po => ?_)
        cases rx with
        | ref ea =>
          obtain ⟨xs, e3, r1⟩ := S2.lst e ea
          simp only [subF, e] at po
          obtain ⟨i, v, h1, h2, h3⟩ := item r1 S2 ry po
          exact ⟨_, _, _, v, rfl, h1, SqL.of e3, h2, h3⟩
      | dic kvs =>
        refine dict kvs (fun ρ2 H2 x S2 rx => ?_) (by simp only [subF, e])
        cases rx with
        | ref ea => obtain ⟨ks, e3, r3⟩ := S2.dic e ea; exact ⟨_, ks, rfl, .inl e3, r3⟩
      | lck kvs =>
        refine dict kvs (fun ρ2 H2 x S2 rx => ?_) (by simp only [subF, e])
        cases rx with
        | ref ea => obtain ⟨o, ks, e3, r3⟩ := S2.lck e ea; exact ⟨_, ks, rfl, .inr ⟨o, e3⟩, r3⟩
      | ins _ _ => simp only [subF, e] at po2; exact po2.elim
  | non => simp only [subF] at po2; exact po2.elim
  | bl _ => simp only [subF] at po2; exact po2.elim
  | int _ => simp only [subF] at po2; exact po2.elim
  | fro _ => simp only [subF] at po2; exact po2.elim
/-! slices -/
theorem sp_none : L2.PO X none (lP X.K fun _ h => .ok none h) := ⟨fun pins s σ H Q I ⟨ρ, s', h, S, R, po⟩ => po_none.run pins s σ H Q I (po.now S)⟩
theorem sp_some (ha : PE X a (lE X.K fa)) : L2.PO X (some a) (lP X.K fun s h => (fa s h).bnd fun x h => match x with
    | .int i => .ok (some i) h
    | _ => .bad) := ⟨fun pins s σ H Q I ⟨ρ, s', h, S, R, po⟩ => (po_some ha).run pins s σ H Q I (by
  refine lE.first S R po fun v ρ1 H1 h1 u x1 S1 R1 e1 ru po1 => ?_
  split at po1
  · exact ⟨_, ru.intV, po1.now S1⟩
  · exact po1.elim)⟩
theorem cut_rep {ρ : List Addr} {H : Hp} {ps : List PV} {vs : List V} (r : RepVs X.K ρ H ps vs) (lo hi : Option Int) : RepVs X.K ρ H (cutP ps lo hi) (cutV vs lo hi) := by
  unfold cutP cut cutV
  rw [r.length]
  exact (r.drop _).take _
theorem se_slc {lo hi : Option Expr} {fl fh : PSt → PH → Out (Option Int)} {p2 : Pos} (ha : PE X a (lE X.K fa)) (hl : L2.PO X lo (lP X.K fl)) (hh : L2.PO X hi (lP X.K fh)) :
    PE X (.Subscript a (.Slice lo hi none p2) pos) (lE X.K fun s h => (fa s h).bnd fun x h => (fl s h).bnd fun y h => (fh s h).bnd fun z h => slcF x y z h) := by
  refine ⟨fun pins s σ H Q I h => ?_⟩
  refine (pe_slice (sl_list.or sl_tupA) ha hl hh).run pins s σ H Q I ?_
  obtain ⟨ρ, s', h, S, R, po⟩ := h
  refine lE.first S R po fun v ρ1 H1 h1 u x1 S1 R1 e1 ru po1 => lP.first S1 R1 po1 fun l ρ2 H2 h2 x2 S2 R2 e2 po2 => lP.first S2 R2 po2 fun k ρ3 H3 h3 x3 S3 R3 e3 po3 => ?_
  have ru := (ru.ext x2).ext x3
  unfold slcF at po3
  split at po3
  · cases ru with
    | tup q r =>
      refine .inr ⟨_, _, rfl, q, fun e => ?_, fun _ => PostV.tup po3 S3 (cut_rep r l k)⟩
      refine PostV.now po3 S3 (.tup q ?_)
      have := cut_rep r l k
      rename_i vs0
      have e2 : cutV vs0 l k = vs0 := by
        unfold cutV
        rw [e.1, e.2]
        simp
      rw [e2] at this
      exact this
  · cases ru with
    | ref ea =>
      split at po3
      · rename_i h4
        obtain ⟨xs, e4, r⟩ := S3.lst h4 ea
        exact .inl ⟨_, xs, rfl, SqL.of e4, PostV.newL po3 S3 (cut_rep r l k)⟩
      · exact po3.elim
  · exact po3.elim
end
end MP

set_option Elab.async false
set_option linter.all false
set_option maxRecDepth 100000
set_option maxHeartbeats 1000000
namespace MP
open PySem PySem.Spec PyProof.Rows L2

/-! sorting, least, greatest -/
theorem insI_perm (x : Int) : ∀ l : List Int, (insI x l).Perm (x :: l)
  | [] => .refl _
  | y :: r => by
    unfold insI
    split
    · exact .refl _
    · exact ((insI_perm x r).cons y).trans (.swap x y r)
theorem sortI_perm : ∀ l : List Int, (sortI l).Perm l
  | [] => .refl _
  | x :: r => (insI_perm x _).trans ((sortI_perm r).cons x)
theorem insI_sorted (x : Int) : ∀ l : List Int, l.Pairwise (· ≤ ·) → (insI x l).Pairwise (· ≤ ·)
  | [], _ => by simp [insI]
  | y :: r, h => by
    have h' := List.pairwise_cons.mp h
    unfold insI
    split
    · rename_i hx
      refine List.pairwise_cons.mpr ⟨fun z hz => ?_, h⟩
      rcases List.mem_cons.mp hz with e | e
      · omega
      · have := h'.1 z e; omega
    · rename_i hx
      refine List.pairwise_cons.mpr ⟨fun z hz => ?_, insI_sorted x r h'.2⟩
      rcases List.mem_cons.mp ((insI_perm x r).mem_iff.mp hz) with e | e
      · omega
      · exact h'.1 z e
theorem sortI_sorted : ∀ l : List Int, (sortI l).Pairwise (· ≤ ·)
  | [] => List.Pairwise.nil
  | x :: r => insI_sorted x _ (sortI_sorted r)
theorem sorted_one : ∀ {a b : List Int}, a.Perm b → a.Pairwise (· ≤ ·) → b.Pairwise (· ≤ ·) → a = b
  | [], b, p, _, _ => by rw [List.nil_perm.mp p]
  | x :: r, b, p, ha, hb => by
    cases b with
    | nil => exact absurd p.symm (by simp)
    | cons y t =>
      have h1 := List.pairwise_cons.mp ha
      have h2 := List.pairwise_cons.mp hb
      have e : x = y := by
        have m1 : x ∈ y :: t := p.mem_iff.mp (by simp)
        have m2 : y ∈ x :: r := p.mem_iff.mpr (by simp)
        rcases List.mem_cons.mp m1 with e | e
        · exact e
        · rcases List.mem_cons.mp m2 with e' | e'
          · exact e'.symm
          · have := h1.1 y e'; have := h2.1 x e; omega
      subst e
      rw [sorted_one (List.perm_cons x |>.mp p) h1.2 h2.2]
theorem minI_spec : ∀ (l : List Int) (m : Int), minI l m ∈ m :: l ∧ ∀ y ∈ m :: l, minI l m ≤ y
  | [], m => by simp [minI]
  | x :: r, m => by
    obtain ⟨h1, h2⟩ := minI_spec r (if x < m then x else m)
    simp only [minI]
    constructor
    · rcases List.mem_cons.mp h1 with e | e
      · rw [e]; split <;> simp
      · simp [e]
    · intro y hy
      have h3 := h2 (if x < m then x else m) (by simp)
      rcases List.mem_cons.mp hy with e | e
      · split at h3 <;> rename_i hx <;> simp only [hx, if_true, if_false] <;> omega
      · rcases List.mem_cons.mp e with e | e
        · split at h3 <;> rename_i hx <;> simp only [hx, if_true, if_false] <;> omega
        · exact h2 y (by simp [e])
theorem maxI_spec : ∀ (l : List Int) (m : Int), maxI l m ∈ m :: l ∧ ∀ y ∈ m :: l, y ≤ maxI l m
  | [], m => by simp [maxI]
  | x :: r, m => by
    obtain ⟨h1, h2⟩ := maxI_spec r (if m < x then x else m)
    simp only [maxI]
    constructor
    · rcases List.mem_cons.mp h1 with e | e
      · rw [e]; split <;> simp
      · simp [e]
    · intro y hy
      have h3 := h2 (if m < x then x else m) (by simp)
      rcases List.mem_cons.mp hy with e | e
      · split at h3 <;> rename_i hx <;> simp only [hx, if_true, if_false] <;> omega
      · rcases List.mem_cons.mp e with e | e
        · split at h3 <;> rename_i hx <;> simp only [hx, if_true, if_false] <;> omega
        · exact h2 y (by simp [e])

/-! built-in functions -/
def Bi.name : Bi → Str
  | .len => "len" | .abs => "abs" | .int => "int" | .bool => "bool" | .max => "max" | .min => "min" | .list => "list" | .tuple => "tuple" | .sorted => "sorted"
  | .sum => "sum" | .any => "any" | .all => "all" | .dict => "dict" | .isStr => "str" | .isTuple => "reversed" | .isBool => "set" | .isInt => "repr" | _ => "isinstance"
def Bi.val : Bi → Value
  | .len => .builtin "len" | .abs => .builtin "abs" | .int => .type "int" | .bool => .type "bool" | .max => .builtin "max" | .min => .builtin "min" | .list => .type "list" | .tuple => .type "tuple" | .sorted => .builtin "sorted"
  | .sum => .builtin "sum" | .any => .builtin "any" | .all => .builtin "all" | .dict => .type "dict" | .isStr => .type "str" | .isTuple => .type "reversed" | .isBool => .type "set" | .isInt => .builtin "repr" | _ => .builtin "isinstance"
section
variable {X : Cx} {K : Fg} {ρ : List Addr} {H : Hp} {h : PH}
theorem RepVs.one {x : PV} {vs : List V} (r : RepVs K ρ H [x] vs) : ∃ v, vs = [v] ∧ RepV K ρ H x v := by
  cases r with
  | cons q t => cases t; exact ⟨_, rfl, q⟩
theorem RepVs.two {x y : PV} {vs : List V} (r : RepVs K ρ H [x, y] vs) : ∃ v w, vs = [v, w] ∧ RepV K ρ H x v ∧ RepV K ρ H y w := by
  cases r with
  | cons q t => obtain ⟨w, rfl, q'⟩ := t.one; exact ⟨_, w, rfl, q, q'⟩
theorem lstAt_V (S : Sim K ρ h H) {x : PV} {v : V} {ps : List PV} (e : lstAt h x = some ps) (r : RepV K ρ H x v) : ∃ a xs, v = .ref a ∧ H a = some (.lst xs) ∧ RepVs K ρ H ps xs := by
  unfold lstAt at e
  split at e
  · split at e
    · rename_i h1
      cases e
      cases r with
      | ref ea => obtain ⟨xs, e1, r1⟩ := S.lst h1 ea; exact ⟨_, xs, rfl, e1, r1⟩
    · cases e
  · cases e
theorem ints_V (S : Sim K ρ h H) {x : PV} {v : V} {ns : List Int} (e : (lstAt h x).bind intsOf = some ns) (r : RepV K ρ H x v) : ∃ a, v = .ref a ∧ H a = some (.lst (ns.map V.int)) := by
  obtain ⟨ps, e1, e2⟩ := Option.bind_eq_some_iff.mp e
  obtain ⟨a, xs, ev, e3, r3⟩ := lstAt_V S e1 r
  rw [r3.ints e2] at e3
  exact ⟨a, ev, e3⟩
theorem bools_V (S : Sim K ρ h H) {x : PV} {v : V} {ns : List Bool} (e : (lstAt h x).bind boolsOf = some ns) (r : RepV K ρ H x v) : ∃ a, v = .ref a ∧ H a = some (.lst (ns.map V.bl)) := by
  obtain ⟨ps, e1, e2⟩ := Option.bind_eq_some_iff.mp e
  obtain ⟨a, xs, ev, e3, r3⟩ := lstAt_V S e1 r
  rw [r3.bools e2] at e3
  exact ⟨a, ev, e3⟩
theorem call_bi (hc : X.calm = true) (f : Bi) : CallR X f.val (lC X.K (biF f)) := by
  intro pins s σ H xs us Q I rv h
  obtain ⟨ρ, h, ps, S, r, po⟩ := h
  unfold biF at po
  split at po
  · -- len
    split at po
    · obtain ⟨v, rfl, q⟩ := r.one
      split at po
      · rename_i hz
        cases q
        exact call_len pins s σ H _ us Q I rv ⟨_, _, rfl, ⟨hz, rfl⟩, PostV.now po S (.int _)⟩
      · exact po.elim
    · obtain ⟨v, rfl, q⟩ := r.one
      cases q with
      | tup q1 r1 => exact call_len pins s σ H _ us Q I rv ⟨_, _, rfl, .inr ⟨_, q1, rfl⟩, by rw [← r1.length]; exact PostV.now po S (.int _)⟩
    · obtain ⟨v, rfl, q⟩ := r.one
      split at po
      · rename_i h1
        cases q with
        | ref ea =>
          obtain ⟨vs, e1, r1⟩ := S.lst h1 ea
          exact call_len pins s σ H _ us Q I rv ⟨_, _, rfl, .inl ⟨_, SqL.of e1, rfl⟩, by rw [← r1.length]; exact PostV.now po S (.int _)⟩
      · rename_i h1
        cases q with
        | ref ea =>
          obtain ⟨vs, e1, r1⟩ := S.dic h1 ea
          exact call_lenD pins s σ H _ us Q I rv ⟨_, _, rfl, e1, by rw [← r1.length]; exact PostV.now po S (.int _)⟩
      · exact po.elim
    · exact po.elim
  · -- abs
    split at po
    · obtain ⟨v, rfl, q⟩ := r.one
      cases q
      exact call_abs pins s σ H _ us Q I rv ⟨_, rfl, PostV.now po S (.int _)⟩
    · exact po.elim
  · -- int
    split at po
    · obtain ⟨v, rfl, q⟩ := r.one
      cases q
      exact call_int1 pins s σ H _ us Q I rv (.inl ⟨_, rfl, PostV.now po S (.int _)⟩)
    · obtain ⟨v, rfl, q⟩ := r.one
      cases q
      exact call_int1 pins s σ H _ us Q I rv (.inr ⟨_, rfl, PostV.now po S (.int _)⟩)
    · exact po.elim
  · -- bool
    split at po
    · obtain ⟨v, rfl, q⟩ := r.one
      cases q
      exact call_bool1 pins s σ H _ us Q I rv (.inl ⟨_, rfl, PostV.now po S (.bl _)⟩)
    · obtain ⟨v, rfl, q⟩ := r.one
      cases q
      exact call_bool1 pins s σ H _ us Q I rv (.inr ⟨_, rfl, PostV.now po S (.bl _)⟩)
    · exact po.elim
  · -- max
    split at po
    · obtain ⟨v, w, rfl, q, q'⟩ := r.two
      cases q; cases q'
      exact call_max2 hc pins s σ H _ us Q I rv ⟨_, _, rfl, PostV.now po S (.int _)⟩
    · obtain ⟨v, rfl, q⟩ := r.one
      split at po
      · rename_i a t e1
        obtain ⟨p, rfl, e2⟩ := ints_V S e1 q
        refine cr_max hc pins s σ H _ us Q I rv ⟨_, a :: t, rfl, SqL.of e2, by simp, fun m hm hy => ?_⟩
        obtain ⟨h1, h2⟩ := maxI_spec t a
        have e : m = maxI t a := Int.le_antisymm (h2 m hm) (hy _ h1)
        rw [e]
        exact PostV.now po S (.int _)
      · exact po.elim
    · exact po.elim
  · -- min
    split at po
    · obtain ⟨v, w, rfl, q, q'⟩ := r.two
      cases q; cases q'
      exact call_min2 hc pins s σ H _ us Q I rv ⟨_, _, rfl, PostV.now po S (.int _)⟩
    · obtain ⟨v, rfl, q⟩ := r.one
      split at po
      · rename_i h1
        cases q with
        | ref ea =>
          obtain ⟨vs, e1, r1⟩ := S.lst h1 ea
          split at po
          · rename_i a t e2
            rw [r1.ints e2] at e1
            refine cr_min hc pins s σ H _ us Q I rv ⟨_, a :: t, rfl, SqL.of e1, by simp, fun m hm hy => ?_⟩
            obtain ⟨h1, h2⟩ := minI_spec t a
            have e : m = minI t a := Int.le_antisymm (hy _ h1) (h2 m hm)
            rw [e]
            exact PostV.now po S (.int _)
          · exact po.elim
      · rename_i h1
        cases q with
        | ref ea =>
          obtain ⟨vs, e1, r1⟩ := S.dic h1 ea
          split at po
          · rename_i a t e2
            refine cr_minK hc pins s σ H _ us Q I rv ⟨_, vs, a :: t, rfl, e1, r1.intKeys e2, by simp, fun m hm hy => ?_⟩
            obtain ⟨h1, h2⟩ := minI_spec t a
            have e : m = minI t a := Int.le_antisymm (hy _ h1) (h2 m hm)
            rw [e]
            exact PostV.now po S (.int _)
          · exact po.elim
      · exact po.elim
    · exact po.elim
  · -- list
    split at po
    · obtain ⟨v, rfl, q⟩ := r.one
      cases q with
      | tup q1 r1 => exact call_list_of pins s σ H _ us Q I rv ⟨_, _, rfl, .inr q1, PostV.newL po S r1⟩
    · obtain ⟨v, rfl, q⟩ := r.one
      split at po
      · rename_i h1
        cases q with
        | ref ea =>
          obtain ⟨vs, e1, r1⟩ := S.lst h1 ea
          exact call_list_of pins s σ H _ us Q I rv ⟨_, _, rfl, .inl (SqL.of e1), PostV.newL po S r1⟩
      · rename_i h1
        cases q with
        | ref ea =>
          obtain ⟨vs, e1, r1⟩ := S.dic h1 ea
          exact call_list_dK hc pins s σ H _ us Q I rv ⟨_, _, rfl, e1, PostV.newL po S r1.keys⟩
      · exact po.elim
    · exact po.elim
  · -- tuple
    split at po
    · obtain ⟨v, rfl, q⟩ := r.one
      cases q with
      | tup q1 r1 => exact call_tuple_of pins s σ H _ us Q I rv ⟨_, _, rfl, .inr ⟨q1, PostV.now po S (.tup q1 r1)⟩⟩
    · obtain ⟨v, rfl, q⟩ := r.one
      split at po
      · rename_i h1
        cases q with
        | ref ea =>
          obtain ⟨vs, e1, r1⟩ := S.lst h1 ea
          exact call_tuple_of pins s σ H _ us Q I rv ⟨_, _, rfl, .inl ⟨SqL.of e1, PostV.tup po S r1⟩⟩
      · exact po.elim
    · exact po.elim
  · -- sorted
    split at po
    · obtain ⟨v, rfl, q⟩ := r.one
      split at po
      · rename_i ns e1
        obtain ⟨p, rfl, e2⟩ := ints_V S e1 q
        refine cr_sortedI pins s σ H _ us Q I rv ⟨_, ns, rfl, SqL.of e2, fun ns' p hp hs hn => ?_⟩
        have e : ns' = sortI ns := sorted_one (hp.trans (sortI_perm ns).symm) hs (sortI_sorted ns)
        rw [e]
        exact PostV.newL po S (RepVs.ofInts _) p hn
      · split at po
        · rename_i x _ _ ns e1
          obtain ⟨ps, d1, d2⟩ := Option.bind_eq_some_iff.mp e1
          split at po <;> try exact po.elim
          rename_i h64
          unfold dicAt at d1
          split at d1 <;> try (cases d1; done)
          split at d1 <;> try (cases d1; done)
          rename_i kvs hl
          cases d1
          cases q with
          | ref ea =>
            obtain ⟨ks, e2, r2⟩ := S.dic hl ea
            refine call_sortedDI hc pins s σ H _ us Q I rv ⟨_, ks, ns, rfl, .inl e2, r2.intKeys d2, h64, fun ys p hp hs hn => ?_⟩
            have e : ys = sortI ns := sorted_one (hp.trans (sortI_perm ns).symm) hs (sortI_sorted ns)
            rw [e]
            exact PostV.newL po S (RepVs.ofInts _) p hn
        · exact po.elim
    · exact po.elim
  · -- sum
    split at po
    · obtain ⟨v, rfl, q⟩ := r.one
      split at po
      · rename_i ns e1
        obtain ⟨p, rfl, e2⟩ := ints_V S e1 q
        exact cr_sum hc pins s σ H _ us Q I rv ⟨_, ns, rfl, SqL.of e2, PostV.now po S (.int _)⟩
      · exact po.elim
    · exact po.elim
  · -- any
    split at po
    · obtain ⟨v, rfl, q⟩ := r.one
      split at po
      · rename_i ns e1
        obtain ⟨p, rfl, e2⟩ := bools_V S e1 q
        exact cr_any hc pins s σ H _ us Q I rv ⟨_, ns, rfl, SqL.of e2, PostV.now po S (.bl _)⟩
      · exact po.elim
    · exact po.elim
  · -- all
    split at po
    · obtain ⟨v, rfl, q⟩ := r.one
      split at po
      · rename_i ns e1
        obtain ⟨p, rfl, e2⟩ := bools_V S e1 q
        exact cr_all hc pins s σ H _ us Q I rv ⟨_, ns, rfl, SqL.of e2, PostV.now po S (.bl _)⟩
      · exact po.elim
    · exact po.elim
  · -- dict
    split at po
    · obtain ⟨v, rfl, q⟩ := r.one
      split at po
      · rename_i kvs e1
        cases q with
        | ref ea =>
          have fin : ∀ {ks}, RepKs X.K ρ H kvs ks → ∀ a, H a = none → Q (.ref a) (upd H a (.dK ks)) := fun {ks} r1 => PostV.new po S fun a ha => ⟨ks, upd_same, r1.ext (Ext.push ha)⟩
          unfold dAt at e1
          split at e1
          · rename_i h1
            cases e1
            obtain ⟨vs, e1, r1⟩ := S.dic h1 ea
            exact call_dictD pins s σ H _ us Q I rv ⟨_, _, rfl, .inl e1, fin r1⟩
          · rename_i h1
            cases e1
            obtain ⟨o, vs, e1, r1⟩ := S.lck h1 ea
            exact call_dictD pins s σ H _ us Q I rv ⟨_, _, rfl, .inr ⟨o, e1⟩, fin r1⟩
          · cases e1
      · exact po.elim
    · exact po.elim
  · exact po.elim
theorem Bi.boot (f : Bi) : bootBuiltins f.name = some f.val := by cases f <;> decide +kernel
theorem se_bi {f : Bi} {e : Expr} {es : List Expr} {fs : PSt → PH → Out (List PV)} {p pos : Pos} (hc : X.calm = true) (hg : Gl X f.name) (hm : X.mg f.name = none) (ha : PA X (e :: es) (lA X.K fs))
    (he : starEach (e :: es) X.env = (false, eval e X.env) :: starEach es X.env) (hpl : (backTo pos (starEach es X.env)).any (·.1) = false) : PE X (.Call (.Name f.name p) (e :: es) [] pos) (lE X.K fun s h => (fs s h).bnd fun xs h => biF f xs h) := by
  have hn : f.name ≠ "__name__" := by cases f <;> decide
  have hd : (f.name == ("__debug__" : Str)) = false := by cases f <;> decide
  have w : ∀ σ H Q, lE X.K (fun s h => (fs s h).bnd fun xs h => biF f xs h) σ H Q → tCB (lC X.K (biF f)) (lA X.K fs) σ H Q := fun σ H Q h => by
    obtain ⟨ρ, s, h, S, R, po⟩ := h
    exact lA.first S R po fun v ρ1 H1 h1 u x1 S1 R1 e1 ru po1 => ⟨ρ1, h1, v, S1, ru, po1⟩
  have hv := f.boot
  have k := call_bi hc f
  cases hval : f.val with
  | builtin id =>
    rw [hval] at hv k
    exact (pe_callB k hg hm hv ha hn hd he hpl).weak w
  | type T =>
    rw [hval] at hv k
    exact (pe_callTy k hg hm hv ha hn hd he hpl).weak w
  | _ => cases f <;> simp [Bi.val] at hval
end
end MP

set_option Elab.async false
set_option linter.all false
set_option maxRecDepth 100000
set_option maxHeartbeats 1000000
namespace MP
open PySem PySem.Spec PyProof.Rows L2

theorem Out.bnd_bnd {α β γ : Type} (o : Out α) (f : α → PH → Out β) (g : β → PH → Out γ) : (o.bnd f).bnd g = o.bnd fun x h => (f x h).bnd g := by
  cases o <;> rfl
def Mt.name : Mt → Str
  | .append => "append" | .extend => "extend" | .pop => "pop" | .get => "get" | .values => "values" | .items => "items" | .keys => "keys" | .index => "index" | .insert => "insert" | .setdefault => "setdefault"

section
variable {X : Cx} {o e e' : Expr} {fo f1 f2 : PSt → PH → Out PV} {apos pos : Pos}
theorem kind_lst {K : Fg} {ρ : List Addr} {H : Hp} {h : PH} {l : Nat} {v : V} (S : Sim K ρ h H) (r : RepV K ρ H (.ref l) v) (k : kind (.ref l) h = 1) : tyV K "list" v H := by
  unfold kind at k
  dsimp only at k
  split at k <;> try (simp at k; done)
  rename_i xs h1
  cases r with
  | ref ea => obtain ⟨ys, e1, r1⟩ := S.lst h1 ea; exact .inl ⟨rfl, _, SqL.of e1⟩
theorem kind_dic {K : Fg} {ρ : List Addr} {H : Hp} {h : PH} {l : Nat} {v : V} (S : Sim K ρ h H) (r : RepV K ρ H (.ref l) v) (k : kind (.ref l) h = 2) : ∃ a, v = .ref a ∧ IsD H a := by
  unfold kind at k
  dsimp only at k
  split at k <;> try (simp at k; done)
  · rename_i xs h1
    cases r with
    | ref ea => obtain ⟨ys, e1, r1⟩ := S.dic h1 ea; exact ⟨_, rfl, .inl ⟨_, .inl e1⟩⟩
  · rename_i xs h1
    cases r with
    | ref ea => obtain ⟨o, ys, e1, r1⟩ := S.lck h1 ea; exact ⟨_, rfl, .inl ⟨_, .inr ⟨o, e1⟩⟩⟩
/-- a write at a place -/
theorem PostV.wrote {K : Fg} {ρ : List Addr} {H : Hp} {h : PH} {l : Nat} {a : Addr} {v : PV} {u : V} {po : PO} {ho : HO} {Q : VK} (p : PostV K ρ H (.ok v (h.set l po)) Q) (S : Sim K ρ h H) (e : ρ[l]? = some a) (rv : RepV K ρ H v u)
    (r : RepO K ρ (upd H a ho) po a) (hm : ∀ ob w, H a ≠ some (.frz ob w)) : Q u (upd H a ho) := p ρ _ (Ext.set S e hm) (S.set e r) u (rv.mono (fun _ _ e => e) (set_tup S e))
theorem wroteL {K : Fg} {ρ : List Addr} {H : Hp} {h : PH} {l : Nat} {a : Addr} {ps : List PV} {vs : List V} (S : Sim K ρ h H) (e : ρ[l]? = some a) (r : RepVs K ρ H ps vs) : RepO K ρ (upd H a (.lst vs)) (.lst ps) a :=
  ⟨vs, upd_same, r.mono (fun _ _ e => e) (set_tup S e)⟩
theorem wroteD {K : Fg} {ρ : List Addr} {H : Hp} {h : PH} {l : Nat} {a : Addr} {ps : List (PV × PV)} {vs : List (L2.Key × V)} (S : Sim K ρ h H) (e : ρ[l]? = some a) (r : RepKs K ρ H ps vs) : RepO K ρ (upd H a (.dK vs)) (.dic ps) a :=
  ⟨vs, upd_same, r.mono (fun _ _ e => e) (set_tup S e)⟩

theorem mt_ref {m : Mt} {v : PV} {xs : List PV} {h : PH} {K : Fg} {ρ : List Addr} {H : Hp} {R : PV → List Addr → Hp → Prop} (po : PostG K ρ H (mtF m v xs h) R) :
    ∃ l, v = .ref l ∧ ((∃ ys, h[l]? = some (.lst ys) ∧ PostG K ρ H (lstM m l ys xs h) R) ∨ (∃ kvs, h[l]? = some (.dic kvs) ∧ PostG K ρ H (dicM m l kvs xs h) R) ∨ ∃ kvs, h[l]? = some (.lck kvs) ∧ PostG K ρ H (dicR m kvs xs h) R) := by
  unfold mtF at po
  split at po
  · rename_i l
    refine ⟨l, rfl, ?_⟩
    split at po
    · exact .inl ⟨_, by assumption, po⟩
    · exact .inr (.inl ⟨_, by assumption, po⟩)
    · exact .inr (.inr ⟨_, by assumption, po⟩)
    · exact po.elim
  · exact po.elim
theorem se_mt0 {m : Mt} (hbase : ∀ n, attributeBase o n X.env (eval o X.env) = eval o X.env) (hline : (apos.endLine == pos.line) = true) (ho : PE X o (lE X.K fo)) :
    PE X (.Call (.Attribute o m.name apos) [] [] pos) (lE X.K fun s h => (fo s h).bnd fun x h => mtF m x [] h) := by
  refine ⟨fun pins s σ H Q I h => ?_⟩
  obtain ⟨ρ, s, h, S, R, po⟩ := h
  obtain ⟨v, h1, e1, po1⟩ := po.okOf
  obtain ⟨l, rfl, ⟨ys, hl, po2⟩ | ⟨kvs, hl, po2⟩ | ⟨kvs, hl, po2⟩⟩ := mt_ref po1
  · cases m <;> simp only [lstM] at po2 <;> try exact po2.elim
    refine (pe_bm0 PySem.F.plainAttrs_list PySem.F.slot_list_pop PySem.F.type_list_pop mt_pop ho (hbase _) hline).run _ _ σ H Q I ?_
    refine lE.first S R po fun v ρ1 H1 h1' u x1 S1 R1 e1' ru po1 => ?_
    rw [e1] at e1'; cases e1'
    have po2 := PostG.ext po2 x1
    split at po2 <;> try exact po2.elim
    rename_i y hy
    cases ru with
    | ref ea =>
      obtain ⟨vs, e2, r2⟩ := S1.lst hl ea
      obtain ⟨w, hw, rw'⟩ := r2.get hy
      exact ⟨.inl ⟨rfl, _, SqL.of e2⟩, _, vs, w, rfl, rfl, e2, by rw [← r2.length]; exact hw, PostV.wrote po2 S1 ea rw' (wroteL S1 ea r2.dropLast) (nfL e2)⟩
  · cases m <;> simp only [dicM, dicR] at po2 <;> exact po2.elim
  · cases m <;> simp only [dicR] at po2 <;> exact po2.elim

/-- how a method's call with one argument looks -/
theorem m1_of (hbase : ∀ n, attributeBase o n X.env (eval o X.env) = eval o X.env) (hline : (apos.endLine == pos.line) = true) (hs : starEach [e] X.env = [(false, eval e X.env)]) (m : Str) : M1 X o m apos e pos := by
  refine ⟨hbase _, ?_, hline, ?_⟩
  · rw [hs]; rfl
  · rw [hs]; rfl
theorem m2_of (hbase : ∀ n, attributeBase o n X.env (eval o X.env) = eval o X.env) (hline : (apos.endLine == pos.line) = true) (hs : starEach [e, e'] X.env = [(false, eval e X.env), (false, eval e' X.env)]) (m : Str) : M2 X o m apos e e' pos := by
  refine ⟨hbase _, ?_, hline, ?_⟩
  · rw [hs]; rfl
  · rw [hs]; rfl
end
end MP

set_option Elab.async false
set_option linter.all false
set_option maxRecDepth 100000
set_option maxHeartbeats 1000000
namespace MP
open PySem PySem.Spec PyProof.Rows L2

section
variable {X : Cx} {o e e' : Expr} {fo f1 f2 : PSt → PH → Out PV} {apos pos : Pos}
theorem few1 (hs : starEach [e] X.env = [(false, eval e X.env)]) : ((backTo pos (starEach [e] X.env)).all (fun x => !x.1) && (backToKw pos (keywordEach [] X.env)).all (fun x => x.1.isSome)
      && decide (([e] : List Expr).length + ([] : List Keyword).length + (if ([] : List Keyword).isEmpty then 0 else 1) < 30)) = true := by rw [hs]; rfl
theorem few2 (hs : starEach [e, e'] X.env = [(false, eval e X.env), (false, eval e' X.env)]) : ((backTo pos (starEach [e, e'] X.env)).all (fun x => !x.1) && (backToKw pos (keywordEach [] X.env)).all (fun x => x.1.isSome)
      && decide (([e, e'] : List Expr).length + ([] : List Keyword).length + (if ([] : List Keyword).isEmpty then 0 else 1) < 30)) = true := by rw [hs]; rfl
theorem se_mt1 (hu : X.A.units + 65 < cLine) {m : Mt} (hbase : ∀ n, attributeBase o n X.env (eval o X.env) = eval o X.env) (hline : (apos.endLine == pos.line) = true) (hs : starEach [e] X.env = [(false, eval e X.env)]) (ho : PE X o (lE X.K fo)) (he : PE X e (lE X.K f1)) :
    PE X (.Call (.Attribute o m.name apos) [e] [] pos) (lE X.K fun s h => (fo s h).bnd fun x h1 => (f1 s h1).bnd fun y h => if kind x h1 = kind x h then mtF m x [y] h else .bad) := by
  refine ⟨fun pins s σ H Q I h => ?_⟩
  obtain ⟨ρ, s, h, S, R, po⟩ := h
  obtain ⟨v, h1, e1, po1⟩ := po.okOf
  obtain ⟨w, h2, e2, po2⟩ := po1.okOf
  split at po2 <;> try exact po2.elim
  rename_i hk
  have hs' : starEach [e] X.env = (false, eval e X.env) :: starEach [] X.env := hs
  have pa := pa_cons he pa_nil hs'
  -- the list's rules
  have bm : ∀ {id : String} {r : V → List V → Hp → VK → Prop} {l : Nat}, v = .ref l → kind v h1 = 1 → Slot "list" m.name id → typeOf (.builtin id) = pure (.type "method_descriptor") → MtM X id r →
      (∀ ρ2 H2 x y, Sim X.K ρ2 h2 H2 → RepV X.K ρ2 H2 v x → RepV X.K ρ2 H2 w y → PostV X.K ρ2 H2 (mtF m v [w] h2) Q → r x [y] H2 Q) →
      wpAny (model X.prog X.w) X.A (eval (.Call (.Attribute o m.name apos) [e] [] pos) X.env) (EP X pins σ Q) X.xe _ := fun {id r l} el kl slot ty hm k => by
    refine (pe_bm PySem.F.plainAttrs_list slot ty hm ho pa (hbase _) (few1 hs) hline hs' (by rfl)).run _ _ σ H Q I ?_
    refine lE.first S R po fun v' ρ1 H1 h1' u x1 S1 R1 e1' ru po1 => ?_
    rw [e1] at e1'; cases e1'
    refine ⟨kind_lst (l := l) S1 (el ▸ ru) (el ▸ kl), lE.first S1 R1 po1 fun w' ρ2 H2 h2' y x2 S2 R2 e2' ry po2 => ?_⟩
    rw [e2] at e2'; cases e2'
    rw [if_pos hk] at po2
    exact k ρ2 H2 u y S2 (ru.ext x2) ry po2
  obtain ⟨l, rfl, ⟨ys, hl, po3⟩ | ⟨kvs, hl, po3⟩ | ⟨kvs, hl, po3⟩⟩ := mt_ref po2
  · have kl : kind (.ref l) h1 = 1 := by rw [hk]; simp only [kind, hl]
    cases m <;> simp only [lstM] at po3 <;> try exact po3.elim
    · -- append
      refine bm rfl kl PySem.F.slot_list_append PySem.F.type_list_append mt_append fun ρ2 H2 x y S2 rx ry po => ?_
      simp only [mtF, hl, lstM] at po
      split at po <;> try exact po.elim
      rename_i hz
      cases rx with
      | ref ea =>
        obtain ⟨vs, e3, r3⟩ := S2.lst hl ea
        exact ⟨_, vs, y, rfl, rfl, e3, by rw [← r3.length]; exact hz, PostV.wrote po S2 ea .non (wroteL S2 ea (r3.append (.cons ry .nil))) (nfL e3)⟩
    · -- extend
      refine bm rfl kl PySem.F.slot_list_extend PySem.F.type_list_extend mt_extend fun ρ2 H2 x y S2 rx ry po => ?_
      simp only [mtF, hl, lstM] at po
      split at po <;> try exact po.elim
      rename_i hq
      split at po <;> try exact po.elim
      rename_i zs h3
      split at po <;> try exact po.elim
      rename_i hz
      cases hq
      cases rx with
      | ref ea =>
        cases ry with
        | ref eb =>
          obtain ⟨vs, e3, r3⟩ := S2.lst hl ea
          obtain ⟨ws, e4, r4⟩ := S2.lst h3 eb
          exact ⟨_, _, vs, ws, rfl, rfl, e3, e4, by rw [← r3.length, ← r4.length]; exact hz, PostV.wrote po S2 ea .non (wroteL S2 ea (r3.append r4)) (nfL e3)⟩
    · -- pop(i)
      refine bm rfl kl PySem.F.slot_list_pop PySem.F.type_list_pop mt_popAt fun ρ2 H2 x y S2 rx ry po => ?_
      simp only [mtF, hl, lstM] at po
      split at po <;> (try exact po.elim)
      · rename_i hq; simp at hq
      · rename_i i hq
        cases hq
        split at po <;> try exact po.elim
        rename_i hz
        split at po <;> try exact po.elim
        rename_i j hj
        split at po <;> try exact po.elim
        rename_i z hy
        have hz' := of_decide_eq_true hz
        cases rx with
        | ref ea =>
          obtain ⟨vs, e3, r3⟩ := S2.lst hl ea
          obtain ⟨u, hu', ru⟩ := r3.get hy
          exact ⟨_, vs, i, j, u, rfl, by rw [ry.intV], e3, by omega, by omega, by rw [← r3.length]; exact hj, hu', PostV.wrote po S2 ea ru (wroteL S2 ea (r3.erase j)) (nfL e3)⟩
  · have kl : kind (.ref l) h1 = 2 := by rw [hk]; simp only [kind, hl]
    cases m <;> simp only [dicM, dicR] at po3 <;> try exact po3.elim
    · -- pop(k)
      refine (pe_dpop1 ho he (m1_of hbase hline hs _)).run _ _ σ H Q I ?_
      refine lE.first S R po fun v' ρ1 H1 h1' u x1 S1 R1 e1' ru po1 => ?_
      rw [e1] at e1'; cases e1'
      obtain ⟨a, rfl, isd⟩ := kind_dic S1 ru kl
      refine ⟨a, rfl, isd, lE.first S1 R1 po1 fun w' ρ2 H2 h2' y x2 S2 R2 e2' ry po2 => ?_⟩
      rw [e2] at e2'; cases e2'
      have po4 := PostG.ext po3 (x1.trans x2)
      split at po4 <;> try exact po4.elim
      rename_i hkk
      split at po4 <;> try exact po4.elim
      rename_i z hz
      cases ru.ext x2 with
      | ref ea =>
        obtain ⟨ks, e3, r3⟩ := S2.dic hl ea
        obtain ⟨kk, ek⟩ := keyOf_some hkk
        obtain ⟨t, ht, rt⟩ := (r3.get ek).1 z hz
        exact ⟨ks, kk, t, e3, keyOf_V ek ry, ht, PostV.wrote po4 S2 ea rt (wroteD S2 ea (r3.drop ek)) (nfD e3)⟩
    · -- get(k)
      refine (pe_dget1 (by omega) ho he (m1_of hbase hline hs _)).run _ _ σ H Q I ?_
      refine lE.first S R po fun v' ρ1 H1 h1' u x1 S1 R1 e1' ru po1 => ?_
      rw [e1] at e1'; cases e1'
      obtain ⟨a, rfl, isd⟩ := kind_dic S1 ru kl
      refine ⟨a, rfl, isd, lE.first S1 R1 po1 fun w' ρ2 H2 h2' y x2 S2 R2 e2' ry po2 => ?_⟩
      rw [e2] at e2'; cases e2'
      have po4 := PostG.ext po3 (x1.trans x2)
      split at po4 <;> try exact po4.elim
      rename_i hkk
      cases ru.ext x2 with
      | ref ea =>
        obtain ⟨ks, e3, r3⟩ := S2.dic hl ea
        obtain ⟨kk, ek⟩ := keyOf_some hkk
        refine ⟨valV ks kk, .inl ⟨ks, kk, .inl e3, keyOf_V ek ry, rfl⟩, PostV.now po4 S2 ?_⟩
        cases ez : dGet kvs w with
        | none => rw [(r3.get ek).2 ez]; exact .non
        | some z => obtain ⟨t, ht, rt⟩ := (r3.get ek).1 z ez; rw [ht]; exact rt
  · have kl : kind (.ref l) h1 = 2 := by rw [hk]; simp only [kind, hl]
    cases m <;> simp only [dicR] at po3 <;> try exact po3.elim
    refine (pe_dget1 (by omega) ho he (m1_of hbase hline hs _)).run _ _ σ H Q I ?_
    refine lE.first S R po fun v' ρ1 H1 h1' u x1 S1 R1 e1' ru po1 => ?_
    rw [e1] at e1'; cases e1'
    obtain ⟨a, rfl, isd⟩ := kind_dic S1 ru kl
    refine ⟨a, rfl, isd, lE.first S1 R1 po1 fun w' ρ2 H2 h2' y x2 S2 R2 e2' ry po2 => ?_⟩
    rw [e2] at e2'; cases e2'
    have po4 := PostG.ext po3 (x1.trans x2)
    split at po4 <;> try exact po4.elim
    rename_i hkk
    cases ru.ext x2 with
    | ref ea =>
      obtain ⟨ob, ks, e3, r3⟩ := S2.lck hl ea
      obtain ⟨kk, ek⟩ := keyOf_some hkk
      refine ⟨valV ks kk, .inl ⟨ks, kk, .inr ⟨ob, e3⟩, keyOf_V ek ry, rfl⟩, PostV.now po4 S2 ?_⟩
      cases ez : dGet kvs w with
      | none => rw [(r3.get ek).2 ez]; exact .non
      | some z => obtain ⟨t, ht, rt⟩ := (r3.get ek).1 z ez; rw [ht]; exact rt
theorem se_mt2 (hu : X.A.units + 65 < cLine) {m : Mt} (hbase : ∀ n, attributeBase o n X.env (eval o X.env) = eval o X.env) (hline : (apos.endLine == pos.line) = true) (hs : starEach [e, e'] X.env = [(false, eval e X.env), (false, eval e' X.env)])
    (hs1 : starEach [e'] X.env = [(false, eval e' X.env)]) (ho : PE X o (lE X.K fo)) (he : PE X e (lE X.K f1)) (he' : PE X e' (lE X.K f2)) :
    PE X (.Call (.Attribute o m.name apos) [e, e'] [] pos) (lE X.K fun s h => (fo s h).bnd fun x h1 => (f1 s h1).bnd fun y h => (f2 s h).bnd fun z h => if kind x h1 = kind x h then mtF m x [y, z] h else .bad) := by
  refine ⟨fun pins s σ H Q I h => ?_⟩
  obtain ⟨ρ, s, h, S, R, po⟩ := h
  obtain ⟨v, h1, e1, po1⟩ := po.okOf
  obtain ⟨w, h2, e2, po2⟩ := po1.okOf
  obtain ⟨w', h3, e3, po3⟩ := po2.okOf
  split at po3 <;> try exact po3.elim
  rename_i hk
  obtain ⟨l, rfl, ⟨ys, hl, po4⟩ | ⟨kvs, hl, po4⟩ | ⟨kvs, hl, po4⟩⟩ := mt_ref po3
  · have kl : kind (.ref l) h1 = 1 := by rw [hk]; simp only [kind, hl]
    cases m <;> simp only [lstM] at po4 <;> try exact po4.elim
    -- insert
    have hs' : starEach [e, e'] X.env = (false, eval e X.env) :: starEach [e'] X.env := by rw [hs, hs1]
    refine (pe_bm PySem.F.plainAttrs_list PySem.F.slot_list_insert PySem.F.type_list_insert mt_insert ho (pa_cons he (pa_cons he' pa_nil hs1) hs') (hbase _) (few2 hs) hline hs' (by rw [hs1]; rfl)).run _ _ σ H Q I ?_
    refine lE.first S R po fun v' ρ1 H1 h1' u x1 S1 R1 e1' ru po1 => ?_
    rw [e1] at e1'; cases e1'
    refine ⟨kind_lst (l := l) S1 ru kl, lE.first S1 R1 po1 fun w' ρ2 H2 h2' y x2 S2 R2 e2' ry po2 => ?_⟩
    rw [e2] at e2'; cases e2'
    refine lE.first S2 R2 po2 fun w'' ρ3 H3 h3' z x3 S3 R3 e3' rz po3 => ?_
    rw [e3] at e3'; cases e3'
    have po5 := PostG.ext po4 ((x1.trans x2).trans x3)
    split at po5 <;> try exact po5.elim
    rename_i i y0 hq
    cases hq
    split at po5 <;> try exact po5.elim
    rename_i hz
    have hz' := of_decide_eq_true hz.2.2
    cases (ru.ext x2).ext x3 with
    | ref ea =>
      obtain ⟨vs, e4, r4⟩ := S3.lst hl ea
      refine ⟨_, vs, i, z, rfl, by rw [(ry.ext x3).intV], e4, by rw [← r4.length]; exact hz.1, hz.2.1, by omega, ?_⟩
      exact PostV.wrote po5 S3 ea .non (wroteL S3 ea (((r4.take _).append (.cons rz .nil)).append (r4.drop _))) (nfL (by assumption))
  · have kl : kind (.ref l) h1 = 2 := by rw [hk]; simp only [kind, hl]
    cases m <;> simp only [dicM, dicR] at po4 <;> try exact po4.elim
    refine (pe_dget2 (by omega) ho he he' (m2_of hbase hline hs _)).run _ _ σ H Q I ?_
    refine lE.first S R po fun v' ρ1 H1 h1' u x1 S1 R1 e1' ru po1 => ?_
    rw [e1] at e1'; cases e1'
    obtain ⟨a, rfl, isd⟩ := kind_dic S1 ru kl
    refine ⟨a, rfl, isd, lE.first S1 R1 po1 fun w' ρ2 H2 h2' y x2 S2 R2 e2' ry po2 => ?_⟩
    rw [e2] at e2'; cases e2'
    refine lE.first S2 R2 po2 fun w'' ρ3 H3 h3' z x3 S3 R3 e3' rz po3 => ?_
    rw [e3] at e3'; cases e3'
    have po5 := PostG.ext po4 ((x1.trans x2).trans x3)
    split at po5 <;> try exact po5.elim
    rename_i hkk
    cases (ru.ext x2).ext x3 with
    | ref ea =>
      obtain ⟨ks, e4, r4⟩ := S3.dic hl ea
      obtain ⟨kk, ek⟩ := keyOf_some hkk
      refine ⟨valV ks kk, .inl ⟨ks, kk, .inl e4, keyOf_V ek (ry.ext x3), rfl⟩, PostV.now po5 S3 ?_⟩
      cases ez : dGet kvs w with
      | none => rw [(r4.get ek).2 ez]; exact rz
      | some z => obtain ⟨t, ht, rt⟩ := (r4.get ek).1 z ez; rw [ht]; exact rt
  · have kl : kind (.ref l) h1 = 2 := by rw [hk]; simp only [kind, hl]
    cases m <;> simp only [dicR] at po4 <;> try exact po4.elim
    refine (pe_dget2 (by omega) ho he he' (m2_of hbase hline hs _)).run _ _ σ H Q I ?_
    refine lE.first S R po fun v' ρ1 H1 h1' u x1 S1 R1 e1' ru po1 => ?_
    rw [e1] at e1'; cases e1'
    obtain ⟨a, rfl, isd⟩ := kind_dic S1 ru kl
    refine ⟨a, rfl, isd, lE.first S1 R1 po1 fun w' ρ2 H2 h2' y x2 S2 R2 e2' ry po2 => ?_⟩
    rw [e2] at e2'; cases e2'
    refine lE.first S2 R2 po2 fun w'' ρ3 H3 h3' z x3 S3 R3 e3' rz po3 => ?_
    rw [e3] at e3'; cases e3'
    have po5 := PostG.ext po4 ((x1.trans x2).trans x3)
    split at po5 <;> try exact po5.elim
    rename_i hkk
    cases (ru.ext x2).ext x3 with
    | ref ea =>
      obtain ⟨ob, ks, e4, r4⟩ := S3.lck hl ea
      obtain ⟨kk, ek⟩ := keyOf_some hkk
      refine ⟨valV ks kk, .inl ⟨ks, kk, .inr ⟨ob, e4⟩, keyOf_V ek (ry.ext x3), rfl⟩, PostV.now po5 S3 ?_⟩
      cases ez : dGet kvs w with
      | none => rw [(r4.get ek).2 ez]; exact rz
      | some z => obtain ⟨t, ht, rt⟩ := (r4.get ek).1 z ez; rw [ht]; exact rt
end
end MP

set_option Elab.async false
set_option linter.all false
set_option maxRecDepth 100000
set_option maxHeartbeats 1000000
namespace MP
open PySem PySem.Spec PyProof.Rows L2

/-! ### walks -/
/-- the iterator J walks as it does -/
def Wk (K : Fg) (J : L2.It) (it : Itr) (ρ0 : List Addr) (H0 : Hp) : Prop := ∀ ρ h H (i : Nat), Ext K ρ0 H0 ρ H → Sim K ρ h H →
  (itStep it i h = some none → J.stop i H) ∧ ∀ p, itStep it i h = some (some p) → J.go i H ∧ ∀ x H', J.yld i H x H' → Ext K ρ H ρ H' ∧ Sim K ρ h H' ∧ RepV K ρ H' p x
def lI (K : Fg) (f : PSt → PH → Out Itr) : TI := fun σ H R => ∃ ρ s h, Sim K ρ h H ∧ RepSt K ρ H s σ ∧ PostG K ρ H (f s h) fun it ρ' H' => ∀ J, Wk K J it ρ' H' → R J H'
section
variable {K : Fg} {ρ : List Addr} {H : Hp} {h : PH}
theorem wk_tup {a : Addr} {xs : List V} {ps : List PV} (q : SqT K H a xs) (r : RepVs K ρ H ps xs) : Wk K (Itt K a) (.vals ps) ρ H := fun ρ' h' H' i x S => by
  have q' : SqT K H' a xs := x.tup a (true, xs) q
  have r' := r.ext x
  refine ⟨fun e => ?_, fun p e => ?_⟩
  · have e : ps[i]? = none := by simpa [itStep] using e
    refine ⟨xs, q', ?_⟩
    rw [← r.length]
    exact List.getElem?_eq_none_iff.mp e
  · have e : ps[i]? = some p := by simpa [itStep] using e
    obtain ⟨u, hu, ru⟩ := r'.get e
    refine ⟨⟨xs, u, q', hu⟩, fun y H2 hy => ?_⟩
    obtain ⟨rfl, hy⟩ := hy
    have := hy xs q'
    rw [hu] at this
    cases this
    exact ⟨.refl, S, ru⟩
theorem wk_fro {a : Addr} {xs : List V} {ps : List PV} (q : FrL K H a xs) (r : RepVs K ρ H ps xs) : Wk K (Itl K a) (.vals ps) ρ H := fun ρ' h' H' i x S => by
  have q' : FrL K H' a xs := x.tup a (false, xs) q
  have r' := r.ext x
  refine ⟨fun e => ?_, fun p e => ?_⟩
  · have e : ps[i]? = none := by simpa [itStep] using e
    refine ⟨xs, q'.sq, ?_⟩
    rw [← r.length]
    exact List.getElem?_eq_none_iff.mp e
  · have e : ps[i]? = some p := by simpa [itStep] using e
    obtain ⟨u, hu, ru⟩ := r'.get e
    refine ⟨⟨xs, u, q'.sq, hu⟩, fun y H2 hy => ?_⟩
    obtain ⟨rfl, hy⟩ := hy
    have := hy xs q'.sq
    rw [hu] at this
    cases this
    exact ⟨.refl, S, ru⟩
theorem wk_lst {l : Nat} {a : Addr} (e : ρ[l]? = some a) : Wk K (Itl K a) (.lst l) ρ H := fun ρ' h' H' i x S => by
  have e' := x.pre _ _ e
  refine ⟨fun e => ?_, fun p e => ?_⟩
  · unfold itStep at e
    dsimp only at e
    split at e <;> try (cases e; done)
    rename_i ps hl
    obtain ⟨xs, h1, r⟩ := S.lst hl e'
    have e : ps[i]? = none := by simpa using e
    refine ⟨xs, SqL.of h1, ?_⟩
    rw [← r.length]
    exact List.getElem?_eq_none_iff.mp e
  · unfold itStep at e
    dsimp only at e
    split at e <;> try (cases e; done)
    rename_i ps hl
    obtain ⟨xs, h1, r⟩ := S.lst hl e'
    have e : ps[i]? = some p := by simpa using e
    obtain ⟨u, hu, ru⟩ := r.get e
    refine ⟨⟨xs, u, SqL.of h1, hu⟩, fun y H2 hy => ?_⟩
    obtain ⟨rfl, hy⟩ := hy
    have := hy xs (SqL.of h1)
    rw [hu] at this
    cases this
    exact ⟨.refl, S, ru⟩
theorem rngI_len (lo : Int) (n : Nat) : (rngI lo n).length = n := by simp [rngI]
theorem wk_rng {lo : Int} {n : Nat} : Wk K (L2.Itr lo n) (.vals (rngI lo n)) ρ H := fun ρ' h' H' i x S => by
  refine ⟨fun e => ?_, fun p e => ?_⟩
  · have e : (rngI lo n)[i]? = none := by simpa [itStep] using e
    have := List.getElem?_eq_none_iff.mp e
    rw [rngI_len] at this
    exact this
  · have e : (rngI lo n)[i]? = some p := by simpa [itStep] using e
    have hl := (List.getElem?_eq_some_iff.mp e).1
    rw [rngI_len] at hl
    refine ⟨hl, fun y H2 hy => ?_⟩
    obtain ⟨rfl, rfl⟩ := hy
    simp [rngI, hl] at e
    subst e
    exact ⟨.refl, S, .int _⟩
theorem wk_str {x : Str} : Wk K (Its x) (.vals (x.cps.toList.map fun c => .str ⟨#[c]⟩)) ρ H := fun ρ' h' H' i _ S => by
  refine ⟨fun e => ?_, fun p e => ?_⟩
  · have e : (x.cps.toList.map fun c => PV.str ⟨#[c]⟩)[i]? = none := by simpa [itStep] using e
    have := List.getElem?_eq_none_iff.mp e
    simp at this
    exact this
  · have e : (x.cps.toList.map fun c => PV.str ⟨#[c]⟩)[i]? = some p := by simpa [itStep] using e
    rw [List.getElem?_map, Option.map_eq_some_iff] at e
    obtain ⟨c, hc, rfl⟩ := e
    have hc : x.cps[i]? = some c := by simpa using hc
    refine ⟨(Array.getElem?_eq_some_iff.mp hc).1, fun y H2 hy => ?_⟩
    obtain ⟨rfl, c', hc', rfl⟩ := hy
    rw [hc] at hc'
    cases hc'
    exact ⟨.refl, S, .str _⟩
end
section
variable {X : Cx} {tg e : Expr} {es : List Expr} {fe : PSt → PH → Out PV} {fs : PSt → PH → Out (List PV)} {p pos : Pos}
theorem _root_.L2.PI.weak {t t' : TI} (h : PI X tg e t) (w : ∀ σ H R, t' σ H R → t σ H R) : PI X tg e t' := ⟨fun pins s σ H R I q => h.run pins s σ H R I (w σ H R q)⟩
theorem si_ex (he : PE X e (lE X.K fe)) : PI X tg e (lI X.K fun s h => (fe s h).bnd fun x h => match x with
    | .tup xs => .ok (.vals xs) h
    | .fro xs => .ok (.vals xs) h
    | .ref l => (match h[l]? with
      | some (.lst _) => .ok (.lst l) h
      | _ => .bad)
    | .str x => .ok (.vals (x.cps.toList.map fun c => .str ⟨#[c]⟩)) h
    | _ => .bad) := by
  refine ⟨fun pins s σ H R I h => ?_⟩
  obtain ⟨ρ, s, h, S, Rs, po⟩ := h
  obtain ⟨v, h1, e1, po1⟩ := po.okOf
  cases v with
  | tup ps =>
    refine (pi_tup he).run _ _ σ H R I (lE.first S Rs po fun v' ρ1 H1 h1' u x1 S1 R1 e1' ru po1 => ?_)
    rw [e1] at e1'; cases e1'
    cases ru with
    | tup q r => exact ⟨_, rfl, ⟨_, q⟩, po1 ρ1 H1 .refl S1 _ (wk_tup q r)⟩
  | str x =>
    refine (pi_str he).run _ _ σ H R I (lE.first S Rs po fun v' ρ1 H1 h1' u x1 S1 R1 e1' ru po1 => ?_)
    rw [e1] at e1'; cases e1'
    exact ⟨x, ru.strV, po1 ρ1 H1 .refl S1 _ wk_str⟩
  | ref l =>
    refine (pi_list he).run _ _ σ H R I (lE.first S Rs po fun v' ρ1 H1 h1' u x1 S1 R1 e1' ru po1 => ?_)
    rw [e1] at e1'; cases e1'
    dsimp only at po1
    split at po1 <;> try exact po1.elim
    rename_i hl
    cases ru with
    | ref ea =>
      obtain ⟨xs, h2, r⟩ := S1.lst hl ea
      exact ⟨_, rfl, ⟨xs, SqL.of h2⟩, po1 ρ1 H1 .refl S1 _ (wk_lst ea)⟩
  | fro ps =>
    refine (pi_list he).run _ _ σ H R I (lE.first S Rs po fun v' ρ1 H1 h1' u x1 S1 R1 e1' ru po1 => ?_)
    rw [e1] at e1'; cases e1'
    cases ru with
    | fro q r => exact ⟨_, rfl, ⟨_, q.sq⟩, po1 ρ1 H1 .refl S1 _ (wk_fro q r)⟩
  | non => exact po1.elim
  | bl _ => exact po1.elim
  | int _ => exact po1.elim
theorem small_iff {i : Int} (h : small i = true) : -(2 ^ 62) ≤ i ∧ i < 2 ^ 62 := of_decide_eq_true h
theorem si_rng1 {a : Expr} {fa : PSt → PH → Out PV} (hg : Gl X "range") (hm : X.mg "range" = none) (ha : PE X a (lE X.K fa)) (hs : starEach [a] X.env = [(false, eval a X.env)]) :
    PI X tg (.Call (.Name "range" p) [a] [] pos) (lI X.K fun s h => (fa s h).bnd fun x h => match x with
      | .int n => if small n then .ok (.vals (rngI 0 n.toNat)) h else .bad
      | _ => .bad) :=
  (pi_range1 hg hm (pa_cons ha pa_nil (show starEach [a] X.env = (false, eval a X.env) :: starEach [] X.env from hs)) hs).weak fun σ H R h => by
    obtain ⟨ρ, s, h, S, Rs, po⟩ := h
    refine lE.first S Rs po fun v' ρ1 H1 h1' u x1 S1 R1 e1' ru po1 => ?_
    split at po1 <;> try exact po1.elim
    split at po1 <;> try exact po1.elim
    rename_i n hn
    obtain ⟨n1, n2⟩ := small_iff hn
    exact ⟨n, by rw [ru.intV], n1, n2, po1 ρ1 H1 .refl S1 _ wk_rng⟩
theorem si_rng2 {a b : Expr} {fa fb : PSt → PH → Out PV} (hg : Gl X "range") (hm : X.mg "range" = none) (ha : PE X a (lE X.K fa)) (hb : PE X b (lE X.K fb)) (hs : starEach [a, b] X.env = [(false, eval a X.env), (false, eval b X.env)])
    (hs2 : starEach [b] X.env = [(false, eval b X.env)]) :
    PI X tg (.Call (.Name "range" p) [a, b] [] pos) (lI X.K fun s h => (fa s h).bnd fun x h => (fb s h).bnd fun y h => match x, y with
      | .int i, .int j => if small i ∧ small j then .ok (.vals (rngI i (j - i).toNat)) h else .bad
      | _, _ => .bad) :=
  (pi_range2 hg hm (pa_cons ha (pa_cons hb pa_nil (show starEach [b] X.env = (false, eval b X.env) :: starEach [] X.env from hs2)) (by rw [hs, hs2])) hs hs2).weak fun σ H R h => by
    obtain ⟨ρ, s, h, S, Rs, po⟩ := h
    refine lE.first S Rs po fun v' ρ1 H1 h1' u x1 S1 R1 e1' ru po1 => lE.first S1 R1 po1 fun w ρ2 H2 h2 z x2 S2 R2 e2 rz po2 => ?_
    split at po2 <;> try exact po2.elim
    split at po2 <;> try exact po2.elim
    rename_i i j hn
    obtain ⟨n1, n2⟩ := small_iff hn.1
    obtain ⟨n3, n4⟩ := small_iff hn.2
    exact ⟨i, j, by rw [(ru.ext x2).intV, rz.intV], ⟨n1, n2, n3, n4⟩, po2 ρ2 H2 .refl S2 _ wk_rng⟩
end

/-! ### targets -/
def lT (K : Fg) (ws : List Nat) (f : PV → PSt → PH → Out PSt) : TG := fun v σ H Q => ∃ ρ s h p, Sim K ρ h H ∧ RepSt K ρ H s σ ∧ RepV K ρ H p v ∧
  PostG K ρ H (f p s h) fun s' ρ' H' => ∀ σ', RepSt K ρ' H' s' σ' → (∀ vs : List Nat, (∀ w ∈ ws, w ∈ vs) → wipe σ' vs = wipe σ vs) → Q σ' H'
theorem wipe_set {σ : L2.St} {i : Nat} {x : Option V} : ∀ {vs : List Nat}, i ∈ vs → wipe (σ.set i x) vs = wipe σ vs
  | [], h => by simp at h
  | v :: vs, h => by
    unfold wipe
    by_cases e : i = v
    · subst e
      have go : ∀ {vs : List Nat} {σ : L2.St}, (wipe (σ.set i x) vs).set i none = (wipe σ vs).set i none := by
        intro vs
        induction vs with
        | nil => intro σ; unfold wipe; rw [List.set_set]
        | cons w ws ih =>
          intro σ
          unfold wipe
          by_cases e : i = w
          · subst e
            rw [List.set_set, List.set_set]
            exact ih
          · rw [List.set_comm _ _ (Ne.symm e), ih, List.set_comm _ _ e]
      exact go
    · rw [wipe_set (by rcases List.mem_cons.mp h with q | q; exact absurd q e; exact q)]
theorem wipe_get {σ : L2.St} : ∀ (vs : List Nat) (i : Nat), (wipe σ vs)[i]? = if i ∈ vs then σ[i]?.map fun _ => none else σ[i]?
  | [], i => by simp [wipe]
  | v :: vs, i => by
    unfold wipe
    rw [List.getElem?_set]
    by_cases e : v = i
    · subst e
      simp only [if_true, List.mem_cons, true_or]
      rw [wipe_length]
      split
      · rename_i h; rw [List.getElem?_eq_getElem h]; rfl
      · rename_i h; rw [List.getElem?_eq_none (by omega)]; rfl
    · rw [if_neg e, wipe_get vs i]
      have : i ≠ v := Ne.symm e
      simp [this]
theorem wipe_wipe (σ : L2.St) (vs : List Nat) : wipe (wipe σ vs) vs = wipe σ vs := by
  apply List.ext_getElem?
  intro i
  rw [wipe_get, wipe_get]
  split
  · cases σ[i]? <;> rfl
  · rfl
theorem RepSt.set {K : Fg} {ρ : List Addr} {H : Hp} {s : PSt} {σ : L2.St} (R : RepSt K ρ H s σ) {p : PV} {v : V} (r : RepV K ρ H p v) (i : Nat) : RepSt K ρ H (s.set i (some p)) (σ.set i (some v)) := by
  refine ⟨by simp [R.1], fun j w e => ?_⟩
  by_cases hj : i = j
  · subst hj
    by_cases lt : i < s.length
    · rw [List.getElem?_set_self lt] at e
      cases e
      exact ⟨v, by rw [List.getElem?_set_self (by rw [← R.1]; exact lt)], r⟩
    · rw [List.getElem?_eq_none (by simpa using lt)] at e; cases e
  · rw [List.getElem?_set_ne hj] at e ⊢
    exact R.2 j w e
theorem RepSt.clear {K : Fg} {ρ : List Addr} {H : Hp} {s : PSt} {σ : L2.St} (R : RepSt K ρ H s σ) (i : Nat) : RepSt K ρ H (s.set i none) (σ.set i none) := by
  refine ⟨by simp [R.1], fun j w e => ?_⟩
  by_cases hj : i = j
  · subst hj
    by_cases lt : i < s.length
    · rw [List.getElem?_set_self lt] at e; cases e
    · rw [List.getElem?_eq_none (by simpa using lt)] at e; cases e
  · rw [List.getElem?_set_ne hj] at e ⊢
    exact R.2 j w e
theorem RepSt.wipe {K : Fg} {ρ : List Addr} {H : Hp} {s : PSt} {σ : L2.St} (R : RepSt K ρ H s σ) : ∀ vs : List Nat, RepSt K ρ H (wipeP s vs) (L2.wipe σ vs)
  | [] => R
  | v :: vs => (RepSt.wipe R vs).clear v
section
variable {X : Cx} {pos : Pos}
theorem _root_.L2.PG.weak {tg : Expr} {t t' : TG} (h : PG X tg t) (w : ∀ v σ H R, t' v σ H R → t v σ H R) : PG X tg t' := ⟨fun pins s σ H v u R I r q => h.run pins s σ H v u R I r (w v σ H R q)⟩
theorem sg_nm {x : Str} {i : Nat} (hN : X.N.Nodup) (hi : X.N[i]? = some x) (hx : Loc X.env.scope x) (hf : X.fn x = true ∨ X.env.scope.names.lookup x = some .local) : PG X (.Name x pos) (lT X.K [i] fun v s h => .ok (s.set i (some v)) h) :=
  (pg_name hN hi hx hf).weak fun v σ H Q h => by
    obtain ⟨ρ, s, h, p, S, R, r, po⟩ := h
    exact po ρ H .refl S _ (R.set r i) fun vs hv => wipe_set (hv i (by simp))
/-- names, one after the other -/
def lTs (K : Fg) (is : List Nat) : TGs := fun vs σ H Q => ∃ ρ s h ps, Sim K ρ h H ∧ RepSt K ρ H s σ ∧ RepVs K ρ H ps vs ∧ ∃ s', setAll s is ps = some s' ∧ ∀ σ', RepSt K ρ H s' σ' → (∀ vs : List Nat, (∀ w ∈ is, w ∈ vs) → wipe σ' vs = wipe σ vs) → Q σ' H
structure NameAt (X : Cx) (x : Str) (i : Nat) : Prop where
  ix : X.N[i]? = some x
  loc : Loc X.env.scope x
  fn : X.fn x = true ∨ X.env.scope.names.lookup x = some .local
theorem sgs_names (hN : X.N.Nodup) : ∀ {xs : List (Str × Pos)} {is : List Nat}, Paired (fun (x : Str × Pos) i => NameAt X x.1 i) xs is → PGs X (xs.map fun x => Expr.Name x.1 x.2) (lTs X.K is)
  | [], _, .nil => ⟨fun pins s σ H vs us Q I r h => by
    obtain ⟨ρ, s, h, ps, S, R, rp, s', e, k⟩ := h
    refine pgs_nil.run _ _ σ H vs us Q I r ?_
    cases rp with
    | nil =>
      simp [setAll] at e
      subst e
      exact ⟨rfl, k _ R fun _ _ => rfl⟩
    | cons _ _ => simp [setAll] at e⟩
  | x :: xs, i :: is, .cons n t => ⟨fun pins s σ H vs us Q I r h => by
    obtain ⟨ρ, s, h, ps, S, R, rp, s', e, k⟩ := h
    refine (pgs_cons (pg_name (pos := x.2) hN n.ix n.loc n.fn) (sgs_names hN t) (by rfl)).run _ _ σ H vs us Q I r ?_
    cases rp with
    | nil => simp [setAll] at e
    | cons q rr =>
      simp only [setAll] at e
      refine ⟨_, _, rfl, ρ, _, h, _, S, R.set q i, rr, s', e, fun σ' R' hw => k σ' R' fun vs hv => ?_⟩
      rw [hw vs fun w hw => hv w (List.mem_cons_of_mem _ hw)]
      exact wipe_set (hv i (by simp))⟩
theorem sg_tup (hc : X.calm = true) (hN : X.N.Nodup) {xs : List (Str × Pos)} {is : List Nat} {k : Nat} (n : Paired (fun (x : Str × Pos) i => NameAt X x.1 i) xs is) : PG X (.Tuple (xs.map fun x => Expr.Name x.1 x.2) k pos) (lT X.K is fun v s h => match v with
    | .tup vs => (match setAll s is vs with
      | some s => .ok s h
      | none => .bad)
    | _ => .bad) := by
  have hl : ∀ xs : List (Str × Pos), assignEach (xs.map fun x => Expr.Name x.1 x.2) X.env = xs.map fun x => (false, assign (.Name x.1 x.2) X.env) := by
    intro xs
    induction xs with
    | nil => rfl
    | cons x xs ih => rw [List.map_cons, List.map_cons, ← ih]; rfl
  refine (pg_tup (n := xs.length) hc (sgs_names hN n) (by rw [hl]; simp) ?_).weak fun v σ H Q h => ?_
  · rw [hl]
    rw [List.findIdx?_eq_none_iff]
    intro y hy
    obtain ⟨z, _, rfl⟩ := List.mem_map.mp hy
    rfl
  · obtain ⟨ρ, s, h, p, S, R, r, po⟩ := h
    dsimp only at po
    split at po <;> try exact po.elim
    rename_i vs
    split at po <;> try exact po.elim
    rename_i s' e
    cases r with
    | tup q rr =>
      refine ⟨_, _, rfl, q, ?_, ρ, s, h, vs, S, R, rr, s', e, fun σ' R' hw => po ρ H .refl S σ' R' hw⟩
      rw [← rr.length]
      have go : ∀ {is : List Nat} {s : PSt} {vs : List PV} {s'}, setAll s is vs = some s' → vs.length = is.length := by
        intro is
        induction is with
        | nil => intro s vs s' e; cases vs <;> simp [setAll] at e ⊢
        | cons i is ih => intro s vs s' e; cases vs with
          | nil => simp [setAll] at e
          | cons v vs => simp only [setAll] at e; simp [ih e]
      rw [go e]
      exact n.length.symm
end
end MP

set_option Elab.async false
set_option linter.all false
set_option maxRecDepth 100000
set_option maxHeartbeats 1000000
namespace MP
open PySem PySem.Spec PyProof.Rows L2

/-! ### o[i] = v -/
section
variable {X : Cx} {o i : Expr} {fo fi : PSt → PH → Out PV} {pos : Pos}
def rSet (K : Fg) : TSet := fun o i v H Q => ∃ ρ h p q r, Sim K ρ h H ∧ RepV K ρ H p o ∧ RepV K ρ H q i ∧ RepV K ρ H r v ∧ PostG K ρ H (setF p q r h) fun _ _ H' => Q H'
theorem set_ok (hu : X.A.units + 65 < cLine) : PSet X (rSet X.K) := by
  intro pins s σ H o i v ov iv u Q I ro ri rv h
  obtain ⟨ρ, h, p, q, r, S, rp, rq, rr, po⟩ := h
  unfold setF at po
  split at po <;> try exact po.elim
  rename_i l
  split at po <;> try exact po.elim
  · rename_i xs hl
    split at po <;> try exact po.elim
    rename_i k
    split at po <;> try exact po.elim
    rename_i j hj
    cases rp with
    | ref ea =>
      obtain ⟨vs, e1, r1⟩ := S.lst hl ea
      exact set_list pins s σ H _ _ v ov iv u Q I ro ri rv ⟨_, vs, k, j, rfl, rq.intV, e1, by rw [← r1.length]; exact hj, po ρ _ (Ext.set S ea (nfL e1)) (S.set ea (wroteL S ea (r1.set rr j)))⟩
  · rename_i kvs hl
    split at po <;> try exact po.elim
    rename_i hk
    cases rp with
    | ref ea =>
      obtain ⟨ks, e1, r1⟩ := S.dic hl ea
      obtain ⟨kk, ek⟩ := keyOf_some hk.1
      cases ro
      exact d_setItem (A := X.A) (by omega) I (DPut.k (k := kk) (v := v) e1 (by rw [← r1.length]; exact hk.2)) (keyOf_V ek rq ▸ ri) rv fun s' I' => ⟨_, I', po ρ _ (Ext.set S ea (nfD e1)) (S.set ea (wroteD S ea (r1.put ek rr)))⟩
theorem sg_sub (hu : X.A.units + 65 < cLine) (ho : PE X o (lE X.K fo)) (hi : PE X i (lE X.K fi))
    (ha : ∀ v, assign (.Subscript o i pos) X.env v = (do
      let ov ← holding [v] (eval o X.env)
      let iv ← holding [v, ov] (eval i X.env)
      standAt pos
      holding [v, ov, iv] (setItem ov iv v)
      release [v, ov, iv] [])) : PG X (.Subscript o i pos) (lT X.K [] fun v s h => (fo s h).bnd fun x h => (fi s h).bnd fun y h => (setF x y v h).bnd fun _ h => .ok s h) :=
  (pg_sub ho hi (set_ok hu) ha).weak fun v σ H Q h => by
    obtain ⟨ρ, s, h, p, S, R, r, po⟩ := h
    refine lE.first S R po fun w ρ1 H1 h1 u x1 S1 R1 e1 ru po1 => lE.first S1 R1 po1 fun z ρ2 H2 h2 t x2 S2 R2 e2 rt po2 => ?_
    refine ⟨ρ2, h2, w, z, p, S2, ru.ext x2, rt, (r.ext x1).ext x2, (PostG.bnd po2).mono fun _ ρ' H' x ⟨h', S', po'⟩ => ?_⟩
    exact po' ρ' H' .refl S' _ (R2.ext x) fun _ _ => rfl
end

/-! ### comprehensions -/
section
variable {K : Fg} {ρ ρ' ρ1 : List Addr} {H H' H1 : Hp} {h : PH}
theorem Ext.own {D : Addr} {u o : HO} (x : Ext K ρ1 H1 ρ H) (hD : H1 D = none) (hu : H D = some u) (h1 : ∀ xs, u ≠ .tup xs) (h2 : ∀ ob xs, u ≠ .frz ob (.tup xs) ∧ u ≠ .frz ob (.lst xs)) (h3 : ∀ ob w, u ≠ .frz ob w) : Ext K ρ1 H1 ρ (upd H D o) where
  pre := x.pre
  tup := fun a xs q => SqI.upd_old hu h1 h2 (x.tup a xs q)
  frm := fun a ob e n => by rw [upd_ne (ne_of_none e hD)]; exact x.frm a ob e n
  new := x.new
  lck := fun a ob ks e => by rw [upd_ne (ne_of_none e hD)]; exact x.lck a ob ks e
theorem Sim.own {D : Addr} {u o : HO} (S : Sim K ρ h H) (hn : D ∉ ρ) (hu : H D = some u) (h1 : ∀ xs, u ≠ .tup xs) (h2 : ∀ ob xs, u ≠ .frz ob (.tup xs) ∧ u ≠ .frz ob (.lst xs)) : Sim K ρ h (upd H D o) :=
  ⟨S.len, S.nd, fun l ob a e f => (S.ob l ob a e f).mono (fun _ _ e => e) (fun _ _ q => SqI.upd_old hu h1 h2 q) (by rw [upd_ne]; intro z; subst z; exact hn (mem_of_get f))⟩
theorem Sim.adopt {D : Addr} {po : PO} (S : Sim K ρ h H) (hn : D ∉ ρ) (r : RepO K ρ H po D) : Sim K (ρ ++ [D]) (h ++ [po]) H := by
  have pre : ∀ (l : Nat) a, ρ[l]? = some a → (ρ ++ [D])[l]? = some a := fun l a e => by rw [List.getElem?_append_left (List.getElem?_eq_some_iff.mp e).1]; exact e
  refine ⟨by simp [S.len], ?_, fun l ob a e f => ?_⟩
  · refine List.nodup_append.mpr ⟨S.nd, by simp, fun a ha b hb e => ?_⟩
    have : b = D := by simpa using hb
    subst this e
    exact hn ha
  · by_cases lt : l < h.length
    · rw [List.getElem?_append_left lt] at e
      rw [List.getElem?_append_left (by rw [S.len]; exact lt)] at f
      exact (S.ob l ob a e f).mono pre (fun _ _ q => q) rfl
    · have e2 : l = h.length := by
        have := (List.getElem?_eq_some_iff.mp e).1
        simp at this; omega
      subst e2
      rw [List.getElem?_append_right (Nat.le_refl _)] at e
      rw [List.getElem?_append_right (by rw [S.len]; exact Nat.le_refl _)] at f
      simp [S.len] at e f
      subst e f
      exact r.mono pre (fun _ _ q => q) rfl
theorem Ext.adopt {D : Addr} (x : Ext K ρ1 H1 ρ H) (hD : H1 D = none) : Ext K ρ1 H1 (ρ ++ [D]) H where
  pre := fun l a e => by
    have := x.pre l a e
    rw [List.getElem?_append_left (List.getElem?_eq_some_iff.mp this).1]; exact this
  tup := x.tup
  lck := x.lck
  frm := x.frm
  new := fun a e => by
    rcases List.mem_append.mp e with e | e
    · exact x.new a e
    · have : a = D := by simpa using e
      subst this
      exact .inr hD
theorem Ext.notin {D : Addr} {u : HO} (x : Ext K ρ H ρ' H') (hn : D ∉ ρ) (hu : H D = some u) : D ∉ ρ' ∧ H' D = some u := by
  refine ⟨fun e => ?_, x.frm D u hu hn⟩
  rcases x.new D e with q | q
  · exact hn q
  · rw [hu] at q; cases q
/-- an outcome's way: it is known, and what is wanted follows from the base -/
theorem PostG.okOf' {α β : Type} {o : Out α} {g : α → PH → Out β} {R : β → List Addr → Hp → Prop} (po : PostG K ρ H (o.bnd g) R) : ∃ v h', o = .ok v h' := let ⟨v, h', e, _⟩ := po.okOf; ⟨v, h', e⟩
end
section
variable {K : Fg} {fi : PSt → PH → Out MP.Itr} {fg : PV → PSt → PH → Out PSt} {ft : PSt → PH → Out Bool} {fe fk : PSt → PH → Out PV} {ws vs : List Nat} {σ : L2.St} {H : Hp} {Q : VK}
/-- the turn of a list comprehension -/
def lcTurn (fg : PV → PSt → PH → Out PSt) (ft : PSt → PH → Out Bool) (fe : PSt → PH → Out PV) (vs : List Nat) (s : PSt) (acc : List PV) (x : PV) (h : PH) : Out (List PV) :=
  (fg x (wipeP s vs) h).bnd fun s2 h => (ft s2 h).bnd fun k h => if k = true then (fe s2 h).bnd fun y h => if acc.length < sizeLine then .ok (acc ++ [y]) h else .bad else .ok acc h
theorem lc_read (hw : ∀ w ∈ ws, w ∈ vs) (q : lE K (fun s h => (fi s h).bnd fun r h => (each (lcTurn fg ft fe vs s) r [] h).bnd fun acc h => new (.lst acc) h) σ H Q) : tLc (lI K fi) (lT K ws fg) (lB K ft) (lE K fe) vs σ H Q := by
  obtain ⟨ρ, s, h, S, R, po⟩ := q
  refine ⟨ρ, s, h, S, R, ?_⟩
  obtain ⟨it, h1, e1, po1⟩ := po.okOf
  rw [e1]
  intro ρ1 H1 x1 S1 J wk D hD
  have po1 := PostG.ext po1 x1
  have R1 := R.ext x1
  refine ⟨fun i m H2 => ∃ ρ2 h2 acc us, Ext K ρ1 H1 ρ2 H2 ∧ Sim K ρ2 h2 H2 ∧ H2 D = some (.lst us) ∧ D ∉ ρ2 ∧ RepVs K ρ2 H2 acc us ∧ PostV K ρ1 H1 ((eachI (lcTurn fg ft fe vs s) it m i acc h2).bnd fun acc h => new (.lst acc) h) Q, ⟨it.fuel, ?_⟩, ?_⟩
  · refine ⟨ρ1, h1, [], [], Ext.tuple hD, S1.tuple hD, upd_same, fun z => ?_, .nil, po1⟩
    obtain ⟨u, hu, _⟩ := S1.tracked z
    rw [hD] at hu; cases hu
  · rintro i m H2 ⟨ρ2, h2, acc, us, x2, S2, hD2, nD2, ra, po2⟩
    cases m with
    | zero => exact (show False from po2).elim
    | succ m =>
      unfold eachI at po2
      obtain ⟨wstop, wgo⟩ := wk ρ2 h2 H2 i x2 S2
      cases es : itStep it i h2 with
      | none => rw [es] at po2; exact (show False from po2).elim
      | some o =>
        rw [es] at po2
        cases o with
        | none =>
          refine .inl ⟨wstop es, ?_⟩
          have po2 : PostV K ρ1 H1 (new (.lst acc) h2) Q := po2
          exact po2 (ρ2 ++ [D]) H2 (x2.adopt hD) (S2.adopt nD2 ⟨us, hD2, ra⟩) _ (.ref (push_at S2 D))
        | some p =>
          obtain ⟨go, yl⟩ := wgo p es
          refine .inr ⟨go, _, fun H' n => ⟨m, Nat.lt_succ_self m, n⟩, fun x H3 hy => ?_⟩
          obtain ⟨x3, S3, rp⟩ := yl x H3 hy
          have po3 : PostV K ρ1 H1 (((lcTurn fg ft fe vs s acc p h2).bnd fun a h => eachI (lcTurn fg ft fe vs s) it m (i + 1) a h).bnd fun acc h => new (.lst acc) h) Q := po2
          rw [Out.bnd_bnd] at po3
          obtain ⟨acc', h9, e9, po9⟩ := po3.okOf
          have R3 : RepSt K ρ2 H3 (wipeP s vs) (wipe σ vs) := (R1.ext (x2.trans x3)).wipe vs
          refine ⟨ρ2, _, h2, p, S3, R3, rp, ?_⟩
          unfold lcTurn at e9
          cases e4 : fg p (wipeP s vs) h2 with
          | exc _ _ => rw [e4] at e9; cases e9
          | bad => rw [e4] at e9; cases e9
          | ok s4 h4 =>
            rw [e4] at e9
            have e9 : ((ft s4 h4).bnd fun k h => if k = true then (fe s4 h).bnd fun y h => if acc.length < sizeLine then Out.ok (acc ++ [y]) h else .bad else .ok acc h) = .ok acc' h9 := e9
            intro ρ4 H4 x4 S4 σ4 R4 hwp
            have hwp' := hwp vs hw
            refine ⟨by rw [hwp', wipe_wipe], ?_⟩
            cases e5 : ft s4 h4 with
            | exc _ _ => rw [e5] at e9; cases e9
            | bad => rw [e5] at e9; cases e9
            | ok k h5 =>
              rw [e5] at e9
              have e9 : (if k = true then (fe s4 h5).bnd fun y h => if acc.length < sizeLine then Out.ok (acc ++ [y]) h else .bad else .ok acc h5) = .ok acc' h9 := e9
              refine ⟨ρ4, s4, h4, S4, R4, ?_⟩
              rw [e5]
              intro ρ5 H5 x5 S5
              have x25 := (x3.trans x4).trans x5
              obtain ⟨nD5, hD5⟩ := x25.notin nD2 hD2
              cases k with
              | false =>
                rw [if_neg Bool.false_ne_true] at e9
                cases e9
                refine iteF ?_
                exact ⟨ρ5, _, acc, us, x2.trans x25, S5, hD5, nD5, ra.ext x25, po9⟩
              | true =>
                rw [if_pos rfl] at e9
                refine iteT ?_
                refine ⟨ρ5, s4, h5, S5, R4.ext x5, ?_⟩
                cases e6 : fe s4 h5 with
                | exc _ _ => rw [e6] at e9; cases e9
                | bad => rw [e6] at e9; cases e9
                | ok y h6 =>
                  rw [e6] at e9
                  have e9 : (if acc.length < sizeLine then Out.ok (acc ++ [y]) h6 else .bad) = .ok acc' h9 := e9
                  split at e9 <;> try (cases e9; done)
                  rename_i hz
                  cases e9
                  intro ρ6 H6 x6 S6 Y ry
                  obtain ⟨nD6, hD6⟩ := x6.notin nD5 hD5
                  have n1 : ∀ xs, HO.lst us ≠ .tup xs := fun _ => nofun
                  have n2 : ∀ ob xs, HO.lst us ≠ .frz ob (.tup xs) ∧ HO.lst us ≠ .frz ob (.lst xs) := fun _ _ => ⟨nofun, nofun⟩
                  refine ⟨us, hD6, by rw [← ra.length]; exact hz, ρ6, _, acc ++ [y], us ++ [Y], ((x2.trans x25).trans x6).own hD hD6 n1 n2 (fun _ _ => nofun), S6.own nD6 hD6 n1 n2, upd_same, nD6, ?_, po9⟩
                  exact ((ra.ext (x25.trans x6)).append (.cons ry .nil)).mono (fun _ _ e => e) fun _ _ q => SqI.upd_old hD6 n1 n2 q
/-- the turn of a dict comprehension -/
def dcTurn (fg : PV → PSt → PH → Out PSt) (ft : PSt → PH → Out Bool) (fk fe : PSt → PH → Out PV) (vs : List Nat) (s : PSt) (acc : List (PV × PV)) (x : PV) (h : PH) : Out (List (PV × PV)) :=
  (fg x (wipeP s vs) h).bnd fun s2 h => (ft s2 h).bnd fun k h => if k = true then (fk s2 h).bnd fun y h => (fe s2 h).bnd fun z h => if isKey y ∧ acc.length < sizeLine then .ok (dPut acc y z) h else .bad else .ok acc h
theorem dc_read (hw : ∀ w ∈ ws, w ∈ vs) (q : lE K (fun s h => (fi s h).bnd fun r h => (each (dcTurn fg ft fk fe vs s) r [] h).bnd fun acc h => new (.dic acc) h) σ H Q) : tDc (lI K fi) (lT K ws fg) (lB K ft) (lE K fk) (lE K fe) vs σ H Q := by
  obtain ⟨ρ, s, h, S, R, po⟩ := q
  refine ⟨ρ, s, h, S, R, ?_⟩
  obtain ⟨it, h1, e1, po1⟩ := po.okOf
  rw [e1]
  intro ρ1 H1 x1 S1 J wk D hD
  have po1 := PostG.ext po1 x1
  have R1 := R.ext x1
  refine ⟨fun i m H2 => ∃ ρ2 h2 acc us, Ext K ρ1 H1 ρ2 H2 ∧ Sim K ρ2 h2 H2 ∧ H2 D = some (.dK us) ∧ D ∉ ρ2 ∧ RepKs K ρ2 H2 acc us ∧ PostV K ρ1 H1 ((eachI (dcTurn fg ft fk fe vs s) it m i acc h2).bnd fun acc h => new (.dic acc) h) Q, ⟨it.fuel, ?_⟩, ?_⟩
  · refine ⟨ρ1, h1, [], [], Ext.tuple hD, S1.tuple hD, upd_same, fun z => ?_, .nil, po1⟩
    obtain ⟨u, hu, _⟩ := S1.tracked z
    rw [hD] at hu; cases hu
  · rintro i m H2 ⟨ρ2, h2, acc, us, x2, S2, hD2, nD2, ra, po2⟩
    cases m with
    | zero => exact (show False from po2).elim
    | succ m =>
      unfold eachI at po2
      obtain ⟨wstop, wgo⟩ := wk ρ2 h2 H2 i x2 S2
      cases es : itStep it i h2 with
      | none => rw [es] at po2; exact (show False from po2).elim
      | some o =>
        rw [es] at po2
        cases o with
        | none =>
          refine .inl ⟨wstop es, ?_⟩
          have po2 : PostV K ρ1 H1 (new (.dic acc) h2) Q := po2
          exact po2 (ρ2 ++ [D]) H2 (x2.adopt hD) (S2.adopt nD2 ⟨us, hD2, ra⟩) _ (.ref (push_at S2 D))
        | some p =>
          obtain ⟨go, yl⟩ := wgo p es
          refine .inr ⟨go, _, fun H' n => ⟨m, Nat.lt_succ_self m, n⟩, fun x H3 hy => ?_⟩
          obtain ⟨x3, S3, rp⟩ := yl x H3 hy
          have po3 : PostV K ρ1 H1 (((dcTurn fg ft fk fe vs s acc p h2).bnd fun a h => eachI (dcTurn fg ft fk fe vs s) it m (i + 1) a h).bnd fun acc h => new (.dic acc) h) Q := po2
          rw [Out.bnd_bnd] at po3
          obtain ⟨acc', h9, e9, po9⟩ := po3.okOf
          have R3 : RepSt K ρ2 H3 (wipeP s vs) (wipe σ vs) := (R1.ext (x2.trans x3)).wipe vs
          refine ⟨ρ2, _, h2, p, S3, R3, rp, ?_⟩
          unfold dcTurn at e9
          cases e4 : fg p (wipeP s vs) h2 with
          | exc _ _ => rw [e4] at e9; cases e9
          | bad => rw [e4] at e9; cases e9
          | ok s4 h4 =>
            rw [e4] at e9
            have e9 : ((ft s4 h4).bnd fun k h => if k = true then (fk s4 h).bnd fun y h => (fe s4 h).bnd fun z h => if isKey y ∧ acc.length < sizeLine then Out.ok (dPut acc y z) h else .bad else .ok acc h) = .ok acc' h9 := e9
            intro ρ4 H4 x4 S4 σ4 R4 hwp
            have hwp' := hwp vs hw
            refine ⟨by rw [hwp', wipe_wipe], ?_⟩
            cases e5 : ft s4 h4 with
            | exc _ _ => rw [e5] at e9; cases e9
            | bad => rw [e5] at e9; cases e9
            | ok k h5 =>
              rw [e5] at e9
              have e9 : (if k = true then (fk s4 h5).bnd fun y h => (fe s4 h).bnd fun z h => if isKey y ∧ acc.length < sizeLine then Out.ok (dPut acc y z) h else .bad else .ok acc h5) = .ok acc' h9 := e9
              refine ⟨ρ4, s4, h4, S4, R4, ?_⟩
              rw [e5]
              intro ρ5 H5 x5 S5
              have x25 := (x3.trans x4).trans x5
              obtain ⟨nD5, hD5⟩ := x25.notin nD2 hD2
              cases k with
              | false =>
                rw [if_neg Bool.false_ne_true] at e9
                cases e9
                refine iteF ?_
                exact ⟨ρ5, _, acc, us, x2.trans x25, S5, hD5, nD5, ra.ext x25, po9⟩
              | true =>
                rw [if_pos rfl] at e9
                refine iteT ?_
                refine ⟨ρ5, s4, h5, S5, R4.ext x5, ?_⟩
                cases e6 : fk s4 h5 with
                | exc _ _ => rw [e6] at e9; cases e9
                | bad => rw [e6] at e9; cases e9
                | ok y h6 =>
                  rw [e6] at e9
                  have e9 : ((fe s4 h6).bnd fun z h => if isKey y ∧ acc.length < sizeLine then Out.ok (dPut acc y z) h else .bad) = .ok acc' h9 := e9
                  intro ρ6 H6 x6 S6 Y ry
                  refine ⟨ρ6, s4, h6, S6, (R4.ext x5).ext x6, ?_⟩
                  cases e7 : fe s4 h6 with
                  | exc _ _ => rw [e7] at e9; cases e9
                  | bad => rw [e7] at e9; cases e9
                  | ok z h7 =>
                    rw [e7] at e9
                    have e9 : (if isKey y ∧ acc.length < sizeLine then Out.ok (dPut acc y z) h7 else .bad) = .ok acc' h9 := e9
                    split at e9 <;> try (cases e9; done)
                    rename_i hz
                    cases e9
                    intro ρ7 H7 x7 S7 Z rz
                    obtain ⟨nD6, hD6⟩ := (x6.trans x7).notin nD5 hD5
                    obtain ⟨kk, ek⟩ := keyOf_some hz.1
                    have n1 : ∀ xs, HO.dK us ≠ .tup xs := fun _ => nofun
                    have n2 : ∀ ob xs, HO.dK us ≠ .frz ob (.tup xs) ∧ HO.dK us ≠ .frz ob (.lst xs) := fun _ _ => ⟨nofun, nofun⟩
                    refine ⟨us, kk, keyOf_V ek ry, hD6, by rw [← ra.length]; exact hz.2, ρ7, _, dPut acc y z, putK us kk Z, ((x2.trans x25).trans (x6.trans x7)).own hD hD6 n1 n2 (fun _ _ => nofun), S7.own nD6 hD6 n1 n2, upd_same, nD6, ?_, po9⟩
                    exact ((ra.ext (x25.trans (x6.trans x7))).put ek rz).mono (fun _ _ e => e) fun _ _ q => SqI.upd_old hD6 n1 n2 q
end
section
variable {X : Cx} {elt kx tg iter : Expr} {ifs : List Expr} {scope : Scope} {own : List (Str × Nat)} {pos : Pos} {fi : PSt → PH → Out MP.Itr} {fg : PV → PSt → PH → Out PSt} {ft : PSt → PH → Out Bool} {fe fk : PSt → PH → Out PV} {ws : List Nat}
theorem se_lc (hc : X.calm = true) (hN : X.N.Nodup) (hi : PI X tg iter (lI X.K fi)) (ok : BlkOk X.N X.env.scope scope own) (hw : ∀ w ∈ ws, w ∈ own.map (·.2))
    (hg : ∀ (s : Shared) (H : Hp) (C : Addr) (cl : List (Str × Addr)) (fp : List Addr), PG (X.blk s H scope (compEnvC scope cl C X.env) fp) tg (lT X.K ws fg)) (ht : ∀ (s : Shared) (H : Hp) (C : Addr) (cl : List (Str × Addr)) (fp : List Addr), PTs (X.blk s H scope (compEnvC scope cl C X.env) fp) ifs (lB X.K ft))
    (he : ∀ (s : Shared) (H : Hp) (C : Addr) (cl : List (Str × Addr)) (fp : List Addr), PE (X.blk s H scope (compEnvC scope cl C X.env) fp) elt (lE X.K fe)) (hs : ∀ x, foldedSetIterable iter X.env x = pure x) :
    PE X (.ListComp elt [⟨tg, iter, ifs, 0⟩] scope pos) (lE X.K fun s h => (fi s h).bnd fun r h => (each (lcTurn fg ft fe (own.map (·.2)) s) r [] h).bnd fun acc h => new (.lst acc) h) :=
  (pe_lc hc hN hi ok hg ht he hs).weak fun σ H Q h => lc_read hw h
theorem se_dc (hc : X.calm = true) (hN : X.N.Nodup) (hi : PI X tg iter (lI X.K fi)) (ok : BlkOk X.N X.env.scope scope own) (hw : ∀ w ∈ ws, w ∈ own.map (·.2))
    (hg : ∀ (s : Shared) (H : Hp) (C : Addr) (cl : List (Str × Addr)) (fp : List Addr), PG (X.blk s H scope (compEnvC scope cl C X.env) fp) tg (lT X.K ws fg)) (ht : ∀ (s : Shared) (H : Hp) (C : Addr) (cl : List (Str × Addr)) (fp : List Addr), PTs (X.blk s H scope (compEnvC scope cl C X.env) fp) ifs (lB X.K ft))
    (hk : ∀ (s : Shared) (H : Hp) (C : Addr) (cl : List (Str × Addr)) (fp : List Addr), PE (X.blk s H scope (compEnvC scope cl C X.env) fp) kx (lE X.K fk))
    (he : ∀ (s : Shared) (H : Hp) (C : Addr) (cl : List (Str × Addr)) (fp : List Addr), PE (X.blk s H scope (compEnvC scope cl C X.env) fp) elt (lE X.K fe)) (hs : ∀ x, foldedSetIterable iter X.env x = pure x) :
    PE X (.DictComp kx elt [⟨tg, iter, ifs, 0⟩] scope pos) (lE X.K fun s h => (fi s h).bnd fun r h => (each (dcTurn fg ft fk fe (own.map (·.2)) s) r [] h).bnd fun acc h => new (.dic acc) h) :=
  (pe_dc hc hN hi ok hg ht hk he hs).weak fun σ H Q h => dc_read hw h
end
end MP

set_option Elab.async false
set_option linter.all false
set_option maxRecDepth 100000
set_option maxHeartbeats 1000000
namespace MP
open PySem PySem.Spec PyProof.Rows L2

def PostS (K : Fg) (ρ : List Addr) (H : Hp) (o : SO) (D : Ends) : Prop :=
  match o with
  | .nx s h => ∀ ρ' H' σ', Ext K ρ H ρ' H' → Sim K ρ' h H' → RepSt K ρ' H' s σ' → D.nx σ' H'
  | .rt v h => ∀ ρ' H' V, Ext K ρ H ρ' H' → Sim K ρ' h H' → RepV K ρ' H' v V → D.rt V H'
  | .bk s h => ∀ ρ' H' σ', Ext K ρ H ρ' H' → Sim K ρ' h H' → RepSt K ρ' H' s σ' → D.bk σ' H'
  | .ct s h => ∀ ρ' H' σ', Ext K ρ H ρ' H' → Sim K ρ' h H' → RepSt K ρ' H' s σ' → D.ct σ' H'
  | _ => False
def lS (K : Fg) (f : PSt → PH → SO) : TS := fun D σ H => ∃ ρ s h, Sim K ρ h H ∧ RepSt K ρ H s σ ∧ PostS K ρ H (f s h) D

section
variable {K : Fg} {ρ ρ1 : List Addr} {H H1 : Hp} {h : PH} {σ : L2.St} {s : PSt} {D : Ends}
theorem PostS.ext {o : SO} (p : PostS K ρ H o D) (x : Ext K ρ H ρ1 H1) : PostS K ρ1 H1 o D := by
  cases o with
  | nx s h => exact fun ρ' H' σ' y S R => p ρ' H' σ' (x.trans y) S R
  | rt s h => exact fun ρ' H' σ' y S R => p ρ' H' σ' (x.trans y) S R
  | bk s h => exact fun ρ' H' σ' y S R => p ρ' H' σ' (x.trans y) S R
  | ct s h => exact fun ρ' H' σ' y S R => p ρ' H' σ' (x.trans y) S R
  | exc _ _ => exact p
  | bad => exact p
theorem PostS.okOf {α : Type} {o : Out α} {g : α → PH → SO} (po : PostS K ρ H (o.sbnd g) D) : ∃ v h', o = .ok v h' ∧ PostS K ρ H (g v h') D := by
  cases o with
  | ok v h' => exact ⟨v, h', rfl, po⟩
  | exc _ _ => exact po.elim
  | bad => exact po.elim
theorem lE.sfirst {f : PSt → PH → Out PV} {g : PV → PH → SO} {Q : VK} (S : Sim K ρ h H) (Rs : RepSt K ρ H s σ) (po : PostS K ρ H ((f s h).sbnd g) D)
    (k : ∀ v ρ' H' h' u, Ext K ρ H ρ' H' → Sim K ρ' h' H' → RepSt K ρ' H' s σ → RepV K ρ' H' v u → PostS K ρ' H' (g v h') D → Q u H') : lE K f σ H Q := by
  refine ⟨ρ, s, h, S, Rs, ?_⟩
  obtain ⟨v, h', e, po'⟩ := po.okOf
  rw [e]
  exact fun ρ' H' x S' u ru => k v ρ' H' h' u x S' (Rs.ext x) ru (po'.ext x)
theorem lB.sfirst {f : PSt → PH → Out Bool} {g : Bool → PH → SO} {Q : Bool → Hp → Prop} (S : Sim K ρ h H) (Rs : RepSt K ρ H s σ) (po : PostS K ρ H ((f s h).sbnd g) D)
    (k : ∀ v ρ' H' h', Ext K ρ H ρ' H' → Sim K ρ' h' H' → RepSt K ρ' H' s σ → PostS K ρ' H' (g v h') D → Q v H') : lB K f σ H Q := by
  refine ⟨ρ, s, h, S, Rs, ?_⟩
  obtain ⟨v, h', e, po'⟩ := po.okOf
  rw [e]
  exact fun ρ' H' x S' => k v ρ' H' h' x S' (Rs.ext x) (po'.ext x)
end

section
variable {X : Cx} {e c : Expr} {st : Stmt} {sts a b : List Stmt} {fe : PSt → PH → Out PV} {gc : PSt → PH → Out Bool} {f g : PSt → PH → SO} {pos : Pos}
theorem _root_.L2.PS.weak {t t' : TS} (h : PS X st t) (w : ∀ D σ H, t' D σ H → t D σ H) : PS X st t' := ⟨fun pins s σ H D I q => h.run pins s σ H D I (w D σ H q)⟩
theorem _root_.L2.PSs.weak {t t' : TS} (h : PSs X sts t) (w : ∀ D σ H, t' D σ H → t D σ H) : PSs X sts t' := ⟨fun pins s σ H D I q => h.run pins s σ H D I (w D σ H q)⟩
theorem ss_pass : PS X (.Pass pos) (lS X.K fun s h => .nx s h) := ps_pass.weak fun D σ H ⟨ρ, s, h, S, R, po⟩ => po ρ H σ .refl S R
theorem ss_brk : PS X (.Break pos) (lS X.K fun s h => .bk s h) := ps_break.weak fun D σ H ⟨ρ, s, h, S, R, po⟩ => po ρ H σ .refl S R
theorem ss_cont : PS X (.Continue pos) (lS X.K fun s h => .ct s h) := ps_continue.weak fun D σ H ⟨ρ, s, h, S, R, po⟩ => po ρ H σ .refl S R
theorem ss_retN : PS X (.Return none pos) (lS X.K fun s h => .rt .non h) := ps_retN.weak fun D σ H ⟨ρ, s, h, S, R, po⟩ => po ρ H _ .refl S .non
theorem ss_ret (he : PE X e (lE X.K fe)) : PS X (.Return (some e) pos) (lS X.K fun s h => (fe s h).sbnd fun v h => .rt v h) :=
  (ps_ret he).weak fun D σ H ⟨ρ, s, h, S, R, po⟩ => lE.sfirst S R po fun v ρ' H' h' u x S' R' ru po' => po' ρ' H' u .refl S' ru
theorem ss_ex (he : PE X e (lE X.K fe)) (hs : swapsWith e none pos.line X.env = pure false) : PS X (.Expr e pos) (lS X.K fun s h => (fe s h).sbnd fun _ h => .nx s h) :=
  (ps_expr he hs).weak fun D σ H ⟨ρ, s, h, S, R, po⟩ => lE.sfirst S R po fun v ρ' H' h' u x S' R' ru po' => po' ρ' H' σ .refl S' R'
theorem ss_never : PS X st (lS X.K fun _ _ => .bad) := ps_never.weak fun D σ H ⟨ρ, s, h, S, R, po⟩ => po
theorem asg_read {ws : List Nat} {fg : PV → PSt → PH → Out PSt} {D : Ends} {σ : L2.St} {H : Hp} (q : lS X.K (fun s h => (fe s h).sbnd fun v h => (fg v s h).sbnd fun s h => .nx s h) D σ H) : tAsg (lE X.K fe) (lT X.K ws fg) D σ H := by
  obtain ⟨ρ, s, h, S, R, po⟩ := q
  refine lE.sfirst S R po fun v ρ' H' h' u x S' R' ru po' => ⟨ρ', s, h', v, S', R', ru, ?_⟩
  obtain ⟨s2, h2, e2, po2⟩ := po'.okOf
  rw [e2]
  exact fun ρ2 H2 x2 S2 σ2 R2 _ => po2 ρ2 H2 σ2 x2 S2 R2
theorem ss_asg {ws : List Nat} {tg : Expr} {fg : PV → PSt → PH → Out PSt} (he : PE X e (lE X.K fe)) (hg : PG X tg (lT X.K ws fg)) (hs : swapsWithSole [tg] e pos.line X.env = pure false) (hw : swappedStores [tg] e X.env = pure none)
    (h1 : (assignEach [tg] X.env).map (·.2) = [assign tg X.env]) : PS X (.Assign [tg] e pos) (lS X.K fun s h => (fe s h).sbnd fun v h => (fg v s h).sbnd fun s h => .nx s h) :=
  (ps_asg he hg hs hw h1).weak fun D σ H q => asg_read q
theorem ss_if (hc : PT X c (lB X.K gc)) (ha : PSs X a (lS X.K f)) (hb : PSs X b (lS X.K g)) : PS X (.If c a b pos) (lS X.K fun s h => (gc s h).sbnd fun k h => if k = true then f s h else g s h) :=
  (ps_if hc ha hb).weak fun D σ H ⟨ρ, s, h, S, R, po⟩ => lB.sfirst S R po fun k ρ' H' h' x S' R' po' => by
    cases k with
    | true => rw [if_pos rfl] at po'; exact iteT ⟨ρ', s, h', S', R', po'⟩
    | false => rw [if_neg Bool.false_ne_true] at po'; exact iteF ⟨ρ', s, h', S', R', po'⟩
theorem sss_nil : PSs X [] (lS X.K fun s h => .nx s h) := pss_nil.weak fun D σ H ⟨ρ, s, h, S, R, po⟩ => po ρ H σ .refl S R
theorem sss_cons (h1 : PS X st (lS X.K f)) (h2 : PSs X sts (lS X.K g)) : PSs X (st :: sts) (lS X.K fun s h => match f s h with
    | .nx s h => g s h
    | o => o) :=
  (pss_cons h1 h2).weak fun D σ H ⟨ρ, s, h, S, R, po⟩ => by
    refine ⟨ρ, s, h, S, R, ?_⟩
    dsimp only at po
    cases e : f s h with
    | nx s' h' =>
      rw [e] at po
      exact fun ρ' H' σ' x S' R' => ⟨ρ', s', h', S', R', PostS.ext (o := g s' h') po x⟩
    | rt v h' => rw [e] at po; exact po
    | bk s' h' => rw [e] at po; exact po
    | ct s' h' => rw [e] at po; exact po
    | exc _ _ => rw [e] at po; exact po
    | bad => rw [e] at po; exact po
/-! x op= e -/
theorem ip_all {op : Operator} (hop : op = .Add ∨ op = .Sub ∨ op = .BitOr ∨ op = .Mult) : PIp X op (fun x y H Q => ∃ ρ h p q, Sim X.K ρ h H ∧ RepV X.K ρ H p x ∧ RepV X.K ρ H q y ∧ PostV X.K ρ H (match p, q with
      | .int _, .int _ => binF op p q h
      | .str _, .str _ => binF op p q h
      | _, _ => .bad) Q) := by
  intro pins s σ H x y v u Q I rx ry h
  obtain ⟨ρ, h, p, q, S, rp, rq, po⟩ := h
  split at po <;> try exact po.elim
  · cases rp; cases rq
    rcases hop with rfl | rfl | rfl | rfl
    · exact iop_add pins s σ H _ _ v u Q I rx ry ⟨_, _, rfl, rfl, PostV.now po S (.int _)⟩
    · exact iop_sub pins s σ H _ _ v u Q I rx ry ⟨_, _, rfl, rfl, PostV.now po S (.int _)⟩
    · exact iop_or pins s σ H _ _ v u Q I rx ry ⟨_, _, rfl, rfl, PostV.now po S (.int _)⟩
    · simp only [binF] at po
      split at po <;> try exact po.elim
      rename_i hz
      refine iop_mul pins s σ H _ _ v u Q I rx ry ⟨_, _, rfl, rfl, ?_, PostV.now po S (.int _)⟩
      rcases hz with hz | hz
      · exact .inl (by constructor <;> omega)
      · exact .inr (by constructor <;> omega)
  · cases rp; cases rq
    rcases hop with rfl | rfl | rfl | rfl
    · simp only [binF] at po
      split at po <;> try exact po.elim
      exact iop_add_str pins s σ H _ _ v u Q I rx ry ⟨_, _, rfl, rfl, by assumption, PostV.now po S (.str _)⟩
    · exact po.elim
    · exact po.elim
    · exact po.elim
theorem ss_aug {i : Nat} {x : Str} {op : Operator} {p : Pos} (hop : op = .Add ∨ op = .Sub ∨ op = .BitOr ∨ op = .Mult) (hN : X.N.Nodup) (hi : X.N[i]? = some x) (hx : Loc X.env.scope x) (hf : X.fn x = true ∨ X.env.scope.names.lookup x = some .local) (he : PE X e (lE X.K fe)) :
    PS X (.AugAssign (.Name x p) op e pos) (lS X.K fun s h => (slot s i h).sbnd fun x h => (fe s h).sbnd fun y h => (match x, y with
      | .int _, .int _ => binF op x y h
      | .str _, .str _ => binF op x y h
      | _, _ => Out.bad).sbnd fun z h => .nx (s.set i (some z)) h) :=
  (ps_aug hN hi hx he (ip_all hop) hf).weak fun D σ H ⟨ρ, s, h, S, R, po⟩ => by
    obtain ⟨v, h', e1, po1⟩ := po.okOf
    unfold slot at e1
    split at e1 <;> try (cases e1; done)
    rename_i v0 e0
    cases e1
    obtain ⟨u, hu, ru⟩ := R.2 i v e0
    refine ⟨u, hu, lE.sfirst S R po1 fun w ρ' H' h' z x S' R' rz po' => ?_⟩
    refine ⟨ρ', h', v, w, S', ru.ext x, rz, ?_⟩
    obtain ⟨t, h2, e2, po2⟩ := po'.okOf
    rw [e2]
    exact fun ρ2 H2 x2 S2 T rT => po2 ρ2 H2 _ x2 S2 ((R'.ext x2).set rT i)

/-! ### loops -/
theorem ss_whl {body : List Stmt} (hxe : X.xe = fun _ _ => False) (hc : PT X c (lB X.K gc)) (hb : PSs X body (lS X.K f)) (n : Nat) : PS X (.While c body [] pos) (lS X.K (whl gc f n)) := by
  have hp : PassesOwn (model X.prog X.w) X.A X.env X.xe := by rw [hxe]; exact .never
  refine (ps_while hp hc hb).weak fun D σ H q => ⟨fun m σ H => lS X.K (whl gc f m) D σ H, ⟨n, q⟩, fun m σ H q => ?_⟩
  obtain ⟨ρ, s, h, S, R, po⟩ := q
  cases m with
  | zero => exact (show False from po).elim
  | succ m =>
    unfold whl at po
    refine lB.sfirst S R po fun k ρ' H' h' x S' R' po' => ?_
    cases k with
    | false =>
      rw [if_neg Bool.false_ne_true] at po'
      exact iteF (po' ρ' H' σ .refl S' R')
    | true =>
      rw [if_pos rfl] at po'
      refine iteT ⟨fun σ' H' => lS X.K (whl gc f m) D σ' H', fun σ' H' q => ⟨m, Nat.lt_succ_self m, q⟩, ρ', s, h', S', R', ?_⟩
      cases e : f s h' with
      | nx s2 h2 => rw [e] at po'; exact fun ρ2 H2 σ2 x2 S2 R2 => ⟨ρ2, s2, h2, S2, R2, PostS.ext (o := whl gc f m s2 h2) po' x2⟩
      | ct s2 h2 => rw [e] at po'; exact fun ρ2 H2 σ2 x2 S2 R2 => ⟨ρ2, s2, h2, S2, R2, PostS.ext (o := whl gc f m s2 h2) po' x2⟩
      | bk s2 h2 => rw [e] at po'; exact po'
      | rt v h2 => rw [e] at po'; exact po'
      | exc _ _ => rw [e] at po'; exact po'
      | bad => rw [e] at po'; exact po'
theorem ss_for {tg iter : Expr} {body : List Stmt} {ws : List Nat} {fi : PSt → PH → Out MP.Itr} {fg : PV → PSt → PH → Out PSt} (hxe : X.xe = fun _ _ => False) (hc : X.calm = true) (hi : PI X tg iter (lI X.K fi)) (hg : PG X tg (lT X.K ws fg)) (hb : PSs X body (lS X.K f))
    (hs : ∀ x, foldedSetIterable iter X.env x = pure x) : PS X (.For tg iter body [] pos) (lS X.K fun s h => (fi s h).sbnd fun r h => forI fg f r r.fuel 0 s h) := by
  have hp : PassesOwn (model X.prog X.w) X.A X.env X.xe := by rw [hxe]; exact .never
  refine (ps_for hp hc hi hg hb hs).weak fun D σ H q => ?_
  obtain ⟨ρ, s, h, S, R, po⟩ := q
  refine ⟨ρ, s, h, S, R, ?_⟩
  obtain ⟨it, h1, e1, po1⟩ := po.okOf
  rw [e1]
  intro ρ1 H1 x1 S1 J wk
  refine ⟨fun i m σ H => ∃ ρ s h, Ext X.K ρ1 H1 ρ H ∧ Sim X.K ρ h H ∧ RepSt X.K ρ H s σ ∧ PostS X.K ρ H (forI fg f it m i s h) D, ⟨it.fuel, ρ1, s, h1, .refl, S1, R.ext x1, po1.ext x1⟩, ?_⟩
  rintro i m σ2 H2 ⟨ρ2, s2, h2, x2, S2, R2, po2⟩
  cases m with
  | zero => exact (show False from po2).elim
  | succ m =>
    unfold forI at po2
    obtain ⟨wstop, wgo⟩ := wk ρ2 h2 H2 i x2 S2
    cases es : itStep it i h2 with
    | none => rw [es] at po2; exact (show False from po2).elim
    | some o =>
      rw [es] at po2
      cases o with
      | none => exact .inl ⟨wstop es, po2 ρ2 H2 σ2 .refl S2 R2⟩
      | some p =>
        obtain ⟨go, yl⟩ := wgo p es
        refine .inr ⟨go, _, fun σ' H' n => ⟨m, Nat.lt_succ_self m, n⟩, fun x H3 hy => ?_⟩
        obtain ⟨x3, S3, rp⟩ := yl x H3 hy
        obtain ⟨s4, h4, e4, po4⟩ := (show PostS X.K ρ2 H2 ((fg p s2 h2).sbnd _) D from po2).okOf
        refine ⟨ρ2, s2, h2, p, S3, R2.ext x3, rp, ?_⟩
        rw [e4]
        intro ρ4 H4 x4 S4 σ4 R4 _
        have x24 := x3.trans x4
        have po4 := po4.ext x24
        refine ⟨ρ4, s4, h4, S4, R4, ?_⟩
        cases e : f s4 h4 with
        | nx s5 h5 => rw [e] at po4; exact fun ρ5 H5 σ5 x5 S5 R5 => ⟨ρ5, s5, h5, (x2.trans x24).trans x5, S5, R5, PostS.ext (o := forI fg f it m (i + 1) s5 h5) po4 x5⟩
        | ct s5 h5 => rw [e] at po4; exact fun ρ5 H5 σ5 x5 S5 R5 => ⟨ρ5, s5, h5, (x2.trans x24).trans x5, S5, R5, PostS.ext (o := forI fg f it m (i + 1) s5 h5) po4 x5⟩
        | bk s5 h5 => rw [e] at po4; exact po4
        | rt v h5 => rw [e] at po4; exact po4
        | exc _ _ => rw [e] at po4; exact po4
        | bad => rw [e] at po4; exact po4
/-- y = [..] on one line -/
theorem ss_setLc {i : Nat} {y : Str} {py : Pos} {elt tg iter : Expr} {ifs : List Expr} {scope : Scope} {own : List (Str × Nat)} {spos : Pos} {fi : PSt → PH → Out MP.Itr} {fg : PV → PSt → PH → Out PSt} {ft : PSt → PH → Out Bool} {ws : List Nat}
    (hc : X.calm = true) (hN : X.N.Nodup) (hy : X.N[i]? = some y) (hyl : X.env.scope.names.lookup y = some .local) (hsw : swapsWith (.ListComp elt [⟨tg, iter, ifs, 0⟩] scope pos) (some (.Name y py)) spos.line X.env = pure true)
    (hi : PI X tg iter (lI X.K fi)) (ok : BlkOk X.N X.env.scope scope own) (hw : ∀ w ∈ ws, w ∈ own.map (·.2))
    (hg : ∀ (s : Shared) (H : Hp) (C : Addr) (cl : List (Str × Addr)) (fp : List Addr), PG (X.blk s H scope (compEnvC scope cl C X.env) fp) tg (lT X.K ws fg)) (ht : ∀ (s : Shared) (H : Hp) (C : Addr) (cl : List (Str × Addr)) (fp : List Addr), PTs (X.blk s H scope (compEnvC scope cl C X.env) fp) ifs (lB X.K ft))
    (he : ∀ (s : Shared) (H : Hp) (C : Addr) (cl : List (Str × Addr)) (fp : List Addr), PE (X.blk s H scope (compEnvC scope cl C X.env) fp) elt (lE X.K fe)) (hs : ∀ x, foldedSetIterable iter X.env x = pure x) :
    PS X (.Assign [.Name y py] (.ListComp elt [⟨tg, iter, ifs, 0⟩] scope pos) spos) (lS X.K fun s h => ((fi s h).bnd fun r h => (each (lcTurn fg ft fe (own.map (·.2)) s) r [] h).bnd fun acc h => new (.lst acc) h).sbnd fun v h => .nx (s.set i (some v)) h) :=
  (ps_setLc hc hN hy hyl hsw hi ok hg ht he hs).weak fun D σ H q => by
    obtain ⟨ρ, s, h, S, R, po⟩ := q
    refine lc_read hw ⟨ρ, s, h, S, R, ?_⟩
    obtain ⟨v, h', e, po'⟩ := po.okOf
    have e : ((fi s h).bnd fun r h => (each (lcTurn fg ft fe (own.map (·.2)) s) r [] h).bnd fun acc h => new (.lst acc) h) = .ok v h' := e
    show PostG _ _ _ ((fi s h).bnd fun r h => (each (lcTurn fg ft fe (own.map (·.2)) s) r [] h).bnd fun acc h => new (.lst acc) h) _
    rw [e]
    exact fun ρ' H' x S' V rV => po' ρ' H' _ x S' ((R.ext x).set rV i)

/-! ### calls of own defs -/
def spOf (K : Fg) (n : Nat) (g : List PV → PH → Out PV) : Sp := fun vs H Q _ => vs.length = n ∧ lC K g vs H Q
/-- where a def stands, and what it does -/
structure FnAt (X : Cx) (k : Nat) (f : Str) (g : List PV → PH → Out PV) : Prop where
  ex : ∃ (fa : Addr) (fd : FuncData) (ps : List Str), X.mg f = some (.ref fa) ∧ PySem.W.keepIn X.K (.ref fa) = true ∧ Binds X.K fd ps [] ∧ FnOk X.prog X.w X.K X.mg X.base CX0 k fa fd ps (spOf X.K ps.length g) ∧ ∀ xs h v h', g xs h = .ok v h' → xs.length = ps.length
theorem se_call {x : Str} {k : Nat} {g : List PV → PH → Out PV} {es : List Expr} {fs : PSt → PH → Out (List PV)} {p : Pos} (F : FnAt X k x g) (hr : Room k X.A) (hg : Gl X x) (hdb : (x == ("__debug__" : Str)) = false) (ha : PA X es (lA X.K fs))
    (he : ∀ a t, es = a :: t → starEach (a :: t) X.env = (false, eval a X.env) :: starEach t X.env) (hpl : ∀ a t, es = a :: t → (backTo pos (starEach t X.env)).any (·.1) = false) (hnil : es = [] → ∀ s h, fs s h = .ok [] h) :
    PE X (.Call (.Name x p) es [] pos) (lE X.K fun s h => (fs s h).bnd fun xs h => g xs h) := by
  obtain ⟨fa, fd, ps, hm, hk, hb, G, hlen⟩ := F.ex
  cases es with
  | nil =>
    refine (pe_call0 (E := E0) G hr hg hm hk hb .nil pass0 hdb).weak fun σ H Q ⟨ρ, s, h, S, R, po⟩ => ?_
    have po : PostV X.K ρ H (g [] h) Q := by
      have po := po
      simp only [hnil rfl] at po
      exact po
    obtain ⟨v, h', e⟩ : ∃ v h', g [] h = .ok v h' := by
      cases e : g [] h with
      | ok v h' => exact ⟨v, h', rfl⟩
      | exc _ _ => rw [e] at po; exact po.elim
      | bad => rw [e] at po; exact po.elim
    exact ⟨hlen _ _ _ _ e, ρ, h, [], S, .nil, po⟩
  | cons a t =>
    refine (pe_call (E := E0) G hr hg hm hk hb .nil pass0 ha hdb (he a t rfl) (hpl a t rfl)).weak fun σ H Q ⟨ρ, s, h, S, R, po⟩ => ?_
    refine lA.first S R po fun v ρ1 H1 h1 u x1 S1 R1 e1 ru po1 => ?_
    obtain ⟨w, h', e⟩ : ∃ w h', g v h1 = .ok w h' := by
      cases e : g v h1 with
      | ok w h' => exact ⟨w, h', rfl⟩
      | exc _ _ => rw [e] at po1; exact po1.elim
      | bad => rw [e] at po1; exact po1.elim
    refine ⟨?_, ρ1, h1, v, S1, ?_, po1⟩
    · rw [List.append_nil, ← ru.length]; exact hlen _ _ _ _ e
    · rw [List.append_nil]; exact ru
end
end MP

set_option Elab.async false
set_option linter.all false
set_option maxRecDepth 100000
set_option maxHeartbeats 1000000
namespace MP
open PySem PySem.Spec PyProof.Rows L2

/-! ### displays of dicts -/
section
variable {K : Fg} {ρ : List Addr} {H : Hp}
inductive RepPs (K : Fg) (ρ : List Addr) (H : Hp) : List (PV × PV) → List (V × V) → Prop
  | nil : RepPs K ρ H [] []
  | cons {a b : PV} {x y : V} {r : List (PV × PV)} {t : List (V × V)} : RepV K ρ H a x → RepV K ρ H b y → RepPs K ρ H r t → RepPs K ρ H ((a, b) :: r) ((x, y) :: t)
theorem RepPs.keys : ∀ {ps : List (PV × PV)} {us : List (V × V)}, RepPs K ρ H ps us → (ps.all fun p => isKey p.1) = true → ∃ kvs : List (L2.Key × V), us = kvs.map (fun kv => (kV kv.1, kv.2)) ∧ RepKs K ρ H ps kvs ∧ kvs.length = ps.length
  | _, _, .nil, _ => ⟨[], rfl, .nil, rfl⟩
  | _, _, .cons (a := a) ra rb t, e => by
    simp only [List.all_cons, Bool.and_eq_true] at e
    obtain ⟨kvs, e1, e2, e3⟩ := RepPs.keys t e.2
    obtain ⟨kk, ek⟩ := keyOf_some e.1
    refine ⟨(kk, _) :: kvs, ?_, .cons ek rb e2, by simp [e3]⟩
    rw [keyOf_V ek ra, e1]
    rfl
theorem RepKs.all : ∀ {ps : List (PV × PV)} {kvs : List (L2.Key × V)} {acc : List (PV × PV)} {bcc : List (L2.Key × V)}, RepKs K ρ H ps kvs → RepKs K ρ H acc bcc → RepKs K ρ H (ps.foldl (fun a p => dPut a p.1 p.2) acc) (mergeK bcc kvs)
  | _, _, _, _, .nil, q => q
  | _, _, _, _, .cons e r t, q => by
    unfold mergeK
    rw [List.foldl_cons, List.foldl_cons]
    exact RepKs.all t (q.put e r)
end
section
variable {X : Cx} {pos : Pos}
def DispOk (X : Cx) (pos : Pos) (keys : List (Option Expr)) (values : List Expr) (fd : PSt → PH → Out (List (PV × PV))) : Prop :=
  ∃ trs, PPs X pos keys values trs ∧ ∀ ρ s h σ H (Q : List (V × V) → Hp → Prop), Sim X.K ρ h H → RepSt X.K ρ H s σ → PostG X.K ρ H (fd s h) (fun ps ρ' H' => ∀ us, RepPs X.K ρ' H' ps us → Q us H') → tPairs trs σ H Q
theorem disp_nil : DispOk X pos [] [] fun _ h => .ok [] h := ⟨[], pps_nil, fun ρ s h σ H Q S R po => po ρ H .refl S [] .nil⟩
theorem disp_cons {k v : Expr} {ks : List (Option Expr)} {vs : List Expr} {fk fv : PSt → PH → Out PV} {fd : PSt → PH → Out (List (PV × PV))} (hk : PE X k (lE X.K fk)) (hv : PE X v (lE X.K fv)) (hr : DispOk X pos ks vs fd) :
    DispOk X pos (some k :: ks) (v :: vs) fun s h => (fk s h).bnd fun x h => (fv s h).bnd fun y h => (fd s h).bnd fun ps h => .ok ((x, y) :: ps) h := by
  obtain ⟨trs, hp, hq⟩ := hr
  refine ⟨_, pps_cons hk hv hp, fun ρ s h σ H Q S R po => ?_⟩
  refine lE.first S R po fun v ρ1 H1 h1 u x1 S1 R1 e1 ru po1 => lE.first S1 R1 po1 fun w ρ2 H2 h2 z x2 S2 R2 e2 rz po2 => ?_
  refine hq ρ2 s h2 σ H2 _ S2 R2 ((PostG.bnd po2).mono fun ps ρ3 H3 x3 ⟨h3, S3, po3⟩ us r => ?_)
  exact po3 ρ3 H3 .refl S3 _ (.cons ((ru.ext x2).ext x3) (rz.ext x3) r)
theorem se_dic {keys : List (Option Expr)} {values : List Expr} {fd : PSt → PH → Out (List (PV × PV))} (hd : DispOk X pos keys values fd) (hall : keys.all (·.isSome) = true) (hl : keys.length = values.length) (h0 : keys ≠ []) (h15 : keys.length ≤ 15) :
    PE X (.Dict keys values pos) (lE X.K fun s h => (fd s h).bnd fun ps h => if (ps.all fun p => isKey p.1) = true ∧ ps.length ≤ 15 then new (.dic (dAll ps)) h else .bad) := by
  obtain ⟨trs, hp, hq⟩ := hd
  refine (pe_disp hp hall hl h0 h15).weak fun σ H Q ⟨ρ, s, h, S, R, po⟩ => fun p hp => ?_
  have x0 : Ext X.K ρ H ρ (upd H p (.dK [])) := Ext.tuple hp
  have np : p ∉ ρ := fun z => by
    obtain ⟨u, hu, _⟩ := S.tracked z
    rw [hp] at hu; cases hu
  refine hq ρ s h σ _ _ (S.tuple hp) (R.ext x0) ?_
  obtain ⟨ps, h1, e1, po1⟩ := po.okOf
  rw [e1]
  intro ρ1 H1 x1 S1 us rp
  obtain ⟨n1, e2⟩ := x1.notin np upd_same
  split at po1 <;> try exact po1.elim
  rename_i hz
  obtain ⟨kvs, e3, rk, el⟩ := rp.keys hz.1
  refine ⟨e2, kvs, e3, by rw [el]; exact hz.2, ?_⟩
  have m1 : ∀ xs, HO.dK [] ≠ .tup xs := fun _ => nofun
  have m2 : ∀ ob xs, HO.dK [] ≠ .frz ob (.tup xs) ∧ HO.dK [] ≠ .frz ob (.lst xs) := fun _ _ => ⟨nofun, nofun⟩
  have x2 := (x0.trans x1).own (o := .dK (mergeK [] kvs)) hp e2 m1 m2 (fun _ _ => nofun)
  have rk' : RepKs X.K ρ1 (upd H1 p (.dK (mergeK [] kvs))) (dAll ps) (mergeK [] kvs) := (RepKs.all rk .nil).mono (fun _ _ e => e) fun _ _ q => SqI.upd_old e2 m1 m2 q
  exact po1 (ρ1 ++ [p]) _ (x2.adopt hp) ((S1.own n1 e2 m1 m2).adopt n1 ⟨_, upd_same, rk'⟩) _ (.ref (push_at S1 p))
theorem se_dic0 : PE X (.Dict [] [] pos) (lE X.K fun s h => new (.dic []) h) :=
  pe_dnewK.weak fun σ H Q ⟨ρ, s, h, S, R, po⟩ => PostV.new po S fun a ha => ⟨[], upd_same, .nil⟩
end
end MP

set_option Elab.async false
set_option linter.all false
set_option maxRecDepth 100000
set_option maxHeartbeats 1000000
namespace MP
open PySem PySem.Spec PyProof.Rows L2

/-! ### x in d.values() -/
theorem entry_ci : entryFor table "proto.contains_iter" = some Builtin.«proto.contains_iter» := entryFor_of_fast (by kernel_rfl)
theorem plain_ci : plainId "proto.contains_iter" = true := by decide +kernel
theorem no_contains : typeLookup (.type "dict_values") "__contains__" = pure none := by rw [typeLookup_type, builtinLookup_eq_fast]; kernel_rfl
section
variable {prog : Program} {w : World} {κ : Type} [DecidableEq κ] {knd : KeyKind prog w κ} {A : Around}
theorem code_ci {it d : Addr} {ep : Nat} {kvs : List (κ × Value)} {xi : Int} {xt : Tok} {ns : List Int} {R : Result → Shared → Prop} (hh : A.handled = none) (hne : d ≠ it) (hl : ns.length = kvs.length)
    (hv : ∀ (i : Nat) (n : Int), ns[i]? = some n → ∃ k t, kvs[i]? = some (k, .int n t)) : ∀ (m i : Nat) (s : Shared), kvs.length - i = m → s.heap.IsValIter it d i kvs.length ep → s.heap.DictAt knd d kvs ep →
    (∀ h', Heap.ExtBut it s.heap h' → R (.ok (.ret (.bool (decide (xi ∈ ns.drop i))))) { s with heap := h' }) → codeAny (model prog w) A (.builtin "proto.contains_iter" ⟨[.ref it, .int xi xt], []⟩) R s := by
  intro m
  induction m with
  | zero =>
    intro i s hm hit hd hR
    refine codeAny_builtin entry_ci ?_
    rw [Around.under_plainId plain_ci]
    unfold Builtin.«proto.contains_iter»
    refine wpAny_bind (wpAny_pyNext_values_end (A := A.in1) hh hit hd (List.getElem?_eq_none (by omega)) fun h' hx => ?_)
    refine wpAny_bind (wpAny_rule ?_)
    have := hR h' hx
    rw [List.drop_eq_nil_of_le (by omega)] at this
    exact wpAny_pure this
  | succ m ih =>
    intro i s hm hit hd hR
    have hi : i < ns.length := by omega
    obtain ⟨k, t, hk⟩ := hv i ns[i] (List.getElem?_eq_getElem hi)
    refine codeAny_builtin entry_ci ?_
    rw [Around.under_plainId plain_ci]
    unfold Builtin.«proto.contains_iter»
    refine wpAny_bind (wpAny_pyNext_values_item (A := A.in1) hit hd hk fun h' hit' sb => ?_)
    have hx : Heap.ExtBut it s.heap h' := fun b o hb e => (sb.2 b hb).trans e
    rw [List.drop_eq_getElem_cons hi] at hR
    refine wpAny_bind (wpAny_eqBool_int ?_)
    by_cases e : ns[i] = xi
    · rw [if_pos (by simpa using e)]
      refine wpAny_bind (wpAny_rule ?_)
      have := hR h' hx
      rw [show decide (xi ∈ ns[i] :: ns.drop (i + 1)) = true from decide_eq_true (List.mem_cons.mpr (.inl e.symm))] at this
      exact wpAny_pure this
    · rw [if_neg (by simpa using e)]
      refine wpAny_pure ⟨plainId_quiet plain_ci _, ih (i + 1) _ (by omega) hit' (hd.extBut hx hne) fun h2 hx2 => ?_⟩
      have := hR h2 fun b o hb e => hx2 b o hb (hx b o hb e)
      rw [show decide (xi ∈ ns[i] :: ns.drop (i + 1)) = decide (xi ∈ ns.drop (i + 1)) from decide_eq_decide.mpr (List.mem_cons.trans (or_iff_right (Ne.symm e)))] at this
      exact this
theorem contains_values {E : Value → Shared → Prop} {v d : Addr} {ep : Nat} {kvs : List (κ × Value)} {xi : Int} {xt : Tok} {ns : List Int} {Q : Bool → Shared → Prop} {s : Shared} (hh : A.handled = none) (hl : ns.length = kvs.length)
    (hv : ∀ (i : Nat) (n : Int), ns[i]? = some n → ∃ k t, kvs[i]? = some (k, .int n t)) (hV : s.heap.IsValuesView v d) (hd : s.heap.DictAt knd d kvs ep)
    (hQ : ∀ h', (∀ b o, s.heap.get? b = some o → h'.get? b = some o) → Q (decide (xi ∈ ns)) { s with heap := h' }) : wpAny (model prog w) A (contains (.ref v) (.int xi xt)) Q E s := by
  unfold contains
  refine wpAny_holding ?_
  rw [stdlibNamesSay?_of_typeIs hV.typeIs]
  refine wpAny_bind (wpAny_specialOf hV.typeIs no_contains ?_)
  show wpAny _ _ (if (none == some Value.none) = true then _ else _) _ _ s
  rw [if_neg (by simp)]
  refine wpAny_bind ?_
  unfold callSpecialUnlessNone?
  refine wpAny_bind (wpAny_specialOf hV.typeIs no_contains (wpAny_pure ?_))
  refine wpAny_bind (wpAny_rule ?_)
  refine wpAny_bind ?_
  refine wpAny_tryCatch (wpAny_pyIter_values hV hd ?_)
  have hlt : d < s.heap.objs.size := hd.lt_size
  refine wpAny_bind (wpAny_runValue (code_ci (knd := knd) (kvs := kvs) (d := d) (ep := ep) (ns := ns) hh (Nat.ne_of_lt hlt) hl hv _ 0 _ rfl ⟨_, Heap.get?_push_size _ rfl, rfl, rfl⟩ (hd.push _) fun h' hx => ?_))
  refine wpAny_pure (hQ h' fun b o e => hx b o (Nat.ne_of_lt (Heap.lt_size e)) (Heap.get?_push_of_some _ e))
end
section
variable {X : Cx} {a e : Expr} {fa fe : PSt → PH → Out PV} {pos cpos apos : Pos}
theorem RepKs.ints {K : Fg} {ρ : List Addr} {H : Hp} : ∀ {kvs : List (PV × PV)} {ks : List (L2.Key × V)} {ns : List Int}, RepKs K ρ H kvs ks → intsOf (kvs.map (·.2)) = some ns → ks.map (·.2) = ns.map V.int
  | _, _, ns, .nil, e => by simp [intsOf] at e; subst e; rfl
  | (_, p) :: r, _, ns, .cons _ q t, e => by
    cases p <;> simp only [List.map_cons, intsOf, reduceCtorEq] at e
    obtain ⟨l, e1, e2⟩ := Option.map_eq_some_iff.mp e
    subst e2
    cases q
    simp only [List.map_cons, RepKs.ints t e1]
theorem kv_ints {ks : List (L2.Key × V)} {vs : List (L2.Key × Value)} {ns : List Int} (h : KV ks vs) (e : ks.map (·.2) = ns.map V.int) : ns.length = vs.length ∧ ∀ (i : Nat) (n : Int), ns[i]? = some n → ∃ k t, vs[i]? = some (k, .int n t) := by
  have l1 : ks.length = vs.length := Paired.length h
  have l2 : ks.length = ns.length := by simpa using congrArg List.length e
  refine ⟨by omega, fun i n hn => ?_⟩
  have hi : (ks.map (·.2))[i]? = some (V.int n) := by rw [e, List.getElem?_map, hn]; rfl
  rw [List.getElem?_map, Option.map_eq_some_iff] at hi
  obtain ⟨⟨k, x⟩, h1, h2⟩ := hi
  simp only at h2
  subst h2
  obtain ⟨u, hu, t, rfl⟩ := kv_get h h1
  exact ⟨k, t, hu⟩
theorem pc_inv {op : CmpOp} (hc : X.calm = true) (hop : op = .In ∨ op = .NotIn) (ha : PE X a (lE X.K fa)) (he : PE X e (lE X.K fe)) (hbase : attributeBase e "values" X.env (eval e X.env) = eval e X.env) (hline : (apos.endLine == cpos.line) = true) :
    PC X op a (.Call (.Attribute e "values" apos) [] [] cpos) (lE X.K fun s h => (fa s h).bnd fun x h => (fe s h).bnd fun y h => invF (decide (op = .NotIn)) x y h) := by
  refine ⟨fun pins s σ H Q I ⟨ρ, s', h, S, R, po⟩ => ?_⟩
  refine thn (ha.run pins s σ H _ I (lE.first S R po fun v ρ1 H1 h1 u x1 S1 R1 e1 ru po1 => (show (fun (x : V) (H1 : Hp) => ∃ ρ1 v h1, Sim X.K ρ1 h1 H1 ∧ RepSt X.K ρ1 H1 s' σ ∧ RepV X.K ρ1 H1 v x ∧ PostV X.K ρ1 H1 ((fe s' h1).bnd fun y h => invF (decide (op = .NotIn)) v y h) Q) u H1 from ⟨ρ1, v, h1, S1, R1, ru, po1⟩))) fun xv s1 ⟨x, H1, I1, rx, ρ1, v, h1, S1, R1, ru, po1⟩ => ?_
  refine wpAny_Call_method (T := "dict") (id := "dict.values") hbase rfl hline PySem.F.plainAttrs_dict PySem.F.slot_dict_values PySem.F.type_dict_values (thn (he.run pins s1 σ H1 _ I1 (lE.first S1 R1 po1 fun y ρ2 H2 h2 u x2 S2 R2 e2 ry po2 => (show (fun (z : V) (H2 : Hp) => ∃ ρ2 v y h2, Sim X.K ρ2 h2 H2 ∧ RepV X.K ρ2 H2 v x ∧ RepV X.K ρ2 H2 y z ∧ PostV X.K ρ2 H2 (invF (decide (op = .NotIn)) v y h2) Q) u H2 from ⟨ρ2, v, y, h2, S2, ru.ext x2, ry, po2⟩))) fun uv s2 ⟨z, H2, I2, rz, ρ2, v2, y, h2, S2, rv2, ry, po2⟩ => ?_)
  unfold invF at po2
  split at po2 <;> try exact po2.elim
  rename_i i l
  split at po2 <;> try exact po2.elim
  rename_i kvs hl
  split at po2 <;> try exact po2.elim
  rename_i ns hns
  cases rv2
  cases ry with
  | @ref _ d ea =>
    obtain ⟨o, ks, eD, rK⟩ := S2.lck hl ea
    obtain ⟨xt, rfl⟩ := rx
    obtain rfl : uv = Value.ref d := rz
    obtain ⟨hs, hgd, hx, es, ep, vs, hdt, hsz, kv, hm⟩ := I2.frzK eD
    obtain ⟨kl, kg⟩ := kv_ints kv (rK.ints hns)
    refine ⟨hm.dictOf.typeIs, hm.dictOf.mapOf.noDict, ?_⟩
    have fin : wpAny (model X.prog X.w) X.A (contains (.ref s2.heap.objs.size) (.int i xt)) (fun b s' => b = decide (i ∈ ns) ∧ Inv X pins σ H2 s') X.xe { s2 with heap := s2.heap.push { cls := .type "dict_values", data := .fields #[.ref d] } } :=
      contains_values (knd := mixKind X.prog X.w) (I2.ok.hd hc) kl kg ⟨_, Heap.get?_push_size _ rfl, rfl, rfl⟩ (hm.push _) fun h' k => ⟨rfl, I2.kept (t' := s2.toks) fun b ob q => k b ob (Heap.get?_push_of_some _ q)⟩
    have fin2 : wpAny (model X.prog X.w) X.A (compareOp op (.int i xt) (.ref s2.heap.objs.size)) (EP X pins σ Q) X.xe { s2 with heap := s2.heap.push { cls := .type "dict_values", data := .fields #[.ref d] } } := by
      rcases hop with rfl | rfl
      · show wpAny _ _ (do return Value.bool (← contains _ _)) _ _ _
        exact wpAny_bind (thn fin fun b s' ⟨eb, I'⟩ => wpAny_pure ⟨.bl b, H2, I', rfl, by rw [eb]; exact (show PostV X.K ρ2 H2 (.ok (.bl (decide (CmpOp.In = CmpOp.NotIn) != decide (i ∈ ns))) h2) Q from po2).now S2 (by simpa using RepV.bl _)⟩)
      · show wpAny _ _ (do return Value.bool (!(← contains _ _))) _ _ _
        exact wpAny_bind (thn fin fun b s' ⟨eb, I'⟩ => wpAny_pure ⟨.bl (!b), H2, I', rfl, by rw [eb]; exact (show PostV X.K ρ2 H2 (.ok (.bl (decide (CmpOp.NotIn = CmpOp.NotIn) != decide (i ∈ ns))) h2) Q from po2).now S2 (by simpa using RepV.bl _)⟩)
    show wpAny _ _ (callWith cpos (.builtin "dict.values") [.ref d] [] []) _ X.xe s2
    exact method_meetsIn PySem.F.slot_dict_values PySem.F.entry_dict_values rfl (PySem.evalArgs_none ⟨rfl, hm.dictOf.typeIs, PySem.F.args_dict_values_1 _, _, meets_dict_values (mixKind X.prog X.w) d hs, ⟨vs, hm.dictOf⟩, fin2⟩)
theorem invF_bl {n : Bool} {x y z : PV} {h h' : PH} (e : invF n x y h = .ok z h') : ∃ b, z = .bl b := by
  unfold invF at e
  split at e <;> try (cases e; done)
  split at e <;> try (cases e; done)
  split at e <;> try (cases e; done)
  cases e
  exact ⟨_, rfl⟩
theorem behind_call {op : CmpOp} {f : Expr} {as : List Expr} {ks : List Keyword} {p : Pos} : behindInMarks op (.Call f as ks p) = false := rfl
theorem se_inv {op : CmpOp} (hc : X.calm = true) (hop : op = .In ∨ op = .NotIn) (ha : PE X a (lE X.K fa)) (he : PE X e (lE X.K fe)) (hbase : attributeBase e "values" X.env (eval e X.env) = eval e X.env) (hline : (apos.endLine == cpos.line) = true) :
    PE X (.Compare a [op] [.Call (.Attribute e "values" apos) [] [] cpos] pos) (lE X.K fun s h => (fa s h).bnd fun x h => (fe s h).bnd fun y h => invF (decide (op = .NotIn)) x y h) := pe_cmp (pc_inv hc hop ha he hbase hline) behind_call
theorem st_inv {op : CmpOp} (hc : X.calm = true) (hop : op = .In ∨ op = .NotIn) (ha : PE X a (lE X.K fa)) (he : PE X e (lE X.K fe)) (hbase : attributeBase e "values" X.env (eval e X.env) = eval e X.env) (hline : (apos.endLine == cpos.line) = true) :
    PT X (.Compare a [op] [.Call (.Attribute e "values" apos) [] [] cpos] pos) (lB X.K fun s h => (fa s h).bnd fun x h => (fe s h).bnd fun y h => (invF (decide (op = .NotIn)) x y h).bnd asB) := by
  refine (pt_cmp (pc_inv hc hop ha he hbase hline) behind_call).weak fun σ H Q ⟨ρ, s, h, S, R, po⟩ => ?_
  obtain ⟨x, h1, e1, po1⟩ := po.okOf
  obtain ⟨y, h2, e2, po2⟩ := po1.okOf
  obtain ⟨z, h3, e3, po3⟩ := po2.okOf
  obtain ⟨b, rfl⟩ := invF_bl e3
  refine ⟨ρ, s, h, S, R, ?_⟩
  have ea : ((fa s h).bnd fun x h => (fe s h).bnd fun y h => invF (decide (op = .NotIn)) x y h) = .ok (.bl b) h3 := by
    rw [e1]
    show ((fe s h1).bnd _) = _
    rw [e2]
    exact e3
  show PostV X.K ρ H ((fa s h).bnd fun x h => (fe s h).bnd fun y h => invF (decide (op = .NotIn)) x y h) _
  rw [ea]
  intro ρ' H' x' S' V rV
  cases rV
  exact ⟨b, rfl, po3 ρ' H' x' S'⟩

/-! ### a dict that is walked -/
theorem Ext.unlock {K : Fg} {ρ ρ' : List Addr} {H H' : Hp} {p : Addr} {od : Obj} {u : HO} {ks : List (L2.Key × V)} (hu : u = .dK ks) (hp : H p = some u) (hm : p ∈ ρ) (x : Ext K ρ (upd H p (.frz od u)) ρ' H') (ht : ∀ a xs, SqI K H a xs → SqI K (upd H p (.frz od u)) a xs)
    (ht' : ∀ a xs, SqI K H' a xs → SqI K (upd H' p u) a xs) : Ext K ρ H ρ' (upd H' p u) where
  pre := x.pre
  tup := fun a xs q => ht' a xs (x.tup a xs (ht a xs q))
  frm := fun a o e n => by
    have ne : a ≠ p := fun z => n (z ▸ hm)
    rw [upd_ne ne]
    exact x.frm a o (by rw [upd_ne ne]; exact e) n
  new := fun a e => by
    rcases x.new a e with q | q
    · exact .inl q
    · by_cases z : a = p
      · rw [z, upd_same] at q; cases q
      · rw [upd_ne z] at q; exact .inr q
  lck := fun a o w e => by
    have ne : a ≠ p := fun z => by rw [z, hp, hu] at e; cases e
    rw [upd_ne ne]
    exact x.lck a o w (by rw [upd_ne ne]; exact e)
theorem se_lock {i : Nat} (he : PE X e (lE X.K fe)) : PE X e (lE X.K fun s h => (slot s i h).bnd fun x h => match x with
    | .ref l => (match h[l]? with
      | some (.dic kvs) => (fe s (h.set l (.lck kvs))).bnd fun v h => (match h[l]? with
        | some (.lck kvs) => .ok v (h.set l (.dic kvs))
        | _ => .bad)
      | _ => .bad)
    | _ => .bad) := by
  refine (pe_lock he).weak fun σ H Q ⟨ρ, s, h, S, R, po⟩ => ?_
  obtain ⟨v, h1, ev, po⟩ := po.okOf
  unfold slot at ev
  split at ev <;> cases ev
  rename_i hv
  split at po <;> try exact po.elim
  rename_i l
  split at po <;> try exact po.elim
  rename_i kvs hl
  obtain ⟨u, hu, ru⟩ := R.2 i _ hv
  cases ru with
  | @ref _ d ea =>
    obtain ⟨ks, eD, rK⟩ := S.dic hl ea
    refine ⟨d, .dK ks, eD, True.intro, fun od => ?_⟩
    have t1 : ∀ a xs, SqI X.K H a xs → SqI X.K (upd H d (.frz od (.dK ks))) a xs := set_tup S ea
    have x1 : Ext X.K ρ H ρ (upd H d (.frz od (.dK ks))) := Ext.set S ea (nfD eD)
    have S1 : Sim X.K ρ (h.set l (.lck kvs)) (upd H d (.frz od (.dK ks))) := S.set ea ⟨od, ks, upd_same, rK.ext x1⟩
    refine ⟨ρ, s, h.set l (.lck kvs), S1, R.ext x1, ?_⟩
    obtain ⟨w, h2, e2, po2⟩ := po.okOf
    rw [e2]
    intro ρ2 H2 x2 S2 V rV
    split at po2 <;> try exact po2.elim
    rename_i kvs2 hl2
    have ea2 := x2.pre _ _ ea
    have eL : H2 d = some (.frz od (.dK ks)) := x2.lck d od ks upd_same
    obtain ⟨o2, ks2, eD2, rK2⟩ := S2.lck hl2 ea2
    rw [eL] at eD2
    cases eD2
    have t2 : ∀ a xs, SqI X.K H2 a xs → SqI X.K (upd H2 d (.dK ks)) a xs := set_tup S2 ea2
    have x3 : Ext X.K ρ H ρ2 (upd H2 d (.dK ks)) := Ext.unlock rfl eD (mem_of_get ea) x2 t1 t2
    exact ⟨eL, po2 ρ2 _ x3 (S2.set ea2 ⟨ks, upd_same, rK2.mono (fun _ _ e => e) t2⟩) V (rV.mono (fun _ _ e => e) t2)⟩
theorem wk_keys {K : Fg} {ρ : List Addr} {H : Hp} {d : Addr} {o : Obj} {kvs : List (PV × PV)} {ks : List (L2.Key × V)} (e : H d = some (.frz o (.dK ks))) (r : RepKs K ρ H kvs ks) : Wk K (Itk d o ks) (.vals (kvs.map (·.1))) ρ H := fun ρ' h' H' i x S => by
  have e' := x.lck d o ks e
  have r' := r.ext x
  have rk := r'.keys
  refine ⟨fun ei => ?_, fun p ei => ?_⟩
  · have ei : (kvs.map (·.1))[i]? = none := by simpa [itStep] using ei
    refine ⟨e', ?_⟩
    have := List.getElem?_eq_none_iff.mp ei
    rw [rk.length, List.length_map] at this
    exact this
  · have ei : (kvs.map (·.1))[i]? = some p := by simpa only [itStep, Option.some.injEq] using ei
    obtain ⟨u, hu, ru⟩ := rk.get ei
    rw [List.getElem?_map, Option.map_eq_some_iff] at hu
    obtain ⟨⟨k, v⟩, hk, rfl⟩ := hu
    refine ⟨⟨e', (List.getElem?_eq_some_iff.mp hk).1⟩, fun y H2 hy => ?_⟩
    obtain ⟨rfl, k', v', hk', rfl⟩ := hy
    rw [hk] at hk'
    cases hk'
    exact ⟨.refl, S, ru⟩
theorem si_keys {tg : Expr} (he : PE X e (lE X.K fe)) : PI X tg e (lI X.K fun s h => (fe s h).bnd fun x h => match x with
    | .ref l => (match h[l]? with
      | some (.lck kvs) => .ok (.vals (kvs.map (·.1))) h
      | _ => .bad)
    | _ => .bad) := by
  refine (pi_keys he).weak fun σ H R ⟨ρ, s, h, S, Rs, po⟩ => ?_
  refine lE.first S Rs po fun v ρ1 H1 h1 u x1 S1 R1 e1 ru po1 => ?_
  split at po1 <;> try exact po1.elim
  rename_i l
  split at po1 <;> try exact po1.elim
  rename_i kvs hl
  cases ru with
  | @ref _ d ea =>
    obtain ⟨o, ks, eD, rK⟩ := S1.lck hl ea
    exact ⟨d, o, rfl, .inl ⟨ks, eD, po1.now S1 _ (wk_keys eD rK)⟩⟩

/-! ### isinstance -/
theorem tyP_ok {ρ : List Addr} {H : Hp} {h : PH} (S : Sim X.K ρ h H) {p : PV} {v : V} {t : String} (r : RepV X.K ρ H p v) (e : tyP p h = some t) : TyX X.K H v (.type t) := by
  cases r with
  | non => cases e; exact .base .non
  | bl b => cases e; exact .base (.bl _)
  | int b => cases e; exact .base (.int _)
  | str b => cases e; exact .base (.str _)
  | tup q _ =>
    cases e
    rcases q with (q | ⟨o, q⟩) | ⟨o, its, n, q1, q2, _⟩
    · exact .base (.tup q)
    · exact .fTuple q
    · exact .kTuple q1 q2
  | fro q _ =>
    cases e
    rcases q with ⟨o, q⟩ | ⟨o, its, n, q1, q2, _⟩
    · exact .base (.frz q)
    · exact .kList q1 q2
  | ref ea =>
    unfold tyP at e
    dsimp only at e
    split at e
    · rename_i hl; cases e; obtain ⟨_, e1, _⟩ := S.lst hl ea; exact .base (.lst e1)
    · rename_i hl; cases e; obtain ⟨_, e1, _⟩ := S.dic hl ea; exact .base (.dK e1)
    · rename_i hl; cases e; obtain ⟨_, _, e1, _⟩ := S.lck hl ea; exact .fDict e1
    · cases e
theorem ty_val {f : Bi} {t : String} (e : f.ty = some t) : f.val = .type t := by
  cases f <;> simp [Bi.ty] at e <;> subst e <;> rfl
theorem se_isi {f : Bi} {x : Expr} {p1 p2 pos : Pos} {fx : PSt → PH → Out PV} (ht : f.ty.isSome = true) (hg : Gl X "isinstance") (hm : X.mg "isinstance" = none) (hg2 : Gl X f.name) (hm2 : X.mg f.name = none) (ha : PE X x (lE X.K fx))
    (hs : starEach (x :: [Expr.Name f.name p2]) X.env = (false, eval x X.env) :: starEach [Expr.Name f.name p2] X.env) : PE X (.Call (.Name "isinstance" p1) [x, .Name f.name p2] [] pos) (lE X.K fun s h => (fx s h).bnd fun v h => isiF f v h) := by
  obtain ⟨t, ht⟩ := Option.isSome_iff_exists.mp ht
  have hn : f.name ≠ "__name__" := by cases f <;> decide
  have hd : (f.name == ("__debug__" : Str)) = false := by cases f <;> decide
  have hv := f.boot
  rw [ty_val ht] at hv
  have p2' : PE X (.Name f.name p2) (tC (.ty t)) := pe_bltn hg2 hm2 hv rfl hn hd
  refine (pe_callB call_isi hg hm (by decide +kernel) (pa_cons ha (pa_cons p2' pa_nil rfl) hs) (by decide) (by decide) hs rfl).weak fun σ H Q ⟨ρ, s, h, S, R, po⟩ => ?_
  refine lE.first S R po fun v ρ1 H1 h1 u x1 S1 R1 e1 ru po1 => ?_
  unfold isiF at po1
  split at po1 <;> try exact po1.elim
  rename_i a b ea eb
  split at po1 <;> try exact po1.elim
  rename_i r er
  rw [ht] at eb
  cases eb
  exact ⟨u, .ty t, _, _, r, rfl, .ty t, tyP_ok S1 ru ea, kit_ty er, PostV.now po1 S1 (.bl r)⟩

/-! ### list(range(..)) -/
theorem rg_rep {K : Fg} {ρ : List Addr} {H : Hp} (a b : Int) : RepVs K ρ H (rngI a (b - a).toNat) (rgV a b) := by
  unfold rngI rgV
  generalize List.range (b - a).toNat = l
  induction l with
  | nil => exact .nil
  | cons x r ih => exact .cons (.int _) ih
def tLr (tup : Bool) (a b : Int) (H : Hp) (Q : VK) : Prop := RgOk a b ∧ ∀ q, H q = none → Q (.ref q) (upd H q (if tup = true then .tup (rgV a b) else .lst (rgV a b)))
theorem lr_post {tup : Bool} {a b : Int} {ρ : List Addr} {H : Hp} {h : PH} {Q : VK} (S : Sim X.K ρ h H) (ha : small a = true) (hb : small b = true) (hn : (b - a).toNat ≤ 2 ^ 24)
    (po : PostV X.K ρ H (if tup = true then .ok (.tup (rngI a (b - a).toNat)) h else new (.lst (rngI a (b - a).toNat)) h) Q) : tLr tup a b H Q := by
  have h1 := small_iff ha
  have h2 := small_iff hb
  refine ⟨⟨h1.1, h1.2, h2.1, h2.2, hn⟩, ?_⟩
  cases tup with
  | true => exact PostV.tup po S (rg_rep a b)
  | false => exact PostV.newL po S (rg_rep a b)
theorem pe_lr {tup : Bool} {e : Expr} {te : L2.St → Hp → (Int → Int → Hp → Prop) → Prop} {p pos : Pos} (hc : X.calm = true) {x : Str} (hx : x = if tup = true then ("tuple" : Str) else "list") (hg : Gl X x) (hm : X.mg x = none) (he : PRg X e te)
    (na : starEach [e] X.env = (false, eval e X.env) :: starEach [] X.env) : PE X (.Call (.Name x p) [e] [] pos) (fun σ H Q => te σ H fun a b H1 => tLr tup a b H1 Q) := by
  cases tup with
  | true => subst hx; exact pe_tupRg hc hg hm he na
  | false => subst hx; exact pe_listRg hc hg hm he na
theorem se_lrg1 {tup : Bool} {a : Expr} {fa : PSt → PH → Out PV} {p p2 pos pos2 : Pos} (hc : X.calm = true) {x : Str} (hx : x = if tup = true then ("tuple" : Str) else "list") (hg : Gl X x) (hm : X.mg x = none) (hg2 : Gl X "range") (hm2 : X.mg "range" = none)
    (ha : PE X a (lE X.K fa)) (hs : starEach [a] X.env = (false, eval a X.env) :: starEach [] X.env) : PE X (.Call (.Name x p) [.Call (.Name "range" p2) [a] [] pos2] [] pos) (lE X.K fun s h => (fa s h).bnd fun x h => lrgF tup [x] h) := by
  refine (pe_lr hc hx hg hm (prg_1 hg2 hm2 ha hs) rfl).weak fun σ H Q ⟨ρ, s, h, S, R, po⟩ => ?_
  refine lE.first S R po fun v ρ1 H1 h1 u x1 S1 R1 e1 ru po1 => ?_
  unfold lrgF at po1
  split at po1
  · rename_i n eq
    cases eq
    split at po1 <;> try exact po1.elim
    rename_i hz
    cases ru
    exact ⟨_, rfl, lr_post S1 (by decide) hz.1 (by simpa using hz.2) (by simpa using po1)⟩
  · rename_i eq; cases eq
  · exact po1.elim
theorem se_lrg2 {tup : Bool} {a b : Expr} {fa fb : PSt → PH → Out PV} {p p2 pos pos2 : Pos} (hc : X.calm = true) {x : Str} (hx : x = if tup = true then ("tuple" : Str) else "list") (hg : Gl X x) (hm : X.mg x = none) (hg2 : Gl X "range") (hm2 : X.mg "range" = none)
    (ha : PE X a (lE X.K fa)) (hb : PE X b (lE X.K fb)) (hs : starEach [a, b] X.env = (false, eval a X.env) :: starEach [b] X.env) (hs2 : starEach [b] X.env = (false, eval b X.env) :: starEach [] X.env) (hp : (backTo pos2 (starEach [b] X.env)).any (·.1) = false) :
    PE X (.Call (.Name x p) [.Call (.Name "range" p2) [a, b] [] pos2] [] pos) (lE X.K fun s h => (fa s h).bnd fun x h => (fb s h).bnd fun y h => lrgF tup [x, y] h) := by
  refine (pe_lr hc hx hg hm (prg_2 hg2 hm2 ha hb hs hs2 hp) rfl).weak fun σ H Q ⟨ρ, s, h, S, R, po⟩ => ?_
  refine lE.first S R po fun v ρ1 H1 h1 u x1 S1 R1 e1 ru po1 => ?_
  refine lE.first S1 R1 po1 fun w ρ2 H2 h2 z x2 S2 R2 e2 rz po2 => ?_
  unfold lrgF at po2
  split at po2
  · rename_i eq; cases eq
  · rename_i i j eq
    cases eq
    split at po2 <;> try exact po2.elim
    rename_i hz
    cases ru
    cases rz
    exact ⟨_, _, rfl, rfl, lr_post S2 hz.1 hz.2.1 hz.2.2 po2⟩
  · exact po2.elim
end
end MP

set_option Elab.async false
set_option linter.all false
set_option maxRecDepth 100000
set_option maxHeartbeats 1000000
namespace MP
open PySem PySem.Spec PyProof.Rows L2
section
variable {X : Cx} {e : Expr} {fe : PSt → PH → Out PV} {pos : Pos}
/-! ### reversed(tuple) -/
theorem wk_rev {K : Fg} {ρ : List Addr} {H : Hp} {a : Addr} {xs : List V} {ps : List PV} (q : SqT K H a xs) (r : RepVs K ρ H ps xs) : Wk K (RT.ItvT K a xs.length) (.vals ps.reverse) ρ H := fun ρ' h' H' i x S => by
  have q' : SqT K H' a xs := x.tup a (true, xs) q
  have r' := r.ext x
  have hl := r.length
  refine ⟨fun e => ?_, fun p e => ?_⟩
  · have e : ps.reverse[i]? = none := by simpa [itStep] using e
    have := List.getElem?_eq_none_iff.mp e
    rw [List.length_reverse, hl] at this
    exact this
  · have e : ps.reverse[i]? = some p := by simpa only [itStep, Option.some.injEq] using e
    have lt := (List.getElem?_eq_some_iff.mp e).1
    rw [List.length_reverse] at lt
    rw [List.getElem?_reverse lt] at e
    obtain ⟨u, hu, ru⟩ := r'.get e
    rw [hl] at hu
    refine ⟨⟨by rw [← hl]; exact lt, xs, u, q', hu⟩, fun y H2 hy => ?_⟩
    obtain ⟨rfl, hy⟩ := hy
    have := hy xs q'
    rw [hu] at this
    cases this
    exact ⟨.refl, S, ru⟩
theorem si_rev {tg : Expr} {p : Pos} (hg : Gl X "reversed") (hm : X.mg "reversed" = none) (he : PE X e (lE X.K fe)) (hs : starEach [e] X.env = (false, eval e X.env) :: starEach [] X.env) :
    PI X tg (.Call (.Name "reversed" p) [e] [] pos) (lI X.K fun s h => (fe s h).bnd fun x h => match x with
    | .tup xs => .ok (.vals xs.reverse) h
    | _ => .bad) := by
  refine (RT.pi_revA hg hm he hs).weak fun σ H R ⟨ρ, s, h, S, Rs, po⟩ => ?_
  refine lE.first S Rs po fun v ρ1 H1 h1 u x1 S1 R1 e1 ru po1 => ?_
  split at po1 <;> try exact po1.elim
  cases ru with
  | tup q r => exact ⟨_, _, rfl, .inr ⟨q, po1.now S1 _ (wk_rev q r)⟩⟩

/-! ### a statement while a dict is walked -/
theorem ss_lk {st : Stmt} {C : PSt → PH → Out PV} {f : PSt → PH → SO} (hst : PS X st (lS X.K f)) : PS X st (lS X.K fun s h => (C s h).sbnd fun x _ => match x with
    | .ref l => (match h[l]? with
      | some (.dic kvs) => unlk l (f s (h.set l (.lck kvs)))
      | _ => .bad)
    | _ => .bad) := by
  refine (ps_lock hst).weak fun D σ H ⟨ρ, s, h, S, R, po⟩ => ?_
  obtain ⟨v, h1, ev, po⟩ := po.okOf
  split at po <;> try exact po.elim
  rename_i l
  split at po <;> try exact po.elim
  rename_i kvs hl
  obtain ⟨d, ea, kobj⟩ := S.at hl
  obtain ⟨ks, eD, rK⟩ := S.dic hl ea
  refine ⟨d, .dK ks, eD, True.intro, fun od => ?_⟩
  have t1 : ∀ a xs, SqI X.K H a xs → SqI X.K (upd H d (.frz od (.dK ks))) a xs := set_tup S ea
  have x1 : Ext X.K ρ H ρ (upd H d (.frz od (.dK ks))) := Ext.set S ea (nfD eD)
  have S1 : Sim X.K ρ (h.set l (.lck kvs)) (upd H d (.frz od (.dK ks))) := S.set ea ⟨od, ks, upd_same, rK.ext x1⟩
  refine ⟨ρ, s, h.set l (.lck kvs), S1, R.ext x1, ?_⟩
  have fin : ∀ {ρ2 : List Addr} {H2 : Hp} {h2 h3 : PH}, Ext X.K ρ (upd H d (.frz od (.dK ks))) ρ2 H2 → Sim X.K ρ2 h2 H2 → free l h2 = some h3 →
      H2 d = some (.frz od (.dK ks)) ∧ Ext X.K ρ H ρ2 (upd H2 d (.dK ks)) ∧ Sim X.K ρ2 h3 (upd H2 d (.dK ks)) ∧ (∀ a xs, SqI X.K H2 a xs → SqI X.K (upd H2 d (.dK ks)) a xs) := by
    intro ρ2 H2 h2 h3 x2 S2 ef
    unfold free at ef
    split at ef <;> cases ef
    rename_i kvs2 hl2
    have ea2 := x2.pre _ _ ea
    have eL : H2 d = some (.frz od (.dK ks)) := x2.lck d od ks upd_same
    obtain ⟨o2, ks2, eD2, rK2⟩ := S2.lck hl2 ea2
    rw [eL] at eD2
    cases eD2
    have t2 : ∀ a xs, SqI X.K H2 a xs → SqI X.K (upd H2 d (.dK ks)) a xs := set_tup S2 ea2
    exact ⟨eL, Ext.unlock rfl eD (mem_of_get ea) x2 t1 t2, S2.set ea2 ⟨ks, upd_same, rK2.mono (fun _ _ e => e) t2⟩, t2⟩
  cases ef : f s (h.set l (.lck kvs)) with
  | nx s2 h2 =>
    rw [ef] at po
    unfold unlk at po
    dsimp only at po
    split at po <;> try exact po.elim
    rename_i h3 e3
    exact fun ρ2 H2 σ2 x2 S2 R2 => let ⟨f1, f2, f3, f4⟩ := fin x2 S2 e3; ⟨f1, po ρ2 _ σ2 f2 f3 ⟨R2.1, fun i v e => let ⟨u, a, b⟩ := R2.2 i v e; ⟨u, a, b.mono (fun _ _ e => e) f4⟩⟩⟩
  | ct s2 h2 =>
    rw [ef] at po
    unfold unlk at po
    dsimp only at po
    split at po <;> try exact po.elim
    rename_i h3 e3
    exact fun ρ2 H2 σ2 x2 S2 R2 => let ⟨f1, f2, f3, f4⟩ := fin x2 S2 e3; ⟨f1, po ρ2 _ σ2 f2 f3 ⟨R2.1, fun i v e => let ⟨u, a, b⟩ := R2.2 i v e; ⟨u, a, b.mono (fun _ _ e => e) f4⟩⟩⟩
  | bk s2 h2 =>
    rw [ef] at po
    unfold unlk at po
    dsimp only at po
    split at po <;> try exact po.elim
    rename_i h3 e3
    exact fun ρ2 H2 σ2 x2 S2 R2 => let ⟨f1, f2, f3, f4⟩ := fin x2 S2 e3; ⟨f1, po ρ2 _ σ2 f2 f3 ⟨R2.1, fun i v e => let ⟨u, a, b⟩ := R2.2 i v e; ⟨u, a, b.mono (fun _ _ e => e) f4⟩⟩⟩
  | rt v2 h2 =>
    rw [ef] at po
    unfold unlk at po
    dsimp only at po
    split at po <;> try exact po.elim
    rename_i h3 e3
    exact fun ρ2 H2 V x2 S2 rV => let ⟨f1, f2, f3, f4⟩ := fin x2 S2 e3; ⟨f1, po ρ2 _ V f2 f3 (rV.mono (fun _ _ e => e) f4)⟩
  | exc _ _ => rw [ef] at po; exact po.elim
  | bad => rw [ef] at po; exact po.elim
end
end MP

set_option Elab.async false
set_option linter.all false
set_option maxRecDepth 100000
set_option maxHeartbeats 2000000
namespace MP
open PySem PySem.Spec PyProof.Rows L2

/-! ### is the text mine? -/
structure Sc where
  N : List Str
  sc : Scope
  blk : Option Scope
def Sc.inner (g : Sc) (scope : Scope) : Sc := ⟨g.N, relS scope g.sc, some scope⟩
def Sc.fn (g : Sc) (x : Str) : Bool := match g.blk with
  | none => true
  | some s => s.names.lookup x == some .cell
def visB (sc : Scope) (x : Str) : Bool := match sc.names.lookup x with
  | some .local => true
  | some .cell => true
  | some .free => true
  | _ => false
def locB (sc : Scope) (x : Str) : Bool := match sc.names.lookup x with
  | some .local => true
  | some .cell => true
  | _ => false
def isLocal (sc : Scope) (x : Str) : Bool := match sc.names.lookup x with
  | some .local => true
  | _ => false
def glB (sc : Scope) (x : Str) : Bool := match sc.names.lookup x with
  | some .globalImplicit => true
  | _ => false
def nameB (g : Sc) (x : Str) (i : Nat) : Bool := decide (g.N[i]? = some x) && locB g.sc x && (g.fn x || isLocal g.sc x)
def noStar : List Expr → Bool
  | [] => true
  | .Starred _ _ :: _ => false
  | _ :: r => noStar r
def isSlice : Expr → Bool
  | .Slice _ _ _ _ => true
  | _ => false
def isSet : Expr → Bool
  | .Set _ _ _ => true
  | _ => false
def isComp : Expr → Bool
  | .ListComp .. => true
  | .SetComp .. => true
  | .DictComp .. => true
  | _ => false
def okBase : Expr → Bool
  | .Call (.Name id _) [] [] _ => id != "super"
  | _ => true
def plainT : Expr → Bool
  | .UnaryOp .Not _ _ => false
  | .BoolOp _ _ _ => false
  | .IfExp _ _ _ _ => false
  | .Compare _ _ _ _ => false
  | _ => true
def ownOf (N : List Str) (own : List Nat) : List (Str × Nat) := own.map fun i => (N[i]?.getD "", i)
/-- the names of a tuple's target -/
def namesB (g : Sc) : List Nat → List Expr → Bool
  | [], [] => true
  | i :: is, .Name x _ :: es => nameB g x i && namesB g is es
  | _, _ => false
def tgSlots : Tg → List Nat
  | .nm i => [i]
  | .tup is => is
  | _ => []
def invB (neg : Bool) : CmpOp → Bool
  | .In => !neg
  | .NotIn => neg
  | _ => false
mutual
def chkE (g : Sc) : E → Expr → Bool
  | .non, .Constant .none _ _ => true
  | .bl b, .Constant (.bool c) _ _ => b == c
  | .int i, .Constant (.int j) _ _ => decide (i = j)
  | .str x, .Constant (.str y) _ _ => decide (x = y)
  | .var i, .Name x _ => decide (g.N[i]? = some x) && visB g.sc x && !(x == ("__debug__" : Str)) && !(x == ("__classdict__" : Str))
  | .bin op a b, .BinOp l o r _ => decide (op = o) && chkE g a l && chkE g b r
  | .neg a, .UnaryOp .USub x _ => chkE g a x
  | .cmp op a b, .Compare l [o] [r] _ => decide (op = o) && chkE g a l && chkE g b r && !behindInMarks o r
  | .cmp2 op op' a b c, .Compare l [o, o'] [r, t] _ => decide (op = o) && decide (op' = o') && chkE g a l && chkE g b r && chkE g c t && !lastMarks [o, o'] [r, t]
  | .and a b, .BoolOp .And (x :: y :: r) p => chkE g a x && (match r with
    | [] => chkE g b y
    | _ => chkE g b (.BoolOp .And (y :: r) p))
  | .or a b, .BoolOp .Or (x :: y :: r) p => chkE g a x && (match r with
    | [] => chkE g b y
    | _ => chkE g b (.BoolOp .Or (y :: r) p))
  | .not a, .UnaryOp .Not x _ => chkE g a x
  | .ite c a b, .IfExp t x y _ => chkT g c t && chkE g a x && chkE g b y
  | .tup es, .Tuple xs _ _ => noStar xs && chkEs g es xs
  | .lst es, .List xs _ => noStar xs && chkEs g es xs
  | .dic ks, .Dict keys vals _ => (match keys with
    | [] => (match ks, vals with
      | .nil, [] => true
      | _, _ => false)
    | _ => chkKs g ks keys vals && decide (keys.length ≤ 15))
  | .sub a i, .Subscript x y _ => !isSlice y && chkE g a x && chkE g i y
  | .slc a lo hi, .Subscript x (.Slice l h none _) _ => chkE g a x && chkP g lo l && chkP g hi h
  | .call f es, .Call (.Name x _) xs [] _ => decide (f = x) && glB g.sc x && !(x == ("__debug__" : Str)) && noStar xs && chkEs g es xs
  | .bi f es, .Call (.Name x _) (y :: xs) [] _ => decide (f.name = x) && glB g.sc x && noStar (y :: xs) && chkEs g es (y :: xs)
  | .mt m o es, .Call (.Attribute oe n apos) xs [] pos => decide (m.name = n) && (apos.endLine == pos.line) && okBase oe && noStar xs && decide (xs.length ≤ 2) && chkE g o oe && chkEs g es xs
  | .lc elt tg it ifs own, .ListComp ee [c] scope _ => (match c.is_async with
    | 0 => blkC g.N g.sc scope (ownOf g.N own) && (tgSlots tg).all (own.contains ·) && chkI g it c.iter && !isSet c.iter && chkG (g.inner scope) tg c.target && chkTs (g.inner scope) ifs c.ifs && chkE (g.inner scope) elt ee
    | _ => false)
  | .dc kx vx tg it ifs own, .DictComp ke ve [c] scope _ => (match c.is_async with
    | 0 => blkC g.N g.sc scope (ownOf g.N own) && (tgSlots tg).all (own.contains ·) && chkI g it c.iter && !isSet c.iter && chkG (g.inner scope) tg c.target && chkTs (g.inner scope) ifs c.ifs && chkE (g.inner scope) kx ke && chkE (g.inner scope) vx ve
    | _ => false)
  | .isi f e, .Call (.Name x _) [y, .Name t _] [] _ => decide (x = ("isinstance" : Str)) && decide (f.name = t) && f.ty.isSome && glB g.sc x && glB g.sc t && noStar [y] && chkE g e y
  | .lock _ e, x => chkE g e x
  | .lrg t es, .Call (.Name x _) [.Call (.Name y _) xs [] _] [] _ => decide (x = if t = true then ("tuple" : Str) else "list") && decide (y = ("range" : Str)) && glB g.sc x && glB g.sc y && noStar xs && (decide (xs.length = 1) || decide (xs.length = 2)) && chkEs g es xs
  | .inv neg a d, .Compare l [o] [.Call (.Attribute de n apos) [] [] cpos] _ => decide (n = ("values" : Str)) && invB neg o && (apos.endLine == cpos.line) && okBase de && chkE g a l && chkE g d de
  | _, _ => false
def chkEs (g : Sc) : Es → List Expr → Bool
  | .nil, [] => true
  | .cons e r, x :: xs => chkE g e x && chkEs g r xs
  | _, _ => false
def chkKs (g : Sc) : Ks → List (Option Expr) → List Expr → Bool
  | .nil, [], [] => true
  | .cons k v r, some x :: xs, y :: ys => chkE g k x && chkE g v y && chkKs g r xs ys
  | _, _, _ => false
def chkT (g : Sc) : T → Expr → Bool
  | .e c, x => plainT x && chkE g c x
  | .and a b, .BoolOp .And (x :: y :: r) p => chkT g a x && (match r with
    | [] => chkT g b y
    | _ => chkT g b (.BoolOp .And (y :: r) p))
  | .or a b, .BoolOp .Or (x :: y :: r) p => chkT g a x && (match r with
    | [] => chkT g b y
    | _ => chkT g b (.BoolOp .Or (y :: r) p))
  | .not a, .UnaryOp .Not x _ => chkT g a x
  | .cmp op a b, .Compare l [o] [r] _ => decide (op = o) && chkE g a l && chkE g b r && !behindInMarks o r
  | .cmp2 op op' a b c, .Compare l [o, o'] [r, t] _ => decide (op = o) && decide (op' = o') && chkE g a l && chkE g b r && chkE g c t && !lastMarks [o, o'] [r, t]
  | .inv neg a d, .Compare l [o] [.Call (.Attribute de n apos) [] [] cpos] _ => decide (n = ("values" : Str)) && invB neg o && (apos.endLine == cpos.line) && okBase de && chkE g a l && chkE g d de
  | _, _ => false
def chkTs (g : Sc) : Ts → List Expr → Bool
  | .nil, [] => true
  | .cons t r, [x] => chkT g t x && (match r with
    | .nil => true
    | _ => false)
  | _, _ => false
def chkP (g : Sc) : Pt → Option Expr → Bool
  | .none, none => true
  | .some e, some x => chkE g e x
  | _, _ => false
def chkI (g : Sc) : It → Expr → Bool
  | .ex e, x => chkE g e x
  | .keys e, x => chkE g e x
  | .rev e, .Call (.Name x _) [y] [] _ => decide (x = ("reversed" : Str)) && glB g.sc x && noStar [y] && chkE g e y
  | .rng es, .Call (.Name x _) xs [] _ => decide (x = ("range" : Str)) && glB g.sc x && noStar xs && (decide (xs.length = 1) || decide (xs.length = 2)) && chkEs g es xs
  | _, _ => false
def chkG (g : Sc) : Tg → Expr → Bool
  | .nm i, .Name x _ => nameB g x i
  | .tup is, .Tuple es _ _ => namesB g is es
  | .sub o i, .Subscript x y _ => chkE g o x && chkE g i y && !isSlice y
  | _, _ => false
end
/-- a comprehension that is stored at once on its line -/
def atOnce (sc : Scope) (v tg : Expr) : Bool := match v, tg with
  | .ListComp _ _ s p, .Name t q => isLocal sc t && (q.line == p.line) && !(s.names.any fun (n, k) => n == t && (k == .local || k == .cell))
  | .SetComp _ _ s p, .Name t q => isLocal sc t && (q.line == p.line) && !(s.names.any fun (n, k) => n == t && (k == .local || k == .cell))
  | .DictComp _ _ _ s p, .Name t q => isLocal sc t && (q.line == p.line) && !(s.names.any fun (n, k) => n == t && (k == .local || k == .cell))
  | _, _ => false
def twoTuples : Expr → Expr → Bool
  | .Tuple _ _ _, .Tuple _ _ _ => true
  | .List _ _, .Tuple _ _ _ => true
  | _, _ => false
def opOk : Operator → Bool
  | .Add => true | .Sub => true | .BitOr => true | .Mult => true | _ => false
def isLc : E → Bool
  | .lc .. => true
  | _ => false
def isStarE : Expr → Bool
  | .Starred .. => true
  | _ => false
mutual
def chkS (g : Sc) : S → Stmt → Bool
  | .pass, .Pass _ => true
  | .brk, .Break _ => true
  | .cont, .Continue _ => true
  | .retN, .Return none _ => true
  | .ret e, .Return (some x) _ => chkE g e x
  | .ex e, .Expr x _ => chkE g e x && !isComp x
  | .asg t e, .Assign [tg] v _ => chkG g t tg && chkE g e v && !twoTuples tg v && (match atOnce g.sc v tg with
    | false => true
    | true => isLc e)
  | .aug i op e, .AugAssign (.Name x _) o v _ => decide (op = o) && opOk o && nameB g x i && chkE g e v
  | .ite c a b, .If t x y _ => chkT g c t && chkSs g a x && chkSs g b y
  | .whl c b, .While t x [] _ => chkT g c t && chkSs g b x
  | .frr t it b, .For tg ie x [] _ => chkG g t tg && chkI g it ie && !isSet ie && chkSs g b x
  | .never, _ => true
  | .lk _ st, x => chkS g st x
  | _, _ => false
def chkSs (g : Sc) : Ss → List Stmt → Bool
  | .nil, [] => true
  | .cons s r, x :: xs => chkS g s x && chkSs g r xs
  | _, _ => false
end

/-! ### the context -/
structure Ctx (X : Cx) (g : Sc) (C : Str → List PV → PH → Out PV) (k : Nat) : Prop where
  N : X.N = g.N
  sc : X.env.scope = g.sc
  fn : ∀ x, g.fn x = true → X.fn x = true
  calm : X.calm = true
  nd : X.N.Nodup
  xe : X.xe = fun _ _ => False
  kind : X.env.scope.kind = .function
  room : Room k X.A
  bi : ∀ f : Bi, X.mg f.name = none
  range : X.mg "range" = none
  fns : ∀ f, FnAt X k f (C f) ∨ ∀ xs h, C f xs h = .bad
theorem inv_op {neg : Bool} {o : CmpOp} (h : invB neg o = true) : (o = .In ∨ o = .NotIn) ∧ neg = decide (o = .NotIn) := by
  cases o <;> cases neg <;> simp [invB] at h ⊢
section
variable {X : Cx} {g : Sc} {C : Str → List PV → PH → Out PV} {k : Nat}
theorem Ctx.blk (c : Ctx X g C k) {scope : Scope} (hk : scope.kind = .function) (s : Shared) (H : Hp) (C' : Addr) (cl : List (Str × Addr)) (fp : List Addr) : Ctx (X.blk s H scope (compEnvC scope cl C' X.env) fp) (g.inner scope) C k where
  N := c.N
  sc := by
    show relabel scope X.env = relS scope g.sc
    rw [← c.sc]
    rfl
  fn := fun x h => h
  calm := c.calm
  nd := c.nd
  xe := rfl
  kind := hk
  room := c.room
  bi := c.bi
  range := c.range
  fns := fun f => (c.fns f).imp (fun ⟨ex⟩ => ⟨ex⟩) id
theorem Ctx.vis (c : Ctx X g C k) {x : Str} (h : visB g.sc x = true) : Vis X.env.scope x := by
  rw [c.sc]
  unfold visB at h
  split at h
  · exact .inl (by assumption)
  · exact .inr (.inl (by assumption))
  · exact .inr (.inr (by assumption))
  · cases h
theorem Ctx.loc (c : Ctx X g C k) {x : Str} (h : locB g.sc x = true) : Loc X.env.scope x := by
  rw [c.sc]
  unfold locB at h
  split at h
  · exact .inl (by assumption)
  · exact .inr (by assumption)
  · cases h
theorem Ctx.gl (c : Ctx X g C k) {x : Str} (h : glB g.sc x = true) : Gl X x := by
  unfold Gl Env.kindOf
  rw [c.sc]
  unfold glB at h
  split at h
  · assumption
  · cases h
theorem isLocal_of {sc : Scope} {x : Str} (h : isLocal sc x = true) : sc.names.lookup x = some .local := by
  unfold isLocal at h
  split at h
  · assumption
  · cases h
theorem Ctx.name (c : Ctx X g C k) {x : Str} {i : Nat} (h : nameB g x i = true) : NameAt X x i := by
  unfold nameB at h
  simp only [Bool.and_eq_true, Bool.or_eq_true, decide_eq_true_eq] at h
  refine ⟨by rw [c.N]; exact h.1.1, c.loc h.1.2, h.2.imp (c.fn x) fun z => ?_⟩
  rw [c.sc]
  exact isLocal_of z
theorem Ctx.hu (c : Ctx X g C k) : X.A.units + 65 < cLine := by have := c.room.un; omega
theorem star_cons {env : Env} {x : Expr} {xs : List Expr} (h : noStar (x :: xs) = true) : starEach (x :: xs) env = (false, eval x env) :: starEach xs env ∧ noStar xs = true := by
  cases x <;> first | exact ⟨rfl, h⟩ | (simp [noStar] at h)
theorem star_any {env : Env} : ∀ {xs : List Expr} {pos : Pos}, noStar xs = true → (backTo pos (starEach xs env)).any (·.1) = false
  | [], _, _ => rfl
  | x :: xs, pos, h => by
    obtain ⟨h1, h2⟩ := star_cons (env := env) h
    rw [h1]
    unfold backTo
    rw [List.map_cons, List.any_cons]
    have := star_any (env := env) (pos := pos) h2
    unfold backTo at this
    rw [this]
    rfl
theorem plainIx_of {e : Expr} (h : isSlice e = false) : PlainIx e := by
  intro o i
  cases e <;> first | rfl | (simp [isSlice] at h)
theorem base_of {e : Expr} {n : Str} {env : Env} {w : Sem Value} (h : okBase e = true) : attributeBase e n env w = w := by
  unfold attributeBase
  split
  · rename_i id p pos
    simp only [okBase] at h
    rw [if_pos (by simp only [Bool.or_eq_true]; left; left; left; exact h)]
  · rfl
theorem set_of {e : Expr} {env : Env} (h : isSet e = false) (x : Value) : foldedSetIterable e env x = pure x := by
  cases e <;> first | rfl | (simp [isSet] at h)
theorem plainT_of {e : Expr} {env : Env} (h : plainT e = true) (w : Sem Value) : isTrue e env w = (do let v ← w; standAt e.pos; holding [v] (truthy v)) := by
  cases e with
  | UnaryOp op x p => cases op <;> first | rfl | (simp [plainT] at h)
  | BoolOp _ _ _ => simp [plainT] at h
  | IfExp _ _ _ _ => simp [plainT] at h
  | Compare _ _ _ _ => simp [plainT] at h
  | _ => rfl
theorem swaps_none {e : Expr} {env : Env} {t : Option Expr} {l : Nat} (h : isComp e = false) : swapsWith e t l env = pure false := by
  cases e <;> first | rfl | (simp [isComp] at h)
end
end MP

set_option Elab.async false
set_option linter.all false
set_option maxRecDepth 100000
set_option maxHeartbeats 4000000
namespace MP
open PySem PySem.Spec PyProof.Rows L2

theorem PE.fn {X : Cx} {e : Expr} {f f' : PSt → PH → Out PV} (h : PE X e (lE X.K f)) (q : f' = f) : PE X e (lE X.K f') := q ▸ h
theorem PT.fn {X : Cx} {e : Expr} {f f' : PSt → PH → Out Bool} (h : PT X e (lB X.K f)) (q : f' = f) : PT X e (lB X.K f') := q ▸ h
theorem PW.fn {X : Cx} {e : Expr} {f f' : PSt → PH → Out Bool} (h : PW X e (lB X.K f)) (q : f' = f) : PW X e (lB X.K f') := q ▸ h
theorem PA.fn {X : Cx} {e : List Expr} {f f' : PSt → PH → Out (List PV)} (h : PA X e (lA X.K f)) (q : f' = f) : PA X e (lA X.K f') := q ▸ h
theorem PI.fn {X : Cx} {tg e : Expr} {f f' : PSt → PH → Out MP.Itr} (h : PI X tg e (lI X.K f)) (q : f' = f) : PI X tg e (lI X.K f') := q ▸ h
theorem PS.fn {X : Cx} {e : Stmt} {f f' : PSt → PH → SO} (h : PS X e (lS X.K f)) (q : f' = f) : PS X e (lS X.K f') := q ▸ h
theorem PSs.fn {X : Cx} {e : List Stmt} {f f' : PSt → PH → SO} (h : PSs X e (lS X.K f)) (q : f' = f) : PSs X e (lS X.K f') := q ▸ h
theorem PG.fn {X : Cx} {e : Expr} {ws : List Nat} {f f' : PV → PSt → PH → Out PSt} (h : PG X e (lT X.K ws f)) (q : f' = f) : PG X e (lT X.K ws f') := q ▸ h

theorem own_slots {N : List Str} {own ws : List Nat} (h : ws.all (own.contains ·) = true) : ∀ w ∈ ws, w ∈ (ownOf N own).map (·.2) := fun w hw => by
  have := List.all_eq_true.mp h w hw
  unfold ownOf
  rw [List.map_map]
  simpa using this
theorem own_map {N : List Str} {own : List Nat} : (ownOf N own).map (·.2) = own := by
  unfold ownOf
  rw [List.map_map]
  simp [Function.comp_def]
theorem names_of {X : Cx} {g : Sc} {C : Str → List PV → PH → Out PV} {k : Nat} (c : Ctx X g C k) : ∀ {is : List Nat} {es : List Expr}, namesB g is es = true → ∃ xs : List (Str × Pos), es = xs.map (fun x => Expr.Name x.1 x.2) ∧ Paired (fun (x : Str × Pos) i => NameAt X x.1 i) xs is
  | [], [], _ => ⟨[], rfl, .nil⟩
  | [], _ :: _, h => by simp [namesB] at h
  | i :: is, [], h => by simp [namesB] at h
  | i :: is, e :: es, h => by
    cases e <;> simp [namesB] at h
    rename_i x p
    obtain ⟨xs, e1, e2⟩ := names_of c h.2
    exact ⟨(x, p) :: xs, by rw [e1]; rfl, .cons (c.name h.1) e2⟩

mutual
theorem sndE {C : Str → List PV → PH → Out PV} {k : Nat} : ∀ (c : E) {X : Cx} {g : Sc} {e : Expr}, Ctx X g C k → chkE g c e = true → PE X e (lE X.K (evE C c))
  | .non, X, g, e, ctx, h => by
    unfold chkE at h; split at h <;> first | contradiction | skip
    exact se_const pe_non fun _ _ => .non
  | .bl b, X, g, e, ctx, h => by
    unfold chkE at h; split at h <;> first | contradiction | skip
    rename_i q; cases q
    have := eq_of_beq h
    subst this
    exact se_const pe_bl fun _ _ => .bl _
  | .int i, X, g, e, ctx, h => by
    unfold chkE at h; split at h <;> first | contradiction | skip
    rename_i q; cases q
    have := of_decide_eq_true h
    subst this
    exact se_const pe_int fun _ _ => .int _
  | .str x, X, g, e, ctx, h => by
    unfold chkE at h; split at h <;> first | contradiction | skip
    rename_i q; cases q
    have := of_decide_eq_true h
    subst this
    exact se_const pe_str fun _ _ => .str _
  | .var i, X, g, e, ctx, h => by
    unfold chkE at h; split at h <;> first | contradiction | skip
    rename_i q; cases q
    simp only [Bool.and_eq_true, Bool.not_eq_true', decide_eq_true_eq] at h
    exact se_var (by rw [ctx.N]; exact h.1.1.1) (ctx.vis h.1.1.2) h.1.2 h.2
  | .cst x v, X, g, e, ctx, h => by
    simp [chkE] at h
  | .bin op a b, X, g, e, ctx, h => by
    unfold chkE at h; split at h <;> first | contradiction | skip
    rename_i q; cases q
    simp only [Bool.and_eq_true, decide_eq_true_eq] at h
    obtain ⟨⟨rfl, h1⟩, h2⟩ := h
    exact PE.fn (se_bin (sndE a ctx h1) (sndE b ctx h2)) (by funext s h; rfl)
  | .neg a, X, g, e, ctx, h => by
    unfold chkE at h; split at h <;> first | contradiction | skip
    rename_i q; cases q
    exact PE.fn (se_neg (sndE a ctx h)) (by funext s h; rfl)
  | .cmp op a b, X, g, e, ctx, h => by
    unfold chkE at h; split at h <;> first | contradiction | skip
    rename_i q; cases q
    simp only [Bool.and_eq_true, decide_eq_true_eq, Bool.not_eq_true'] at h
    obtain ⟨⟨⟨rfl, h1⟩, h2⟩, h3⟩ := h
    exact PE.fn (se_cmp ctx.hu (sndE a ctx h1) (sndE b ctx h2) h3) (by funext s h; rfl)
  | .cmp2 op op' a b c, X, g, e, ctx, h => by
    unfold chkE at h; split at h <;> first | contradiction | skip
    rename_i q; cases q
    simp only [Bool.and_eq_true, decide_eq_true_eq, Bool.not_eq_true'] at h
    obtain ⟨⟨⟨⟨⟨rfl, rfl⟩, h1⟩, h2⟩, h3⟩, h4⟩ := h
    exact PE.fn (se_cmp2 ctx.hu (sndE a ctx h1) (sndE b ctx h2) (sndE c ctx h3) h4) (by funext s h; rfl)
  | .and a b, X, g, e, ctx, h => by
    unfold chkE at h; split at h <;> first | contradiction | skip
    rename_i q; cases q
    simp only [Bool.and_eq_true] at h
    obtain ⟨h1, h2⟩ := h
    refine PE.fn (se_and (sndE a ctx h1) (fb := evE C b) ?_) (by funext s h; rfl)
    split at h2
    · exact pe_one (sndE b ctx h2)
    · exact sndE b ctx h2
  | .or a b, X, g, e, ctx, h => by
    unfold chkE at h; split at h <;> first | contradiction | skip
    rename_i q; cases q
    simp only [Bool.and_eq_true] at h
    obtain ⟨h1, h2⟩ := h
    refine PE.fn (se_or (sndE a ctx h1) (fb := evE C b) ?_) (by funext s h; rfl)
    split at h2
    · exact pe_one (sndE b ctx h2)
    · exact sndE b ctx h2
  | .not a, X, g, e, ctx, h => by
    unfold chkE at h; split at h <;> first | contradiction | skip
    rename_i q; cases q
    exact PE.fn (se_not (sndE a ctx h)) (by funext s h; rfl)
  | .ite c a b, X, g, e, ctx, h => by
    unfold chkE at h; split at h <;> first | contradiction | skip
    rename_i q; cases q
    simp only [Bool.and_eq_true] at h
    exact PE.fn (se_ite (sndT c ctx h.1.1) (sndE a ctx h.1.2) (sndE b ctx h.2)) (by funext s h; rfl)
  | .tup es, X, g, e, ctx, h => by
    unfold chkE at h; split at h <;> first | contradiction | skip
    rename_i q; cases q
    simp only [Bool.and_eq_true] at h
    exact PE.fn (se_tup (sndEs es ctx h.1 h.2)) (by funext s h; rfl)
  | .lst es, X, g, e, ctx, h => by
    unfold chkE at h; split at h <;> first | contradiction | skip
    rename_i q; cases q
    simp only [Bool.and_eq_true] at h
    exact PE.fn (se_lst (sndEs es ctx h.1 h.2)) (by funext s h; rfl)
  | .dic ks, X, g, e, ctx, h => by
    unfold chkE at h; split at h <;> first | contradiction | skip
    rename_i q; cases q
    split at h
    · split at h <;> first | contradiction | skip
      exact PE.fn se_dic0 (by funext s h; rfl)
    · rename_i hne
      simp only [Bool.and_eq_true, decide_eq_true_eq] at h
      obtain ⟨d1, d2, d3⟩ := sndKs ks ctx h.1
      exact PE.fn (se_dic (d1 _) d2 d3 (fun z => hne z) h.2) (by funext s h; rfl)
  | .sub a i, X, g, e, ctx, h => by
    unfold chkE at h; split at h <;> first | contradiction | skip
    rename_i q; cases q
    simp only [Bool.and_eq_true, Bool.not_eq_true'] at h
    exact PE.fn (se_sub ctx.hu (sndE a ctx h.1.2) (sndE i ctx h.2) (plainIx_of h.1.1)) (by funext s h; rfl)
  | .slc a lo hi, X, g, e, ctx, h => by
    unfold chkE at h; split at h <;> first | contradiction | skip
    rename_i q; cases q
    simp only [Bool.and_eq_true] at h
    exact PE.fn (se_slc (sndE a ctx h.1.1) (sndP lo ctx h.1.2) (sndP hi ctx h.2)) (by funext s h; rfl)
  | .call f es, X, g, e, ctx, h => by
    unfold chkE at h; split at h <;> first | contradiction | skip
    rename_i q; cases q
    simp only [Bool.and_eq_true, decide_eq_true_eq, Bool.not_eq_true'] at h
    obtain ⟨⟨⟨⟨rfl, h1⟩, h2⟩, h3⟩, h4⟩ := h
    have ha := sndEs es ctx h3 h4
    rcases ctx.fns f with F | F
    · refine PE.fn (se_call F ctx.room (ctx.gl h1) h2 ha (fun a t e => ?_) (fun a t e => ?_) fun e => ?_) (by funext s h; rfl)
      · subst e; exact (star_cons h3).1
      · subst e; exact star_any (star_cons (env := X.env) h3).2
      · subst e
        cases es with
        | nil => exact fun s h => rfl
        | cons _ _ => simp [chkEs] at h4
    · refine ⟨fun pins s σ H Q I ⟨ρ, s', h', S, R, po⟩ => ?_⟩
      have po : PostV X.K ρ H ((evEs C es s' h').bnd fun xs h => C f xs h) Q := po
      obtain ⟨v, h2, _, po2⟩ := po.okOf
      rw [F] at po2
      exact po2.elim
  | .bi f es, X, g, e, ctx, h => by
    unfold chkE at h; split at h <;> first | contradiction | skip
    rename_i q; cases q
    simp only [Bool.and_eq_true, decide_eq_true_eq] at h
    obtain ⟨⟨⟨rfl, h1⟩, h2⟩, h3⟩ := h
    exact PE.fn (se_bi ctx.calm (ctx.gl h1) (ctx.bi f) (sndEs es ctx h2 h3) (star_cons h2).1 (star_any (star_cons (env := X.env) h2).2)) (by funext s h; rfl)
  | .mt m o es, X, g, e, ctx, h => by
    unfold chkE at h; split at h <;> first | contradiction | skip
    rename_i q; cases q
    simp only [Bool.and_eq_true, decide_eq_true_eq] at h
    obtain ⟨⟨⟨⟨⟨⟨rfl, h1⟩, h2⟩, h3⟩, h4⟩, h5⟩, h6⟩ := h
    have ho := sndE o ctx h5
    cases es with
    | nil =>
      cases ‹List Expr› with
      | cons _ _ => simp [chkEs] at h6
      | nil =>
        refine PE.fn (se_mt0 (fun n => base_of h2) h1 ho) ?_
        funext s h
        simp only [evE, evEs]
        cases evE C o s h with
        | ok v h' => simp only [Out.bnd, if_pos]
        | exc _ _ => rfl
        | bad => rfl
    | cons c r =>
      cases ‹List Expr› with
      | nil => simp [chkEs] at h6
      | cons x xs =>
        simp only [chkEs, Bool.and_eq_true] at h6
        have hx := sndE c ctx h6.1
        cases r with
        | nil =>
          cases xs with
          | cons _ _ => simp [chkEs] at h6
          | nil =>
            refine PE.fn (se_mt1 ctx.hu (fun n => base_of h2) h1 (star_cons h3).1 ho hx) ?_
            funext s h
            simp only [evE, evEs, Out.bnd_bnd]
            rfl
        | cons c2 r2 =>
          cases xs with
          | nil => simp [chkEs] at h6
          | cons y ys =>
            have h6' : chkE g c2 y = true ∧ chkEs g r2 ys = true := by simpa [chkEs] using h6.2
            have hy := sndE c2 ctx h6'.1
            cases ys with
            | cons _ _ => simp at h4
            | nil =>
              cases r2 with
              | cons _ _ => simp [chkEs] at h6'
              | nil =>
                have s1 := star_cons (env := X.env) h3
                have s2 := star_cons (env := X.env) s1.2
                refine PE.fn (se_mt2 ctx.hu (fun n => base_of h2) h1 (by rw [s1.1, s2.1]; rfl) (by rw [s2.1]; rfl) ho hx hy) ?_
                funext s h
                simp only [evE, evEs, Out.bnd_bnd]
                rfl
  | .fld o f, X, g, e, ctx, h => by
    simp [chkE] at h
  | .mk c es, X, g, e, ctx, h => by
    simp [chkE] at h
  | .um m o es, X, g, e, ctx, h => by
    simp [chkE] at h
  | .lc elt tg it ifs own, X, g, e, ctx, h => by
    unfold chkE at h; split at h <;> first | contradiction | skip
    rename_i q; cases q
    rename_i c scope _
    obtain ⟨ct, ci, cf, ca⟩ := c
    split at h <;> first | contradiction | skip
    rename_i hca
    have hca : ca = 0 := hca
    subst hca
    simp only [Bool.and_eq_true, Bool.not_eq_true'] at h
    obtain ⟨⟨⟨⟨⟨⟨h1, h2⟩, h3⟩, h4⟩, h5⟩, h6⟩, h7⟩ := h
    have ok : BlkOk X.N X.env.scope scope (ownOf g.N own) := by rw [ctx.N, ctx.sc]; exact blkOk_by h1
    refine PE.fn (se_lc (ws := tgSlots tg) ctx.calm ctx.nd (sndI it ctx h3) ok (own_slots h2) (fun s H C' cl fp => sndG tg (ctx.blk ok.kind s H C' cl fp) h5) (fun s H C' cl fp => sndTs ifs (ctx.blk ok.kind s H C' cl fp) h6) (fun s H C' cl fp => sndE elt (ctx.blk ok.kind s H C' cl fp) h7) (set_of h4)) ?_
    funext s h
    rw [own_map]
    rfl
  | .dc kx vx tg it ifs own, X, g, e, ctx, h => by
    unfold chkE at h; split at h <;> first | contradiction | skip
    rename_i q; cases q
    rename_i c scope _
    obtain ⟨ct, ci, cf, ca⟩ := c
    split at h <;> first | contradiction | skip
    rename_i hca
    have hca : ca = 0 := hca
    subst hca
    simp only [Bool.and_eq_true, Bool.not_eq_true'] at h
    obtain ⟨⟨⟨⟨⟨⟨⟨h1, h2⟩, h3⟩, h4⟩, h5⟩, h6⟩, h7⟩, h8⟩ := h
    have ok : BlkOk X.N X.env.scope scope (ownOf g.N own) := by rw [ctx.N, ctx.sc]; exact blkOk_by h1
    refine PE.fn (se_dc (ws := tgSlots tg) ctx.calm ctx.nd (sndI it ctx h3) ok (own_slots h2) (fun s H C' cl fp => sndG tg (ctx.blk ok.kind s H C' cl fp) h5) (fun s H C' cl fp => sndTs ifs (ctx.blk ok.kind s H C' cl fp) h6) (fun s H C' cl fp => sndE kx (ctx.blk ok.kind s H C' cl fp) h7) (fun s H C' cl fp => sndE vx (ctx.blk ok.kind s H C' cl fp) h8) (set_of h4)) ?_
    funext s h
    rw [own_map]
    rfl
  | .isi f e, X, g, ex, ctx, h => by
    unfold chkE at h; split at h <;> first | contradiction | skip
    rename_i q; cases q
    simp only [Bool.and_eq_true, decide_eq_true_eq] at h
    obtain ⟨⟨⟨⟨⟨⟨rfl, rfl⟩, h2⟩, h3⟩, h4⟩, h5⟩, h6⟩ := h
    exact PE.fn (se_isi h2 (ctx.gl h3) (ctx.bi .isList) (ctx.gl h4) (ctx.bi f) (sndE e ctx h6) (star_cons (by rename_i y _ _; cases y <;> first | rfl | (simp [noStar] at h5))).1) (by funext s h; rfl)
  | .lock i e, X, g, ex, ctx, h => by
    unfold chkE at h
    exact PE.fn (se_lock (i := i) (sndE e ctx h)) (by funext s h; rfl)
  | .inv neg a d, X, g, ex, ctx, h => by
    unfold chkE at h; split at h <;> first | contradiction | skip
    rename_i q; cases q
    simp only [Bool.and_eq_true, decide_eq_true_eq] at h
    obtain ⟨⟨⟨⟨⟨rfl, h1⟩, h2⟩, h3⟩, h4⟩, h5⟩ := h
    obtain ⟨ho, rfl⟩ := inv_op h1
    exact PE.fn (se_inv ctx.calm ho (sndE a ctx h4) (sndE d ctx h5) (base_of h3) h2) (by funext s h; rfl)
  | .lrg t es, X, g, ex, ctx, h => by
    unfold chkE at h; split at h <;> first | contradiction | skip
    rename_i q; cases q
    simp only [Bool.and_eq_true, Bool.or_eq_true, decide_eq_true_eq] at h
    obtain ⟨⟨⟨⟨⟨⟨hx, rfl⟩, h1⟩, h1'⟩, h2⟩, h3⟩, h4⟩ := h
    have hm : X.mg (if t = true then ("tuple" : Str) else "list") = none := by
      cases t with
      | true => exact ctx.bi .tuple
      | false => exact ctx.bi .list
    rw [← hx] at hm
    cases es with
    | nil =>
      cases ‹List Expr› with
      | nil => simp at h3
      | cons _ _ => simp [chkEs] at h4
    | cons c r =>
      cases ‹List Expr› with
      | nil => simp [chkEs] at h4
      | cons x xs =>
        have h4' : chkE g c x = true ∧ chkEs g r xs = true := by simpa [chkEs] using h4
        have hx' := sndE c ctx h4'.1
        cases r with
        | nil =>
          cases xs with
          | cons _ _ => simp [chkEs] at h4'
          | nil =>
            refine PE.fn (se_lrg1 ctx.calm hx (ctx.gl h1) hm (ctx.gl h1') ctx.range hx' (star_cons h2).1) ?_
            funext s h
            simp only [evE, evEs, Out.bnd_bnd]
            rfl
        | cons c2 r2 =>
          cases xs with
          | nil => simp [chkEs] at h4'
          | cons y ys =>
            have h5 : chkE g c2 y = true ∧ chkEs g r2 ys = true := by simpa [chkEs] using h4'.2
            have hy := sndE c2 ctx h5.1
            cases ys with
            | cons _ _ => simp at h3
            | nil =>
              cases r2 with
              | cons _ _ => simp [chkEs] at h5
              | nil =>
                have s1 := star_cons (env := X.env) h2
                have s2 := star_cons (env := X.env) s1.2
                refine PE.fn (se_lrg2 ctx.calm hx (ctx.gl h1) hm (ctx.gl h1') ctx.range hx' hy s1.1 s2.1 (by rw [s2.1]; rfl)) ?_
                funext s h
                simp only [evE, evEs, Out.bnd_bnd]
                rfl
theorem sndEs {C : Str → List PV → PH → Out PV} {k : Nat} : ∀ (c : Es) {X : Cx} {g : Sc} {e : List Expr}, Ctx X g C k → noStar e = true → chkEs g c e = true → PA X e (lA X.K (evEs C c))
  | .nil, X, g, e, ctx, hs, h => by
    unfold chkEs at h; split at h <;> first | contradiction | skip
    exact PA.fn sa_nil (by funext s h; rfl)
  | .cons c r, X, g, e, ctx, hs, h => by
    unfold chkEs at h; split at h <;> first | contradiction | skip
    rename_i q; cases q
    simp only [Bool.and_eq_true] at h
    exact PA.fn (sa_cons (sndE c ctx h.1) (sndEs r ctx (star_cons (env := X.env) hs).2 h.2) (star_cons hs).1) (by funext s h; rfl)
theorem sndKs {C : Str → List PV → PH → Out PV} {k : Nat} : ∀ (c : Ks) {X : Cx} {g : Sc} {ks : List (Option Expr)} {vs : List Expr}, Ctx X g C k → chkKs g c ks vs = true → (∀ pos, DispOk X pos ks vs (evD C c)) ∧ ks.all (·.isSome) = true ∧ ks.length = vs.length
  | .nil, X, g, ks, vs, ctx, h => by
    unfold chkKs at h; split at h <;> first | contradiction | skip
    exact ⟨fun pos => disp_nil, rfl, rfl⟩
  | .cons a b r, X, g, ks, vs, ctx, h => by
    unfold chkKs at h; split at h <;> first | contradiction | skip
    rename_i q; cases q
    simp only [Bool.and_eq_true] at h
    obtain ⟨d1, d2, d3⟩ := sndKs r ctx h.2
    exact ⟨fun pos => disp_cons (sndE a ctx h.1.1) (sndE b ctx h.1.2) (d1 pos), by simpa using d2, by simp [d3]⟩
theorem sndT {C : Str → List PV → PH → Out PV} {k : Nat} : ∀ (c : T) {X : Cx} {g : Sc} {e : Expr}, Ctx X g C k → chkT g c e = true → PT X e (lB X.K (evT C c))
  | .e c, X, g, e, ctx, h => by
    unfold chkT at h
    simp only [Bool.and_eq_true] at h
    exact PT.fn (st_plain (sndE c ctx h.2) (plainT_of h.1)) (by funext s h; rfl)
  | .and a b, X, g, e, ctx, h => by
    unfold chkT at h; split at h <;> first | contradiction | skip
    rename_i q; cases q
    simp only [Bool.and_eq_true] at h
    obtain ⟨h1, h2⟩ := h
    refine PT.fn (PW.pt (sw_and (sndT a ctx h1) (gb := evT C b) ?_)) (by funext s h; rfl)
    split at h2
    · exact pw_and1 (sndT b ctx h2)
    · exact sndW .And b ctx h2
  | .or a b, X, g, e, ctx, h => by
    unfold chkT at h; split at h <;> first | contradiction | skip
    rename_i q; cases q
    simp only [Bool.and_eq_true] at h
    obtain ⟨h1, h2⟩ := h
    refine PT.fn (PW.pt (sw_or (sndT a ctx h1) (gb := evT C b) ?_)) (by funext s h; rfl)
    split at h2
    · exact pw_or1 (sndT b ctx h2)
    · exact sndW .Or b ctx h2
  | .not a, X, g, e, ctx, h => by
    unfold chkT at h; split at h <;> first | contradiction | skip
    rename_i q; cases q
    exact PT.fn (st_not (sndT a ctx h)) (by funext s h; rfl)
  | .ite c a b, X, g, e, ctx, h => by
    simp [chkT] at h
  | .cmp op a b, X, g, e, ctx, h => by
    unfold chkT at h; split at h <;> first | contradiction | skip
    rename_i q; cases q
    simp only [Bool.and_eq_true, decide_eq_true_eq, Bool.not_eq_true'] at h
    obtain ⟨⟨⟨rfl, h1⟩, h2⟩, h3⟩ := h
    exact PT.fn (st_cmp ctx.hu (sndE a ctx h1) (sndE b ctx h2) h3) (by funext s h; rfl)
  | .cmp2 op op' a b c, X, g, e, ctx, h => by
    unfold chkT at h; split at h <;> first | contradiction | skip
    rename_i q; cases q
    simp only [Bool.and_eq_true, decide_eq_true_eq, Bool.not_eq_true'] at h
    obtain ⟨⟨⟨⟨⟨rfl, rfl⟩, h1⟩, h2⟩, h3⟩, h4⟩ := h
    exact PT.fn (st_cmp2 ctx.hu (sndE a ctx h1) (sndE b ctx h2) (sndE c ctx h3) h4) (by funext s h; rfl)
  | .inv neg a d, X, g, e, ctx, h => by
    unfold chkT at h; split at h <;> first | contradiction | skip
    rename_i q; cases q
    simp only [Bool.and_eq_true, decide_eq_true_eq] at h
    obtain ⟨⟨⟨⟨⟨rfl, h1⟩, h2⟩, h3⟩, h4⟩, h5⟩ := h
    obtain ⟨ho, rfl⟩ := inv_op h1
    exact PT.fn (st_inv ctx.calm ho (sndE a ctx h4) (sndE d ctx h5) (base_of h3) h2) (by funext s h; rfl)
/-- .. of a chain of and, or, that goes on -/
theorem sndW {C : Str → List PV → PH → Out PV} {k : Nat} (op : BoolOp) : ∀ (c : T) {X : Cx} {g : Sc} {x : Expr} {r : List Expr} {pos : Pos}, Ctx X g C k → chkT g c (.BoolOp op (x :: r) pos) = true → PW X (.BoolOp op (x :: r) pos) (lB X.K (evT C c))
  | .e c, X, g, x, r, pos, ctx, h => by
    simp [chkT, plainT] at h
  | .and a b, X, g, x, r, pos, ctx, h => by
    unfold chkT at h; split at h <;> first | contradiction | skip
    rename_i q q'
    cases q
    cases q'
    simp only [Bool.and_eq_true] at h
    obtain ⟨h1, h2⟩ := h
    refine PW.fn (sw_and (sndT a ctx h1) (gb := evT C b) ?_) (by funext s h; rfl)
    split at h2
    · exact pw_and1 (sndT b ctx h2)
    · exact sndW .And b ctx h2
  | .or a b, X, g, x, r, pos, ctx, h => by
    unfold chkT at h; split at h <;> first | contradiction | skip
    rename_i q q'
    cases q
    cases q'
    simp only [Bool.and_eq_true] at h
    obtain ⟨h1, h2⟩ := h
    refine PW.fn (sw_or (sndT a ctx h1) (gb := evT C b) ?_) (by funext s h; rfl)
    split at h2
    · exact pw_or1 (sndT b ctx h2)
    · exact sndW .Or b ctx h2
  | .not a, X, g, x, r, pos, ctx, h => by simp [chkT] at h
  | .ite c a b, X, g, x, r, pos, ctx, h => by simp [chkT] at h
  | .cmp op a b, X, g, x, r, pos, ctx, h => by simp [chkT] at h
  | .cmp2 op op' a b c, X, g, x, r, pos, ctx, h => by simp [chkT] at h
  | .inv neg a d, X, g, x, r, pos, ctx, h => by simp [chkT] at h
theorem sndTs {C : Str → List PV → PH → Out PV} {k : Nat} : ∀ (c : Ts) {X : Cx} {g : Sc} {e : List Expr}, Ctx X g C k → chkTs g c e = true → PTs X e (lB X.K (evTs C c))
  | .nil, X, g, e, ctx, h => by
    unfold chkTs at h; split at h <;> first | contradiction | skip
    exact ⟨fun pins s σ H Q I ⟨ρ, s', h', S, R, po⟩ => pts_nil.run pins s σ H Q I (po ρ H .refl S)⟩
  | .cons t r, X, g, e, ctx, h => by
    unfold chkTs at h; split at h <;> first | contradiction | skip
    rename_i q; cases q
    simp only [Bool.and_eq_true] at h
    obtain ⟨h1, h2⟩ := h
    split at h2 <;> first | contradiction | skip
    refine pts_one (PT.fn (sndT t ctx h1) ?_)
    funext s h
    simp only [evTs]
    cases evT C t s h with
    | ok b h' => cases b <;> rfl
    | exc _ _ => rfl
    | bad => rfl
theorem sndP {C : Str → List PV → PH → Out PV} {k : Nat} : ∀ (c : Pt) {X : Cx} {g : Sc} {e : Option Expr}, Ctx X g C k → chkP g c e = true → L2.PO X e (lP X.K (evP C c))
  | .none, X, g, e, ctx, h => by
    unfold chkP at h; split at h <;> first | contradiction | skip
    exact sp_none
  | .some c, X, g, e, ctx, h => by
    unfold chkP at h; split at h <;> first | contradiction | skip
    rename_i q; cases q
    exact sp_some (sndE c ctx h)
theorem sndI {C : Str → List PV → PH → Out PV} {k : Nat} : ∀ (c : It) {X : Cx} {g : Sc} {tg e : Expr}, Ctx X g C k → chkI g c e = true → PI X tg e (lI X.K (evI C c))
  | .ex c, X, g, tg, e, ctx, h => by
    unfold chkI at h
    exact PI.fn (si_ex (sndE c ctx h)) (by funext s h; rfl)
  | .rng es, X, g, tg, e, ctx, h => by
    unfold chkI at h; split at h <;> first | contradiction | skip
    rename_i q; cases q
    simp only [Bool.and_eq_true, Bool.or_eq_true, decide_eq_true_eq] at h
    obtain ⟨⟨⟨⟨rfl, h1⟩, h2⟩, h3⟩, h4⟩ := h
    cases es with
    | nil =>
      cases ‹List Expr› with
      | nil => simp at h3
      | cons _ _ => simp [chkEs] at h4
    | cons c r =>
      cases ‹List Expr› with
      | nil => simp [chkEs] at h4
      | cons x xs =>
        have h4' : chkE g c x = true ∧ chkEs g r xs = true := by simpa [chkEs] using h4
        have hx := sndE c ctx h4'.1
        cases r with
        | nil =>
          cases xs with
          | cons _ _ => simp [chkEs] at h4'
          | nil =>
            refine PI.fn (si_rng1 (ctx.gl h1) ctx.range hx (star_cons h2).1) ?_
            funext s h
            simp only [evI, evEs, Out.bnd_bnd]
            cases evE C c s h with
            | ok v h' => cases v <;> rfl
            | exc _ _ => rfl
            | bad => rfl
        | cons c2 r2 =>
          cases xs with
          | nil => simp [chkEs] at h4'
          | cons y ys =>
            have h5 : chkE g c2 y = true ∧ chkEs g r2 ys = true := by simpa [chkEs] using h4'.2
            have hy := sndE c2 ctx h5.1
            cases ys with
            | cons _ _ => simp at h3
            | nil =>
              cases r2 with
              | cons _ _ => simp [chkEs] at h5
              | nil =>
                have s1 := star_cons (env := X.env) h2
                have s2 := star_cons (env := X.env) s1.2
                refine PI.fn (si_rng2 (ctx.gl h1) ctx.range hx hy (by rw [s1.1, s2.1]; rfl) (by rw [s2.1]; rfl)) ?_
                funext s h
                simp only [evI, evEs, Out.bnd_bnd]
                cases evE C c s h with
                | ok v h' =>
                  simp only [Out.bnd]
                  cases evE C c2 s h' with
                  | ok w h2 => cases v <;> cases w <;> rfl
                  | exc _ _ => rfl
                  | bad => rfl
                | exc _ _ => rfl
                | bad => rfl
  | .enu c, X, g, tg, e, ctx, h => by simp [chkI] at h
  | .rev c, X, g, tg, e, ctx, h => by
    unfold chkI at h; split at h <;> first | contradiction | skip
    rename_i q; cases q
    simp only [Bool.and_eq_true, decide_eq_true_eq] at h
    obtain ⟨⟨⟨rfl, h1⟩, h2⟩, h3⟩ := h
    exact PI.fn (si_rev (ctx.gl h1) (ctx.bi .isTuple) (sndE c ctx h3) (star_cons h2).1) (by funext s h; rfl)
  | .keys c, X, g, tg, e, ctx, h => by
    unfold chkI at h
    exact PI.fn (si_keys (sndE c ctx h)) (by funext s h; rfl)
  | .vals c, X, g, tg, e, ctx, h => by simp [chkI] at h
  | .items c, X, g, tg, e, ctx, h => by simp [chkI] at h
theorem sndG {C : Str → List PV → PH → Out PV} {k : Nat} : ∀ (c : Tg) {X : Cx} {g : Sc} {e : Expr}, Ctx X g C k → chkG g c e = true → PG X e (lT X.K (tgSlots c) (evG C c))
  | .nm i, X, g, e, ctx, h => by
    unfold chkG at h; split at h <;> first | contradiction | skip
    rename_i q; cases q
    have n := ctx.name h
    exact PG.fn (sg_nm ctx.nd n.ix n.loc n.fn) (by funext v s h; rfl)
  | .tup is, X, g, e, ctx, h => by
    unfold chkG at h; split at h <;> first | contradiction | skip
    rename_i q; cases q
    obtain ⟨xs, rfl, n⟩ := names_of ctx h
    exact PG.fn (sg_tup ctx.calm ctx.nd n) (by funext v s h; rfl)
  | .sub o i, X, g, e, ctx, h => by
    unfold chkG at h; split at h <;> first | contradiction | skip
    rename_i q; cases q
    simp only [Bool.and_eq_true, Bool.not_eq_true'] at h
    refine PG.fn (sg_sub ctx.hu (sndE o ctx h.1.1) (sndE i ctx h.1.2) ?_) (by funext v s h; rfl)
    intro v
    rename_i y _
    cases y <;> first | rfl | (simp [isSlice] at h)
  | .fld o f, X, g, e, ctx, h => by simp [chkG] at h
end
end MP

set_option Elab.async false
set_option linter.all false
set_option maxRecDepth 100000
set_option maxHeartbeats 4000000
namespace MP
open PySem PySem.Spec PyProof.Rows L2

theorem swapped_none {tg v : Expr} {env : Env} (h : twoTuples tg v = false) : swappedStores [tg] v env = pure none := by
  unfold swappedStores
  cases tg <;> cases v <;> first | rfl | (simp [twoTuples] at h)
theorem tgt_one {tg : Expr} {env : Env} {X : Cx} {g : Sc} {C : Str → List PV → PH → Out PV} {k : Nat} {t : Tg} (ctx : Ctx X g C k) (h : chkG g t tg = true) : (assignEach [tg] env).map (·.2) = [assign tg env] := by
  cases tg <;> first | rfl | (cases t <;> simp [chkG] at h)
theorem blockKind_fn {env : Env} (h : env.scope.kind = .function) : env.blockKind = .function := by
  unfold Env.blockKind; rw [h]; rfl
theorem atOnce_false {X : Cx} {g : Sc} {C : Str → List PV → PH → Out PV} {k : Nat} {tg v : Expr} {l : Nat} (ctx : Ctx X g C k) (h : atOnce g.sc v tg = false) : swapsWith v (some tg) l X.env = pure false := by
  have hb := blockKind_fn ctx.kind
  have key : ∀ (t : Str) (q p : Pos) (s : Scope), (isLocal g.sc t && (q.line == p.line) && !(s.names.any fun (n, k) => n == t && (k == .local || k == .cell))) = false →
      (X.env.blockKind == .function && X.env.kindOf t == some .local && q.line == p.line && !(s.names.any fun (n, k) => n == t && (k == .local || k == .cell))) = false := fun t q p s e => by
    have : (X.env.kindOf t == some .local) = isLocal g.sc t := by
      unfold Env.kindOf isLocal
      rw [ctx.sc]
      cases g.sc.names.lookup t with
      | none => rfl
      | some k => cases k <;> rfl
    rw [hb, this]
    simpa using e
  cases hc : isComp v with
  | false => exact swaps_none hc
  | true =>
    cases v <;> simp [isComp] at hc
    all_goals
      cases tg <;> first | rfl | skip
      simp only [atOnce] at h
      unfold swapsWith
      exact congrArg pure (key _ _ _ _ h)
theorem atOnce_true {X : Cx} {g : Sc} {C : Str → List PV → PH → Out PV} {k : Nat} {elt : Expr} {gs : List Comprehension} {scope : Scope} {pos py : Pos} {y : Str} {l : Nat} (ctx : Ctx X g C k) (h : atOnce g.sc (.ListComp elt gs scope pos) (.Name y py) = true) :
    X.env.scope.names.lookup y = some .local ∧ swapsWith (.ListComp elt gs scope pos) (some (.Name y py)) l X.env = pure true := by
  simp only [atOnce, Bool.and_eq_true, Bool.not_eq_true'] at h
  have h1 : X.env.scope.names.lookup y = some .local := by rw [ctx.sc]; exact isLocal_of h.1.1
  exact ⟨h1, sw_true ctx.kind h1 h.1.2 h.2⟩

mutual
theorem sndS {C : Str → List PV → PH → Out PV} {k : Nat} : ∀ (c : S) {X : Cx} {g : Sc} {e : Stmt}, Ctx X g C k → chkS g c e = true → PS X e (lS X.K (evS C c))
  | .pass, X, g, e, ctx, h => by
    unfold chkS at h; split at h <;> first | contradiction | skip
    exact PS.fn ss_pass (by funext s h; rfl)
  | .brk, X, g, e, ctx, h => by
    unfold chkS at h; split at h <;> first | contradiction | skip
    exact PS.fn ss_brk (by funext s h; rfl)
  | .cont, X, g, e, ctx, h => by
    unfold chkS at h; split at h <;> first | contradiction | skip
    exact PS.fn ss_cont (by funext s h; rfl)
  | .retN, X, g, e, ctx, h => by
    unfold chkS at h; split at h <;> first | contradiction | skip
    exact PS.fn ss_retN (by funext s h; rfl)
  | .ret c, X, g, e, ctx, h => by
    unfold chkS at h; split at h <;> first | contradiction | skip
    rename_i q; cases q
    exact PS.fn (ss_ret (sndE c ctx h)) (by funext s h; rfl)
  | .ex c, X, g, e, ctx, h => by
    unfold chkS at h; split at h <;> first | contradiction | skip
    rename_i q; cases q
    simp only [Bool.and_eq_true, Bool.not_eq_true'] at h
    exact PS.fn (ss_ex (sndE c ctx h.1) (swaps_none h.2)) (by funext s h; rfl)
  | .asg t c, X, g, e, ctx, h => by
    unfold chkS at h; split at h <;> first | contradiction | skip
    rename_i q; cases q
    simp only [Bool.and_eq_true, Bool.not_eq_true'] at h
    obtain ⟨⟨⟨h1, h2⟩, h3⟩, h4⟩ := h
    split at h4
    · rename_i h5
      exact PS.fn (ss_asg (sndE c ctx h2) (sndG t ctx h1) (atOnce_false ctx h5) (swapped_none h3) (tgt_one ctx h1)) (by funext s h; rfl)
    · rename_i h5
      cases c with
      | lc elt tg it ifs own =>
        unfold chkE at h2; split at h2 <;> first | contradiction | skip
        rename_i q; cases q
        rename_i cc scope _
        obtain ⟨ct, ci, cf, ca⟩ := cc
        split at h2 <;> first | contradiction | skip
        rename_i hca
        have hca : ca = 0 := hca
        subst hca
        simp only [Bool.and_eq_true, Bool.not_eq_true'] at h2
        obtain ⟨⟨⟨⟨⟨⟨k1, k2⟩, k3⟩, k4⟩, k5⟩, k6⟩, k7⟩ := h2
        have ok : BlkOk X.N X.env.scope scope (ownOf g.N own) := by rw [ctx.N, ctx.sc]; exact blkOk_by k1
        rename_i tgx _ _ _ _ _ _ _
        cases tgx <;> first | (simp [atOnce] at h5; done) | skip
        rename_i y py
        cases t <;> first | (simp [chkG] at h1; done) | skip
        rename_i i
        have n := ctx.name (by simpa [chkG] using h1)
        obtain ⟨a1, a2⟩ := atOnce_true ctx h5
        refine PS.fn (ss_setLc (ws := tgSlots tg) ctx.calm ctx.nd n.ix a1 a2 (sndI it ctx k3) ok (own_slots k2) (fun s H C' cl fp => sndG tg (ctx.blk ok.kind s H C' cl fp) k5) (fun s H C' cl fp => sndTs ifs (ctx.blk ok.kind s H C' cl fp) k6) (fun s H C' cl fp => sndE elt (ctx.blk ok.kind s H C' cl fp) k7) (set_of k4)) ?_
        funext s h
        rw [own_map]
        rfl
      | _ => simp [isLc] at h4
  | .par i j a b, X, g, e, ctx, h => by simp [chkS] at h
  | .aug i op c, X, g, e, ctx, h => by
    unfold chkS at h; split at h <;> first | contradiction | skip
    rename_i q; cases q
    simp only [Bool.and_eq_true, decide_eq_true_eq] at h
    obtain ⟨⟨⟨rfl, h1⟩, h2⟩, h3⟩ := h
    have n := ctx.name h2
    refine PS.fn (ss_aug ?_ ctx.nd n.ix n.loc n.fn (sndE c ctx h3)) (by funext s h; rfl)
    cases op <;> simp [opOk] at h1 <;> simp
  | .augF o f op c, X, g, e, ctx, h => by simp [chkS] at h
  | .augS o i op c, X, g, e, ctx, h => by simp [chkS] at h
  | .ite c a b, X, g, e, ctx, h => by
    unfold chkS at h; split at h <;> first | contradiction | skip
    rename_i q; cases q
    simp only [Bool.and_eq_true] at h
    exact PS.fn (ss_if (sndT c ctx h.1.1) (sndSs a ctx h.1.2) (sndSs b ctx h.2)) (by funext s h; rfl)
  | .whl c b, X, g, e, ctx, h => by
    unfold chkS at h; split at h <;> first | contradiction | skip
    rename_i q; cases q
    simp only [Bool.and_eq_true] at h
    exact PS.fn (ss_whl ctx.xe (sndT c ctx h.1) (sndSs b ctx h.2) big) (by funext s h; rfl)
  | .frr t it b, X, g, e, ctx, h => by
    unfold chkS at h; split at h <;> first | contradiction | skip
    rename_i q; cases q
    simp only [Bool.and_eq_true, Bool.not_eq_true'] at h
    obtain ⟨⟨⟨h1, h2⟩, h3⟩, h4⟩ := h
    exact PS.fn (ss_for ctx.xe ctx.calm (sndI it ctx h2) (sndG t ctx h1) (sndSs b ctx h4) (set_of h3)) (by funext s h; rfl)
  | .never, X, g, e, ctx, h => PS.fn ss_never (by funext s h; rfl)
  | .lk c st, X, g, e, ctx, h => by
    unfold chkS at h
    exact PS.fn (ss_lk (C := evE C c) (sndS st ctx h)) (by funext s h; rfl)
theorem sndSs {C : Str → List PV → PH → Out PV} {k : Nat} : ∀ (c : Ss) {X : Cx} {g : Sc} {e : List Stmt}, Ctx X g C k → chkSs g c e = true → PSs X e (lS X.K (evSs C c))
  | .nil, X, g, e, ctx, h => by
    unfold chkSs at h; split at h <;> first | contradiction | skip
    exact PSs.fn sss_nil (by funext s h; rfl)
  | .cons c r, X, g, e, ctx, h => by
    unfold chkSs at h; split at h <;> first | contradiction | skip
    rename_i q; cases q
    simp only [Bool.and_eq_true] at h
    refine PSs.fn (sss_cons (sndS c ctx h.1) (sndSs r ctx h.2)) ?_
    funext s h
    simp only [evSs]
    all_goals (cases evS C c s h <;> rfl)
end

/-! ### defs -/
/-- the def f of the table stands behind the top, and its text is mine -/
structure DefIs (K : Fg) (mg : Str → Option Value) (f : Str) (d : Df) (name qual : Str) (st : Stmt) (fa : Addr) (fd : FuncData) (N ps : List Str) : Prop where
  fn : FunD K name qual (defArgs st) (defBody st) (defScope st) [] [] fa fd
  at_ : mg f = some (.ref fa)
  bd : Binds K fd ps []
  sc : FnScope N ps (defScope st)
  chk : chkSs ⟨N, defScope st, none⟩ d.body (defBody st) = true
  np : ps.length = d.np
  ns : N.length = d.ns
def DefAt (K : Fg) (mg : Str → Option Value) (f : Str) (d : Df) : Prop := ∃ name qual st fa fd N ps, DefIs K mg f d name qual st fa fd N ps
/-- the module's names -/
structure ModOk (mg : Str → Option Value) : Prop where
  bi : ∀ f : Bi, mg f.name = none
  range : mg "range" = none
section
variable {P : Program} {w : World} {K : Fg} {mg : Str → Option Value} {base : Heap} {T : Str → Option Df}
theorem RepVs.start {ρ : List Addr} {H : Hp} : ∀ {ps : List PV} {vs : List V} (n : Nat), RepVs K ρ H ps vs → RepSt K ρ H (ps.map some ++ List.replicate n none) (vs.map some ++ List.replicate n none) := by
  intro ps vs n r
  refine ⟨by simp [r.length], fun i v e => ?_⟩
  by_cases lt : i < ps.length
  · rw [List.getElem?_append_left (by simpa using lt), List.getElem?_map] at e
    obtain ⟨p, hp, e⟩ := Option.map_eq_some_iff.mp e
    cases e
    obtain ⟨u, hu, ru⟩ := r.get hp
    refine ⟨u, ?_, ru⟩
    rw [List.getElem?_append_left (by rw [List.length_map, ← r.length]; exact lt), List.getElem?_map, hu]
    rfl
  · rw [List.getElem?_append_right (by simpa using lt), List.getElem?_replicate] at e
    split at e <;> cases e
theorem evCall_len {k : Nat} {f : Str} {d : Df} (e : T f = some d) {xs : List PV} {h : PH} {v : PV} {h' : PH} (q : evCall T k f xs h = .ok v h') : xs.length = d.np := by
  cases k with
  | zero => simp [evCall] at q
  | succ k =>
    simp only [evCall, e] at q
    split at q <;> try (cases q; done)
    rename_i hq
    exact hq.1
theorem defs_ok (M : ModOk mg) (D : ∀ f d, T f = some d → DefAt K mg f d) : ∀ (k : Nat) (f : Str) (d : Df), T f = some d → ∀ {name qual st fa fd N ps}, DefIs K mg f d name qual st fa fd N ps →
    FnOk P w K mg base CX0 k fa fd ps (spOf K ps.length (evCall T k f))
  | 0, f, d, e, name, qual, st, fa, fd, N, ps, Di => by
    refine ⟨fun vs H Q E h => h.1, fun A outer s H args us vs Q E hr e0 hb r h => ?_⟩
    obtain ⟨_, ρ, h, ps, S, r, po⟩ := h
    exact (show False from po).elim
  | k + 1, f, d, e, name, qual, st, fa, fd, N, ps, Di => by
    obtain ⟨F, hm, hb, S, hc, hp, hn⟩ := Di
    have ih := defs_ok M D k
    refine F.ok S (fun vs H Q E h => h.1) fun cdv A outer s H vs Q E hr h => ?_
    refine ⟨lS K (evSs (evCall T k) d.body), PSs.nox ?_, ?_⟩
    · refine sndSs (k := k) d.body (X := (cxOf CX0 P w K mg base N qual (defScope st) fa cdv A outer s H E).nox) ?_ hc
      refine ⟨rfl, rfl, fun _ _ => rfl, rfl, S.nd, rfl, S.kind, hr, M.bi, M.range, fun f' => ?_⟩
      cases e' : T f' with
      | none =>
        refine .inr fun xs h => ?_
        cases k with
        | zero => rfl
        | succ k => simp only [evCall, e']
      | some d' =>
        obtain ⟨_, _, _, fa', fd', _, ps', Di'⟩ := D f' d' e'
        exact .inl ⟨fa', fd', ps', Di'.at_, Di'.fn.kp, Di'.bd, ih f' d' e' Di', fun xs h v h' q => by rw [Di'.np]; exact evCall_len e' q⟩
    · obtain ⟨hl, ρ, h, qs, S', r, po⟩ := h
      have r' := r.start (N.length - vs.length)
      refine ⟨ρ, _, h, S', r', ?_⟩
      have el : qs.length = d.np := by rw [r.length, hl, hp]
      have po : PostV K ρ H (evCall T (k + 1) f qs h) Q := po
      simp only [evCall, e] at po
      split at po <;> try exact po.elim
      rename_i hq
      rw [show N.length - vs.length = d.ns - d.np by rw [hn, hl, hp]]
      cases eb : evSs (evCall T k) d.body (qs.map some ++ List.replicate (d.ns - d.np) none) h with
      | rt v h' => rw [eb] at po; exact fun ρ' H' V x S r => po ρ' H' x S V r
      | nx s' h' => rw [eb] at po; exact fun ρ' H' σ' x S r => po ρ' H' x S _ .non
      | bk _ _ => rw [eb] at po; exact po.elim
      | ct _ _ => rw [eb] at po; exact po.elim
      | exc _ _ => rw [eb] at po; exact po.elim
      | bad => rw [eb] at po; exact po.elim
end
/-! ### the end of a law -/
theorem frl_of {K : Fg} {H : Hp} {a : Addr} {xs : List V} (hO : Only H) (h : SqL K H a xs) : FrL K H a xs := by
  rcases h with (h | ⟨o, h⟩) | h
  · rcases hO a with q | ⟨o, ys, q⟩
    · rw [h] at q; cases q
    · rw [h] at q; cases q
  · exact .inl ⟨o, h⟩
  · exact .inr h
theorem law_end {l : PySem.W.OpenLaw} {q : Program} {loose : List Str} {XP : (Str → Option Value) → Heap → Prop} {d : DefRec} {T : Str → Option Df} {dl : Df} {k n : Nat} {m : Nat} {fas : List He.Fa} {fns : List He.DefD}
    (hn : l.most = some n) (hn2 : n ≤ sizeLine) (hdf : d.params.defaults = []) (hr : Room k callerA) (hname : d.name = ("law" : Str)) (hT : T "law" = some dl)
    (defs : ∀ (K : Fg) (mg : Str → Option Value) (h : Heap), K.In h → h.Ns mainGlobals mg → He.SaysD fas fns K → ModOk mg ∧ (∀ f d, T f = some d → DefAt K mg f d) ∧
      ∃ name qual st fa fd N, DefIs K mg "law" dl name qual st fa fd N ["script"] ∧ ∀ (s : Shared) (u : Value), BindsTo s fd ⟨[u], []⟩ [("script", u)])
    (holds : ∀ ns : List Int, ns.length ≤ n → ∃ h, evCall T k "law" [.fro (ns.map PV.int)] [] = .ok (.bl true) h) :
    PySem.W.WalkO q loose XP (He.hookD m fas fns).says l.row.toRowW d [] (fun f vs => PySem.call f vs) := by
  refine L2.walk_ofE (n := n) (k := k) (x := "script") (CX := CX0) hn hn2 hdf hr ?_ (fun _ _ _ _ z => z)
  intro w mg fa h Y G hmg0
  obtain ⟨K, KX, c⟩ := Y
  obtain ⟨M, D, name, qual, st, fa', fd, N, Di, hb⟩ := defs K mg h KX G c
  have e : fa' = fa := by
    rw [hname, Di.at_] at hmg0
    injection hmg0 with e1
    injection e1
  subst e
  refine ⟨K, fd, spOf K 1 (evCall T k "law"), KX, hb, fun H a ns hl hO hS => ?_, fun base _ _ => defs_ok M D k "law" dl hT Di⟩
  obtain ⟨h', e⟩ := holds ns hl
  refine ⟨rfl, [], [], [.fro (ns.map PV.int)], ⟨rfl, List.nodup_nil, fun l o a e _ => by simp at e⟩, .cons (.fro (frl_of hO hS) (RepVs.ofInts ns)) .nil, ?_⟩
  rw [e]
  exact fun ρ' H' _ _ V rV => rV.blV
end MP

set_option Elab.async false
set_option linter.all false
set_option maxRecDepth 100000
namespace MP
open PySem
open Out (ok bad)
/-! ### steps of the evaluator, one after the other -/
def SO.seq (o : SO) (f : PSt → PH → SO) : SO :=
  match o with
  | .nx s h => f s h
  | o => o
theorem bnd_ok {α β : Type} {v : α} {h : PH} {f : α → PH → Out β} : (Out.ok v h).bnd f = f v h := rfl
theorem sbnd_ok {α : Type} {v : α} {h : PH} {f : α → PH → SO} : (Out.ok v h).sbnd f = f v h := rfl
theorem seq_nx {s : PSt} {h : PH} {f : PSt → PH → SO} : (SO.nx s h).seq f = f s h := rfl
theorem seq_rt {v : PV} {h : PH} {f : PSt → PH → SO} : (SO.rt v h).seq f = .rt v h := rfl
theorem seq_bk {s : PSt} {h : PH} {f : PSt → PH → SO} : (SO.bk s h).seq f = .bk s h := rfl
theorem seq_ct {s : PSt} {h : PH} {f : PSt → PH → SO} : (SO.ct s h).seq f = .ct s h := rfl
section
variable {C : Str → List PV → PH → Out PV}
theorem ss_cons {a : S} {r : Ss} {s : PSt} {h : PH} : evSs C (.cons a r) s h = (evS C a s h).seq (evSs C r) := by
  unfold evSs SO.seq
  rfl
theorem ss_nil {s : PSt} {h : PH} : evSs C .nil s h = .nx s h := by unfold evSs; rfl
end
section
variable {C : Str → List PV → PH → Out PV}
/-- a branch -/
def iteC (C : Str → List PV → PH → Out PV) (a b : Ss) (s : PSt) (k : Bool) (h : PH) : SO := if k = true then evSs C a s h else evSs C b s h
theorem iteC_t {a b : Ss} {s : PSt} {h : PH} : iteC C a b s true h = evSs C a s h := rfl
theorem iteC_f {a b : Ss} {s : PSt} {h : PH} : iteC C a b s false h = evSs C b s h := rfl
theorem iteC_d {a b : Ss} {s : PSt} {h : PH} {p : Prop} [Decidable p] : iteC C a b s (decide p) h = if p then evSs C a s h else evSs C b s h := by unfold iteC; by_cases q : p <;> simp [q]
theorem s_ite {c : T} {a b : Ss} {s : PSt} {h : PH} : evS C (.ite c a b) s h = (evT C c s h).sbnd (iteC C a b s) := by unfold evS; rfl
theorem s_asg {t : Tg} {e : E} {s : PSt} {h : PH} : evS C (.asg t e) s h = (evE C e s h).sbnd fun v h => (evG C t v s h).sbnd SO.nx := by unfold evS; rfl
theorem s_ret {e : E} {s : PSt} {h : PH} : evS C (.ret e) s h = (evE C e s h).sbnd SO.rt := by unfold evS; rfl
theorem s_ex {e : E} {s : PSt} {h : PH} : evS C (.ex e) s h = (evE C e s h).sbnd fun _ h => .nx s h := by unfold evS; rfl
/-- a while -/
def whlC (C : Str → List PV → PH → Out PV) (c : T) (b : Ss) (s : PSt) (h : PH) : SO := whl (evT C c) (evSs C b) big s h
theorem s_whl {c : T} {b : Ss} {s : PSt} {h : PH} : evS C (.whl c b) s h = whlC C c b s h := by unfold evS; rfl
/-- a for -/
def forC (C : Str → List PV → PH → Out PV) (t : Tg) (b : Ss) (s : PSt) (r : Itr) (h : PH) : SO := forI (evG C t) (evSs C b) r r.fuel 0 s h
theorem s_for {t : Tg} {it : It} {b : Ss} {s : PSt} {h : PH} : evS C (.frr t it b) s h = (evI C it s h).sbnd (forC C t b s) := by unfold evS; rfl
end
theorem slot_at {s : PSt} {i : Nat} {h : PH} {v : PV} (e : s[i]? = some (some v)) : slot s i h = .ok v h := by unfold slot; rw [e]
theorem pix_in {n : Nat} {i : Int} (h1 : 0 ≤ i) (h2 : i < n) : pix n i = some i.toNat := by
  unfold pix L2.ixN
  split <;> first | rfl | omega
theorem itemF_at {xs : List PV} {i : Int} {h : PH} {v : PV} (h1 : 0 ≤ i) (e : xs[i.toNat]? = some v) : itemF xs (.int i) h = .ok v h := by
  have h2 := (List.getElem?_eq_some_iff.mp e).1
  simp only [itemF, pix_in h1 (by omega : i < xs.length), Option.bind_some, e]
theorem sub_l {l : Nat} {xs : List PV} {h : PH} (e : h[l]? = some (.lst xs)) (y : PV) : subF (.ref l) y h = itemF xs y h := by simp only [subF, e]
theorem sub_t {xs : List PV} {y : PV} {h : PH} : subF (.tup xs) y h = itemF xs y h := rfl
theorem sub_d {l : Nat} {kvs : List (PV × PV)} {h : PH} (e : h[l]? = some (.dic kvs)) (y : PV) : subF (.ref l) y h = lookF kvs y h := by simp only [subF, e]
theorem item0 {x : PV} {r : List PV} {h : PH} : itemF (x :: r) (.int 0) h = .ok x h := itemF_at (by decide) rfl
theorem item1 {x y : PV} {r : List PV} {h : PH} : itemF (x :: y :: r) (.int 1) h = .ok y h := itemF_at (by decide) rfl
theorem item2 {x y z : PV} {r : List PV} {h : PH} : itemF (x :: y :: z :: r) (.int 2) h = .ok z h := itemF_at (by decide) rfl
theorem item3 {x y z w : PV} {r : List PV} {h : PH} : itemF (x :: y :: z :: w :: r) (.int 3) h = .ok w h := itemF_at (by decide) rfl
theorem b_add {i j : Int} {h : PH} : binF .Add (.int i) (.int j) h = .ok (.int (i + j)) h := rfl
theorem b_sub {i j : Int} {h : PH} : binF .Sub (.int i) (.int j) h = .ok (.int (i - j)) h := rfl
theorem b_mul {i j : Int} {h : PH} (q : j.natAbs < 2 ^ 64) : binF .Mult (.int i) (.int j) h = .ok (.int (i * j)) h := if_pos (.inr q)
theorem b_mul' {i j : Int} {h : PH} (q : i.natAbs < 2 ^ 64) : binF .Mult (.int i) (.int j) h = .ok (.int (i * j)) h := if_pos (.inl q)
theorem b_div {i j : Int} {h : PH} (q : 0 < j) (q2 : j < 1073741824) : binF .FloorDiv (.int i) (.int j) h = .ok (.int (i / j)) h := if_pos ⟨q, q2⟩
theorem b_mod {i j : Int} {h : PH} (q : 0 < j) : binF .Mod (.int i) (.int j) h = .ok (.int (i % j)) h := if_pos q
theorem i_int {i : Int} {h : PH} : biF .int [.int i] h = .ok (.int i) h := rfl
theorem i_abs {i : Int} {h : PH} : biF .abs [.int i] h = .ok (.int (if i < 0 then -i else i)) h := rfl
theorem i_lenL {l : Nat} {xs : List PV} {h : PH} (e : h[l]? = some (.lst xs)) : biF .len [.ref l] h = .ok (.int xs.length) h := by simp only [biF, e]
theorem i_lenD {l : Nat} {xs : List (PV × PV)} {h : PH} (e : h[l]? = some (.dic xs)) : biF .len [.ref l] h = .ok (.int xs.length) h := by simp only [biF, e]
theorem i_lenT {xs : List PV} {h : PH} : biF .len [.tup xs] h = .ok (.int xs.length) h := rfl
theorem c_eqI {i j : Int} {h : PH} : cmpF .Eq (.int i) (.int j) h = .ok (.bl (decide (i = j))) h := rfl
theorem c_neI {i j : Int} {h : PH} : cmpF .NotEq (.int i) (.int j) h = .ok (.bl (!decide (i = j))) h := rfl
theorem c_eqS {i j : Str} {h : PH} : cmpF .Eq (.str i) (.str j) h = .ok (.bl (decide (i = j))) h := rfl
theorem c_neS {i j : Str} {h : PH} : cmpF .NotEq (.str i) (.str j) h = .ok (.bl (!decide (i = j))) h := rfl
theorem c_lt {i j : Int} {h : PH} : cmpF .Lt (.int i) (.int j) h = .ok (.bl (decide (i < j))) h := rfl
theorem c_le {i j : Int} {h : PH} : cmpF .LtE (.int i) (.int j) h = .ok (.bl (decide (i ≤ j))) h := rfl
theorem c_gt {i j : Int} {h : PH} : cmpF .Gt (.int i) (.int j) h = .ok (.bl (decide (j < i))) h := rfl
theorem c_ge {i j : Int} {h : PH} : cmpF .GtE (.int i) (.int j) h = .ok (.bl (decide (j ≤ i))) h := rfl
theorem asB_bl {b : Bool} {h : PH} : asB (.bl b) h = .ok b h := rfl
theorem g_nm {C : Str → List PV → PH → Out PV} {i : Nat} {v : PV} {s : PSt} {h : PH} : evG C (.nm i) v s h = .ok (s.set i (some v)) h := rfl
theorem sub_lst {l : Nat} {xs : List PV} {y v : PV} {h : PH} (e : h[l]? = some (.lst xs)) (q : itemF xs y h = .ok v h) : subF (.ref l) y h = .ok v h := by
  simp only [subF, e, q]
theorem set_lst {l : Nat} {xs : List PV} {i : Int} {v : PV} {h : PH} (e : h[l]? = some (.lst xs)) (h1 : 0 ≤ i) (h2 : i < xs.length) : setF (.ref l) (.int i) v h = .ok () (h.set l (.lst (xs.set i.toNat v))) := by
  simp only [setF, e, pix_in h1 h2]
theorem lt_of_some {α : Type} {xs : List α} {i : Nat} {v : α} (e : xs[i]? = some v) : i < xs.length := (List.getElem?_eq_some_iff.mp e).1

section
variable {C : Str → List PV → PH → Out PV} {s : PSt} {h : PH} {a b c d e : E} {es : Es} {ks : Ks}
theorem e_non : evE C .non s h = .ok .non h := by unfold evE; rfl
theorem e_bl {x : Bool} : evE C (.bl x) s h = .ok (.bl x) h := by unfold evE; rfl
theorem e_int {x : Int} : evE C (.int x) s h = .ok (.int x) h := by unfold evE; rfl
theorem e_str {x : Str} : evE C (.str x) s h = .ok (.str x) h := by unfold evE; rfl
theorem e_var {i : Nat} : evE C (.var i) s h = slot s i h := by unfold evE; rfl
theorem e_bin {op : Operator} : evE C (.bin op a b) s h = (evE C a s h).bnd fun x h => (evE C b s h).bnd fun y h => binF op x y h := by conv => lhs; unfold evE
theorem e_neg : evE C (.neg a) s h = (evE C a s h).bnd fun x h => match x with
    | .int i => ok (.int (-i)) h
    | _ => bad := by
  conv => lhs; unfold evE
  all_goals rfl
theorem e_cmp {op : CmpOp} : evE C (.cmp op a b) s h = (evE C a s h).bnd fun x h => (evE C b s h).bnd fun y h => cmpF op x y h := by conv => lhs; unfold evE
theorem e_not : evE C (.not a) s h = (evE C a s h).bnd fun x h => (truth x h).bnd fun k h => ok (.bl (!k)) h := by conv => lhs; unfold evE
theorem e_ite {t : T} : evE C (.ite t a b) s h = (evT C t s h).bnd fun k h => if k = true then evE C a s h else evE C b s h := by conv => lhs; unfold evE
theorem e_tup : evE C (.tup es) s h = (evEs C es s h).bnd fun xs h => if xs.length ≤ sizeLine then ok (.tup xs) h else bad := by conv => lhs; unfold evE
theorem e_lst : evE C (.lst es) s h = (evEs C es s h).bnd fun xs h => if xs.length ≤ sizeLine then new (.lst xs) h else bad := by conv => lhs; unfold evE
theorem e_dic0 : evE C (.dic .nil) s h = new (.dic []) h := by
  conv => lhs; unfold evE
  unfold evD
  rfl
theorem e_sub : evE C (.sub a b) s h = (evE C a s h).bnd fun x h => (evE C b s h).bnd fun y h => subF x y h := by conv => lhs; unfold evE
theorem e_slc {lo hi : Pt} : evE C (.slc a lo hi) s h = (evE C a s h).bnd fun x h => (evP C lo s h).bnd fun y h => (evP C hi s h).bnd fun z h => slcF x y z h := by conv => lhs; unfold evE
theorem e_call {f : Str} : evE C (.call f es) s h = (evEs C es s h).bnd (C f) := by conv => lhs; unfold evE
theorem e_bi {f : Bi} : evE C (.bi f es) s h = (evEs C es s h).bnd (biF f) := by conv => lhs; unfold evE
def kindG (k1 k2 : Nat) (o : Out PV) : Out PV := if k1 = k2 then o else bad
theorem kindG_eq {k1 k2 : Nat} {o : Out PV} (e : k1 = k2) : kindG k1 k2 o = o := if_pos e
theorem kindG_same {k : Nat} {o : Out PV} : kindG k k o = o := if_pos rfl
theorem e_mt {m : Mt} : evE C (.mt m a es) s h = (evE C a s h).bnd fun x h1 => (evEs C es s h1).bnd fun xs h => kindG (kind x h1) (kind x h) (mtF m x xs h) := by
  conv => lhs; unfold evE
  all_goals rfl
theorem e_isi {f : Bi} : evE C (.isi f a) s h = (evE C a s h).bnd (isiF f) := by conv => lhs; unfold evE
theorem e_inv {n : Bool} : evE C (.inv n a d) s h = (evE C a s h).bnd fun x h => (evE C d s h).bnd fun y h => invF n x y h := by conv => lhs; unfold evE
theorem e_lrg {t : Bool} : evE C (.lrg t es) s h = (evEs C es s h).bnd (lrgF t) := by conv => lhs; unfold evE
/-- a comprehension's turn -/
def lcC (C : Str → List PV → PH → Out PV) (elt : E) (tg : Tg) (ifs : Ts) (s : PSt) (acc : List PV) (x : PV) (h : PH) : Out (List PV) :=
  (evG C tg x s h).bnd fun s2 h => (evTs C ifs s2 h).bnd fun k h => if k = true then (evE C elt s2 h).bnd fun y h => if acc.length < sizeLine then ok (acc ++ [y]) h else bad else ok acc h
def dcC (C : Str → List PV → PH → Out PV) (kx vx : E) (tg : Tg) (ifs : Ts) (s : PSt) (acc : List (PV × PV)) (x : PV) (h : PH) : Out (List (PV × PV)) :=
  (evG C tg x s h).bnd fun s2 h => (evTs C ifs s2 h).bnd fun k h => if k = true then (evE C kx s2 h).bnd fun y h => (evE C vx s2 h).bnd fun z h => if isKey y ∧ acc.length < sizeLine then ok (dPut acc y z) h else bad else ok acc h
theorem e_lc {tg : Tg} {it : It} {ifs : Ts} {own : List Nat} : evE C (.lc a tg it ifs own) s h = (evI C it s h).bnd fun r h => (each (lcC C a tg ifs (wipeP s own)) r [] h).bnd fun acc h => new (.lst acc) h := by
  conv => lhs; unfold evE
  all_goals rfl
theorem e_dc {tg : Tg} {it : It} {ifs : Ts} {own : List Nat} : evE C (.dc a b tg it ifs own) s h = (evI C it s h).bnd fun r h => (each (dcC C a b tg ifs (wipeP s own)) r [] h).bnd fun acc h => new (.dic acc) h := by
  conv => lhs; unfold evE
  all_goals rfl
end
/-! ### the first step to the front -/
theorem bnd_bnd {α β γ : Type} {o : Out α} {f : α → PH → Out β} {g : β → PH → Out γ} : (o.bnd f).bnd g = o.bnd fun v h => (f v h).bnd g := by cases o <;> rfl
theorem bnd_sbnd {α β : Type} {o : Out α} {f : α → PH → Out β} {g : β → PH → SO} : (o.bnd f).sbnd g = o.sbnd fun v h => (f v h).sbnd g := by cases o <;> rfl
theorem sbnd_seq {α : Type} {o : Out α} {f : α → PH → SO} {g : PSt → PH → SO} : (o.sbnd f).seq g = o.sbnd fun v h => (f v h).seq g := by cases o <;> rfl
def seqC (f g : PSt → PH → SO) (s : PSt) (h : PH) : SO := (f s h).seq g
theorem seq_seq {o : SO} {f g : PSt → PH → SO} : (o.seq f).seq g = o.seq (seqC f g) := by cases o <;> rfl
theorem seqC_ap {f g : PSt → PH → SO} {s : PSt} {h : PH} : seqC f g s h = (f s h).seq g := rfl
/-! ### what comes out -/
def Out.Ok {α : Type} (o : Out α) (Q : α → PH → Prop) : Prop :=
  match o with
  | .ok v h => Q v h
  | _ => False
def SO.To (o : SO) (Q : PSt → PH → Prop) : Prop :=
  match o with
  | .nx s h => Q s h
  | _ => False
def SO.Go (o : SO) (Q : PSt → PH → Prop) : Prop :=
  match o with
  | .nx s h => Q s h
  | .ct s h => Q s h
  | _ => False
def SO.Rt (o : SO) (Q : PV → PH → Prop) : Prop :=
  match o with
  | .rt v h => Q v h
  | _ => False
theorem ok_ok {α : Type} {v : α} {h : PH} {Q : α → PH → Prop} : (Out.ok v h).Ok Q = Q v h := rfl
theorem to_nx {s : PSt} {h : PH} {Q : PSt → PH → Prop} : (SO.nx s h).To Q = Q s h := rfl
theorem go_nx {s : PSt} {h : PH} {Q : PSt → PH → Prop} : (SO.nx s h).Go Q = Q s h := rfl
theorem go_ct {s : PSt} {h : PH} {Q : PSt → PH → Prop} : (SO.ct s h).Go Q = Q s h := rfl
theorem rt_rt {v : PV} {h : PH} {Q : PV → PH → Prop} : (SO.rt v h).Rt Q = Q v h := rfl
theorem Out.Ok.ex {α : Type} {o : Out α} {Q : α → PH → Prop} (e : o.Ok Q) : ∃ v h, o = .ok v h ∧ Q v h := by
  cases o with
  | ok v h => exact ⟨v, h, rfl, e⟩
  | exc _ _ => exact e.elim
  | bad => exact e.elim
theorem SO.To.ex {o : SO} {Q : PSt → PH → Prop} (e : o.To Q) : ∃ s h, o = .nx s h ∧ Q s h := by
  cases o <;> first | exact ⟨_, _, rfl, e⟩ | exact e.elim
theorem SO.Rt.ex {o : SO} {Q : PV → PH → Prop} (e : o.Rt Q) : ∃ s h, o = .rt s h ∧ Q s h := by
  cases o <;> first | exact ⟨_, _, rfl, e⟩ | exact e.elim
theorem Out.Ok.bnd {α β : Type} {o : Out α} {Q : α → PH → Prop} {f : α → PH → Out β} {R : β → PH → Prop} (e : o.Ok Q) (k : ∀ v h, Q v h → (f v h).Ok R) : (o.bnd f).Ok R := by
  obtain ⟨v, h, rfl, q⟩ := e.ex; exact k v h q
theorem Out.Ok.to {α : Type} {o : Out α} {Q : α → PH → Prop} {f : α → PH → SO} {R : PSt → PH → Prop} (e : o.Ok Q) (k : ∀ v h, Q v h → (f v h).To R) : (o.sbnd f).To R := by
  obtain ⟨v, h, rfl, q⟩ := e.ex; exact k v h q
theorem Out.Ok.go {α : Type} {o : Out α} {Q : α → PH → Prop} {f : α → PH → SO} {R : PSt → PH → Prop} (e : o.Ok Q) (k : ∀ v h, Q v h → (f v h).Go R) : (o.sbnd f).Go R := by
  obtain ⟨v, h, rfl, q⟩ := e.ex; exact k v h q
theorem Out.Ok.rt {α : Type} {o : Out α} {Q : α → PH → Prop} {f : α → PH → SO} {R : PV → PH → Prop} (e : o.Ok Q) (k : ∀ v h, Q v h → (f v h).Rt R) : (o.sbnd f).Rt R := by
  obtain ⟨v, h, rfl, q⟩ := e.ex; exact k v h q
theorem SO.To.to {o : SO} {Q : PSt → PH → Prop} {f : PSt → PH → SO} {R : PSt → PH → Prop} (e : o.To Q) (k : ∀ s h, Q s h → (f s h).To R) : (o.seq f).To R := by
  obtain ⟨v, h, rfl, q⟩ := e.ex; exact k v h q
theorem SO.To.go {o : SO} {Q : PSt → PH → Prop} {f : PSt → PH → SO} {R : PSt → PH → Prop} (e : o.To Q) (k : ∀ s h, Q s h → (f s h).Go R) : (o.seq f).Go R := by
  obtain ⟨v, h, rfl, q⟩ := e.ex; exact k v h q
theorem SO.To.rt {o : SO} {Q : PSt → PH → Prop} {f : PSt → PH → SO} {R : PV → PH → Prop} (e : o.To Q) (k : ∀ s h, Q s h → (f s h).Rt R) : (o.seq f).Rt R := by
  obtain ⟨v, h, rfl, q⟩ := e.ex; exact k v h q
theorem SO.To.mono {o : SO} {Q R : PSt → PH → Prop} (e : o.To Q) (k : ∀ s h, Q s h → R s h) : o.To R := by
  obtain ⟨v, h, rfl, q⟩ := e.ex; exact k v h q
theorem Out.Ok.mono {α : Type} {o : Out α} {Q R : α → PH → Prop} (e : o.Ok Q) (k : ∀ s h, Q s h → R s h) : o.Ok R := by
  obtain ⟨v, h, rfl, q⟩ := e.ex; exact k v h q

/-! ### loops by what holds at each turn -/
theorem forI_inv {g : PV → PSt → PH → Out PSt} {b : PSt → PH → SO} {it : Itr} {xs : List PV} (P : Nat → PSt → PH → Prop) (hit : ∀ i s h, P i s h → itStep it i h = some xs[i]?)
    (step : ∀ i x s h, xs[i]? = some x → P i s h → ((g x s h).sbnd b).Go (P (i + 1))) :
    ∀ (m n i : Nat) (s : PSt) (h : PH), xs.length - i = m → i ≤ xs.length → m < n → P i s h → (forI g b it n i s h).To (P xs.length) := by
  intro m
  induction m with
  | zero =>
    intro n i s h e1 e2 e3 p
    obtain ⟨n, rfl⟩ : ∃ k, n = k + 1 := ⟨n - 1, by omega⟩
    have : xs[i]? = none := List.getElem?_eq_none (by omega)
    unfold forI
    rw [hit i s h p, this]
    show P xs.length s h
    rw [show xs.length = i by omega]; exact p
  | succ m ih =>
    intro n i s h e1 e2 e3 p
    obtain ⟨n, rfl⟩ : ∃ k, n = k + 1 := ⟨n - 1, by omega⟩
    have hx : xs[i]? = some xs[i] := List.getElem?_eq_getElem (by omega)
    have e := step i xs[i] s h hx p
    unfold forI
    rw [hit i s h p, hx]
    cases eg : g xs[i] s h with
    | ok s0 h0 =>
      rw [eg] at e
      have e : (b s0 h0).Go (P (i + 1)) := e
      cases eb : b s0 h0 with
      | nx s1 h1 => rw [eb] at e; simp only [eg, Out.sbnd, eb]; exact ih n (i + 1) s1 h1 (by omega) (by omega) (by omega) e
      | ct s1 h1 => rw [eb] at e; simp only [eg, Out.sbnd, eb]; exact ih n (i + 1) s1 h1 (by omega) (by omega) (by omega) e
      | bk _ _ => rw [eb] at e; exact e.elim
      | rt _ _ => rw [eb] at e; exact e.elim
      | exc _ _ => rw [eb] at e; exact e.elim
      | bad => rw [eb] at e; exact e.elim
    | exc _ _ => rw [eg] at e; exact e.elim
    | bad => rw [eg] at e; exact e.elim
/-- a for whose turns all go on -/
theorem for_inv {C : Str → List PV → PH → Out PV} {t : Tg} {b : Ss} {it : Itr} {xs : List PV} {s : PSt} {h : PH} (P : Nat → PSt → PH → Prop) (hf : xs.length < it.fuel) (hit : ∀ i s h, P i s h → itStep it i h = some xs[i]?)
    (p : P 0 s h) (step : ∀ i x s h, xs[i]? = some x → P i s h → ((evG C t x s h).sbnd (evSs C b)).Go (P (i + 1))) : (forC C t b s it h).To (P xs.length) :=
  forI_inv P hit step _ _ 0 s h rfl (Nat.zero_le _) (by omega) p
theorem for_vals {C : Str → List PV → PH → Out PV} {t : Tg} {b : Ss} {xs : List PV} {s : PSt} {h : PH} (P : Nat → PSt → PH → Prop)
    (p : P 0 s h) (step : ∀ i x s h, xs[i]? = some x → P i s h → ((evG C t x s h).sbnd (evSs C b)).Go (P (i + 1))) : (forC C t b s (.vals xs) h).To (P xs.length) :=
  for_inv P (Nat.lt_succ_self _) (fun _ _ _ _ => rfl) p step
theorem for_lst {C : Str → List PV → PH → Out PV} {t : Tg} {b : Ss} {l : Nat} {xs : List PV} {s : PSt} {h : PH} (P : Nat → PSt → PH → Prop) (hz : xs.length ≤ sizeLine) (hl : ∀ i s h, P i s h → h[l]? = some (.lst xs))
    (p : P 0 s h) (step : ∀ i x s h, xs[i]? = some x → P i s h → ((evG C t x s h).sbnd (evSs C b)).Go (P (i + 1))) : (forC C t b s (.lst l) h).To (P xs.length) :=
  for_inv P (by show xs.length < sizeLine + 2; omega) (fun i s h p => by simp only [itStep, hl i s h p]) p step
theorem eachI_inv {α : Type} {f : α → PV → PH → Out α} {it : Itr} {xs : List PV} (P : Nat → α → PH → Prop) (hit : ∀ i a h, P i a h → itStep it i h = some xs[i]?)
    (step : ∀ i x a h, xs[i]? = some x → P i a h → (f a x h).Ok (P (i + 1))) :
    ∀ (m n i : Nat) (a : α) (h : PH), xs.length - i = m → i ≤ xs.length → m < n → P i a h → (eachI f it n i a h).Ok (P xs.length) := by
  intro m
  induction m with
  | zero =>
    intro n i s h e1 e2 e3 p
    obtain ⟨n, rfl⟩ : ∃ k, n = k + 1 := ⟨n - 1, by omega⟩
    have : xs[i]? = none := List.getElem?_eq_none (by omega)
    unfold eachI
    rw [hit i s h p, this]
    show P xs.length s h
    rw [show xs.length = i by omega]; exact p
  | succ m ih =>
    intro n i s h e1 e2 e3 p
    obtain ⟨n, rfl⟩ : ∃ k, n = k + 1 := ⟨n - 1, by omega⟩
    have hx : xs[i]? = some xs[i] := List.getElem?_eq_getElem (by omega)
    unfold eachI
    rw [hit i s h p, hx]
    exact (step i xs[i] s h hx p).bnd fun a1 h1 p1 => ih n (i + 1) a1 h1 (by omega) (by omega) (by omega) p1
theorem each_vals {α : Type} {f : α → PV → PH → Out α} {xs : List PV} {a : α} {h : PH} (P : Nat → α → PH → Prop)
    (p : P 0 a h) (step : ∀ i x a h, xs[i]? = some x → P i a h → (f a x h).Ok (P (i + 1))) : (each f (.vals xs) a h).Ok (P xs.length) :=
  eachI_inv P (fun _ _ _ _ => rfl) step _ _ 0 a h rfl (Nat.zero_le _) (Nat.lt_succ_of_le (by omega)) p
theorem each_lst {α : Type} {f : α → PV → PH → Out α} {l : Nat} {xs : List PV} {a : α} {h : PH} (P : Nat → α → PH → Prop) (hz : xs.length ≤ sizeLine) (hl : ∀ i a h, P i a h → h[l]? = some (.lst xs))
    (p : P 0 a h) (step : ∀ i x a h, xs[i]? = some x → P i a h → (f a x h).Ok (P (i + 1))) : (each f (.lst l) a h).Ok (P xs.length) :=
  eachI_inv P (fun i s h p => by simp only [itStep, hl i s h p]) step _ _ 0 a h rfl (Nat.zero_le _) (by show _ < sizeLine + 2; omega) p
/-- a while, by a measure -/
theorem whl_inv {c : PSt → PH → Out Bool} {b : PSt → PH → SO} (P : PSt → PH → Nat → Prop) (Q : PSt → PH → Prop)
    (step : ∀ s h m, P s h m → (c s h).Ok fun k h1 => if k = true then (b s h1).Go fun s' h' => ∃ m', m' < m ∧ P s' h' m' else Q s h1) :
    ∀ (n m : Nat) (s : PSt) (h : PH), m < n → P s h m → (whl c b n s h).To Q := by
  intro n
  induction n with
  | zero => intro m s h e; omega
  | succ n ih =>
    intro m s h e p
    unfold whl
    obtain ⟨k, h1, e1, q⟩ := (step s h m p).ex
    rw [e1, sbnd_ok]
    cases k with
    | false => rw [if_neg Bool.false_ne_true] at q ⊢; exact q
    | true =>
      rw [if_pos rfl] at q ⊢
      cases eb : b s h1 with
      | nx s1 h1 => rw [eb] at q; obtain ⟨m', lt, p'⟩ := q; exact ih m' s1 h1 (by omega) p'
      | ct s1 h1 => rw [eb] at q; obtain ⟨m', lt, p'⟩ := q; exact ih m' s1 h1 (by omega) p'
      | bk _ _ => rw [eb] at q; exact q.elim
      | rt _ _ => rw [eb] at q; exact q.elim
      | exc _ _ => rw [eb] at q; exact q.elim
      | bad => rw [eb] at q; exact q.elim
theorem whl_ok {C : Str → List PV → PH → Out PV} {c : T} {b : Ss} {s : PSt} {h : PH} (P : PSt → PH → Nat → Prop) (Q : PSt → PH → Prop) (m : Nat) (hm : m < big) (p : P s h m)
    (step : ∀ s h m, P s h m → (evT C c s h).Ok fun k h1 => if k = true then (evSs C b s h1).Go fun s' h' => ∃ m', m' < m ∧ P s' h' m' else Q s h1) : (whlC C c b s h).To Q := whl_inv P Q step big m s h hm p
/-- a call's body -/
theorem call_ok {T : Str → Option Df} {k : Nat} {f : Str} {d : Df} {xs : List PV} {h : PH} {Q : PV → PH → Prop} (e : T f = some d) (hl : xs.length = d.np) (hn : d.np ≤ d.ns)
    (q : (evSs (evCall T k) d.body (xs.map some ++ List.replicate (d.ns - d.np) none) h).Rt Q) : (evCall T (k + 1) f xs h).Ok Q := by
  obtain ⟨v, h', e2, q⟩ := q.ex
  simp only [evCall, e, hl, hn, e2]
  simp only [true_and, if_true]
  exact q
end MP

set_option Elab.async false
set_option linter.all false
set_option maxRecDepth 100000
set_option maxHeartbeats 4000000
namespace MP
open PySem
/-! ### the laws' draws -/
def b_draw : Ss :=
    (.cons (.asg (.nm 1) (.int 7))
    (.cons (.frr (.nm 2) (.ex (.var 0)) (.cons (.asg (.nm 1) (.bin .Mod (.bi .int (.cons (.bin .Add (.bin .Add (.bin .Mult (.var 1) (.int 48271)) (.bin .Mod (.bi .abs (.cons (.bi .int (.cons (.var 2) .nil)) .nil)) (.int 65521))) (.int 1)) .nil)) (.int 2147483647)))
    .nil))
    (.cons (.ret (.lst (.cons (.lc (.bi .abs (.cons (.bi .int (.cons (.var 2) .nil)) .nil)) (.nm 2) (.ex (.var 0)) .nil [2]) (.cons (.neg (.int 1)) (.cons (.int 0) (.cons (.var 1) .nil))))))
    .nil)))
def b_take : Ss :=
    (.cons (.ite (.cmp .Eq (.sub (.var 0) (.int 2)) (.int 0)) (.cons (.asg (.sub (.var 0) (.int 1)) (.bin .Add (.sub (.var 0) (.int 1)) (.int 1)))
    (.cons (.ite (.cmp .Lt (.sub (.var 0) (.int 1)) (.bi .len (.cons (.sub (.var 0) (.int 0)) .nil))) (.cons (.asg (.sub (.var 0) (.int 2)) (.sub (.sub (.var 0) (.int 0)) (.sub (.var 0) (.int 1))))
    .nil) .nil)
    (.cons (.ite (.cmp .Eq (.sub (.var 0) (.int 2)) (.int 0)) (.cons (.asg (.sub (.var 0) (.int 3)) (.bin .Mod (.bi .int (.cons (.bin .Add (.bin .Mult (.sub (.var 0) (.int 3)) (.int 48271)) (.int 11)) .nil)) (.int 2147483647)))
    (.cons (.asg (.sub (.var 0) (.int 2)) (.sub (.var 0) (.int 3)))
    .nil)) .nil)
    .nil))) .nil)
    (.cons (.asg (.nm 2) (.bin .Mod (.bi .int (.cons (.sub (.var 0) (.int 2)) .nil)) (.var 1)))
    (.cons (.asg (.sub (.var 0) (.int 2)) (.bin .FloorDiv (.sub (.var 0) (.int 2)) (.var 1)))
    (.cons (.ret (.var 2))
    .nil))))
/-- a draw stands at place l, its cells at c -/
def DrawO (c : Nat) (o : PO) : Prop := ∃ a b s : Int, o = .lst [.ref c, .int a, .int b, .int s] ∧ -1 ≤ a
section
variable {C : Str → List PV → PH → Out PV} {h : PH} {c l : Nat} {cs : List Int} {m a b s : Int} {ps : PSt}
theorem draw_sub {x : Nat} {xs : List PV} {v : PV} {k : Int} (e0 : ps[x]? = some (some (.ref l))) (ho : h[l]? = some (.lst xs)) (h1 : 0 ≤ k) (e : xs[k.toNat]? = some v) : evE C (.sub (.var x) (.int k)) ps h = .ok v h := by
  simp only [evE, slot_at e0, bnd_ok]
  exact sub_lst ho (itemF_at h1 e)
end
theorem take_ok {C : Str → List PV → PH → Out PV} {h : PH} {c l : Nat} {cs : List Int} {o : PO} {m : Int} (hc : h[c]? = some (.lst (cs.map PV.int))) (ho : h[l]? = some o) (hd : DrawO c o) (hne : c ≠ l) (h0 : 0 < m) (h1 : m < 1073741824) :
    ∃ (r : Int) (o' : PO), 0 ≤ r ∧ r < m ∧ DrawO c o' ∧ evSs C b_take [some (.ref l), some (.int m), none] h = .rt (.int r) (h.set l o') := by
  obtain ⟨a, b, s, rfl, ha⟩ := hd
  have hl : l < h.length := (List.getElem?_eq_some_iff.mp ho).1
  have hs : ∀ o, (h.set l o)[l]? = some o := fun o => List.getElem?_set_self hl
  have hs2 : ∀ o o', (h.set l o).set l o' = h.set l o' := fun o o' => List.set_set ..
  have hcs : ∀ o, (h.set l o)[c]? = some (.lst (cs.map PV.int)) := fun o => by rw [List.getElem?_set_ne (Ne.symm hne)]; exact hc
  -- the end, from a heap at which the draw's part is there
  have fin : ∀ (a b s : Int) (h' : PH), h'[l]? = some (.lst [.ref c, .int a, .int b, .int s]) → (∀ o', h'.set l o' = h.set l o') → -1 ≤ a → ∃ (r : Int) (o' : PO), 0 ≤ r ∧ r < m ∧ DrawO c o' ∧ evSs C (.cons (.asg (.nm 2) (.bin .Mod (.bi .int (.cons (.sub (.var 0) (.int 2)) .nil)) (.var 1)))
      (.cons (.asg (.sub (.var 0) (.int 2)) (.bin .FloorDiv (.sub (.var 0) (.int 2)) (.var 1))) (.cons (.ret (.var 2)) .nil))) [some (.ref l), some (.int m), none] h' = .rt (.int r) (h.set l o') := by
    intro a b s h' e1 e2 ha
    refine ⟨b % m, .lst [.ref c, .int a, .int (b / m), .int s], Int.emod_nonneg _ (by omega), Int.emod_lt_of_pos _ h0, ⟨a, b / m, s, rfl, ha⟩, ?_⟩
    simp [bnd_bnd, bnd_sbnd, sbnd_seq, seq_seq, seqC_ap, ss_cons, ss_nil, s_asg, s_ret, s_ite, s_ex, s_for, s_whl, e_non, e_bl, e_int, e_str, e_var, e_bin, e_neg, e_cmp, e_not, e_tup, e_lst, e_dic0, e_sub, e_call, e_bi, e_mt, kindG_same, e_isi, e_inv, e_lrg, e_lc, e_dc, wipeP, new, evEs, evT, evTs, evP, evI, evG, bnd_ok, sbnd_ok, seq_nx, seq_rt, to_nx, go_nx, go_ct, rt_rt, ok_ok, slot, item0, item1, item2, item3, sub_t, i_int, i_abs, i_lenT, c_eqI, c_neI, c_eqS, c_neS, c_lt, c_le, c_gt, c_ge, asB_bl, iteC_t, iteC_f, iteC_d, b_add, b_sub, b_mul, b_mod, sub_l e1, item2, i_int, b_mod h0, b_div h0 h1, set_lst e1, e2]
  have A : ∀ (a b s : Int) (h' : PH), h'[l]? = some (.lst [.ref c, .int a, .int b, .int s]) → h'[c]? = some (.lst (cs.map PV.int)) → (∀ o', h'.set l o' = h.set l o') → -1 ≤ a → True := fun _ _ _ _ _ _ _ _ => True.intro
  by_cases hb : b = 0
  · subst hb
    by_cases ha2 : a + 1 < cs.length
    · obtain ⟨x, hx⟩ : ∃ x, cs[(a + 1).toNat]? = some x := ⟨cs[(a + 1).toNat]'(by omega), List.getElem?_eq_getElem (by omega)⟩
      have hx' : itemF (cs.map PV.int) (.int (a + 1)) = Out.ok (.int x) := by funext h; exact itemF_at (by omega) (by rw [List.getElem?_map, hx]; rfl)
      by_cases hx0 : x = 0
      · subst hx0
        obtain ⟨r, o', f1, f2, f3, f4⟩ := fin (a + 1) ((s * 48271 + 11) % 2147483647) ((s * 48271 + 11) % 2147483647) (h.set l (.lst [.ref c, .int (a + 1), .int ((s * 48271 + 11) % 2147483647), .int ((s * 48271 + 11) % 2147483647)])) (hs _) (fun o' => hs2 _ o') (by omega)
        refine ⟨r, o', f1, f2, f3, ?_⟩
        rw [← f4]
        unfold b_take
        simp [bnd_bnd, bnd_sbnd, sbnd_seq, seq_seq, seqC_ap, ss_cons, ss_nil, s_asg, s_ret, s_ite, s_ex, s_for, s_whl, e_non, e_bl, e_int, e_str, e_var, e_bin, e_neg, e_cmp, e_not, e_tup, e_lst, e_dic0, e_sub, e_call, e_bi, e_mt, kindG_same, e_isi, e_inv, e_lrg, e_lc, e_dc, wipeP, new, evEs, evT, evTs, evP, evI, evG, bnd_ok, sbnd_ok, seq_nx, seq_rt, to_nx, go_nx, go_ct, rt_rt, ok_ok, slot, item0, item1, item2, item3, sub_t, i_int, i_abs, i_lenT, c_eqI, c_neI, c_eqS, c_neS, c_lt, c_le, c_gt, c_ge, asB_bl, iteC_t, iteC_f, iteC_d, b_add, b_sub, b_mul, b_mod, sub_l ho, sub_l (hs _), sub_l (hcs _), item0, item1, item2, item3, i_int, set_lst ho, set_lst (hs _), hs2, c_eqI, c_lt, asB_bl, iteC_t, iteC_f, iteC_d, i_lenL (hcs _), b_add, ha2, hx', b_mul, b_mod]
      · obtain ⟨r, o', f1, f2, f3, f4⟩ := fin (a + 1) x s (h.set l (.lst [.ref c, .int (a + 1), .int x, .int s])) (hs _) (fun o' => hs2 _ o') (by omega)
        refine ⟨r, o', f1, f2, f3, ?_⟩
        rw [← f4]
        unfold b_take
        simp [bnd_bnd, bnd_sbnd, sbnd_seq, seq_seq, seqC_ap, ss_cons, ss_nil, s_asg, s_ret, s_ite, s_ex, s_for, s_whl, e_non, e_bl, e_int, e_str, e_var, e_bin, e_neg, e_cmp, e_not, e_tup, e_lst, e_dic0, e_sub, e_call, e_bi, e_mt, kindG_same, e_isi, e_inv, e_lrg, e_lc, e_dc, wipeP, new, evEs, evT, evTs, evP, evI, evG, bnd_ok, sbnd_ok, seq_nx, seq_rt, to_nx, go_nx, go_ct, rt_rt, ok_ok, slot, item0, item1, item2, item3, sub_t, i_int, i_abs, i_lenT, c_eqI, c_neI, c_eqS, c_neS, c_lt, c_le, c_gt, c_ge, asB_bl, iteC_t, iteC_f, iteC_d, b_add, b_sub, b_mul, b_mod, sub_l ho, sub_l (hs _), sub_l (hcs _), item0, item1, item2, item3, i_int, set_lst ho, set_lst (hs _), hs2, c_eqI, c_lt, asB_bl, iteC_t, iteC_f, iteC_d, i_lenL (hcs _), b_add, ha2, hx', b_mul, b_mod, hx0]
    · obtain ⟨r, o', f1, f2, f3, f4⟩ := fin (a + 1) ((s * 48271 + 11) % 2147483647) ((s * 48271 + 11) % 2147483647) (h.set l (.lst [.ref c, .int (a + 1), .int ((s * 48271 + 11) % 2147483647), .int ((s * 48271 + 11) % 2147483647)])) (hs _) (fun o' => hs2 _ o') (by omega)
      refine ⟨r, o', f1, f2, f3, ?_⟩
      rw [← f4]
      unfold b_take
      simp [bnd_bnd, bnd_sbnd, sbnd_seq, seq_seq, seqC_ap, ss_cons, ss_nil, s_asg, s_ret, s_ite, s_ex, s_for, s_whl, e_non, e_bl, e_int, e_str, e_var, e_bin, e_neg, e_cmp, e_not, e_tup, e_lst, e_dic0, e_sub, e_call, e_bi, e_mt, kindG_same, e_isi, e_inv, e_lrg, e_lc, e_dc, wipeP, new, evEs, evT, evTs, evP, evI, evG, bnd_ok, sbnd_ok, seq_nx, seq_rt, to_nx, go_nx, go_ct, rt_rt, ok_ok, slot, item0, item1, item2, item3, sub_t, i_int, i_abs, i_lenT, c_eqI, c_neI, c_eqS, c_neS, c_lt, c_le, c_gt, c_ge, asB_bl, iteC_t, iteC_f, iteC_d, b_add, b_sub, b_mul, b_mod, sub_l ho, sub_l (hs _), sub_l (hcs _), item0, item1, item2, item3, i_int, set_lst ho, set_lst (hs _), hs2, c_eqI, c_lt, asB_bl, iteC_t, iteC_f, iteC_d, i_lenL (hcs _), b_add, ha2, b_mul, b_mod]
  · obtain ⟨r, o', f1, f2, f3, f4⟩ := fin a b s h ho (fun o' => rfl) ha
    refine ⟨r, o', f1, f2, f3, ?_⟩
    rw [← f4]
    unfold b_take
    simp [bnd_bnd, bnd_sbnd, sbnd_seq, seq_seq, seqC_ap, ss_cons, ss_nil, s_asg, s_ret, s_ite, s_ex, s_for, s_whl, e_non, e_bl, e_int, e_str, e_var, e_bin, e_neg, e_cmp, e_not, e_tup, e_lst, e_dic0, e_sub, e_call, e_bi, e_mt, kindG_same, e_isi, e_inv, e_lrg, e_lc, e_dc, wipeP, new, evEs, evT, evTs, evP, evI, evG, bnd_ok, sbnd_ok, seq_nx, seq_rt, to_nx, go_nx, go_ct, rt_rt, ok_ok, slot, item0, item1, item2, item3, sub_t, i_int, i_abs, i_lenT, c_eqI, c_neI, c_eqS, c_neS, c_lt, c_le, c_gt, c_ge, asB_bl, iteC_t, iteC_f, iteC_d, b_add, b_sub, b_mul, b_mod, sub_l ho, item2, c_eqI, asB_bl, hb]
/-- the first draw -/
theorem draw_ok {C : Str → List PV → PH → Out PV} (ns : List Int) (hz : ns.length ≤ 63) : (evSs C b_draw [some (.fro (ns.map PV.int)), none, none] []).Rt fun v h => v = .ref 1 ∧ ∃ (cs : List Int) (o : PO), DrawO 0 o ∧ h = [.lst (cs.map PV.int), o] := by
  unfold b_draw
  simp only [bnd_bnd, bnd_sbnd, sbnd_seq, seq_seq, seqC_ap, ss_cons, ss_nil, s_asg, s_ret, s_ite, s_ex, s_for, s_whl, e_non, e_bl, e_int, e_str, e_var, e_bin, e_neg, e_cmp, e_not, e_tup, e_lst, e_dic0, e_sub, e_call, e_bi, e_mt, kindG_same, e_isi, e_inv, e_lrg, e_lc, e_dc, wipeP, new, evEs, evT, evTs, evP, evI, evG, bnd_ok, sbnd_ok, seq_nx, seq_rt, to_nx, go_nx, go_ct, rt_rt, ok_ok, slot, item0, item1, item2, item3, sub_t, i_int, i_abs, i_lenT, c_eqI, c_neI, c_eqS, c_neS, c_lt, c_le, c_gt, c_ge, asB_bl, iteC_t, iteC_f, iteC_d, b_add, b_sub, b_mul, b_mod]
  refine SO.To.rt (for_vals (fun _ s' h' => ∃ (sd : Int) (z : Option PV), s' = [some (.fro (ns.map PV.int)), some (.int sd), z] ∧ h' = []) ⟨7, none, rfl, rfl⟩ fun i x s h hx p => ?_) fun s h p => ?_
  · obtain ⟨sd, z, rfl, rfl⟩ := p
    rw [List.getElem?_map, Option.map_eq_some_iff] at hx
    obtain ⟨n, _, rfl⟩ := hx
    simp [bnd_bnd, bnd_sbnd, sbnd_seq, seq_seq, seqC_ap, ss_cons, ss_nil, s_asg, s_ret, s_ite, s_ex, s_for, s_whl, e_non, e_bl, e_int, e_str, e_var, e_bin, e_neg, e_cmp, e_not, e_tup, e_lst, e_dic0, e_sub, e_call, e_bi, e_mt, kindG_same, e_isi, e_inv, e_lrg, e_lc, e_dc, wipeP, new, evEs, evT, evTs, evP, evI, evG, bnd_ok, sbnd_ok, seq_nx, seq_rt, to_nx, go_nx, go_ct, rt_rt, ok_ok, slot, item0, item1, item2, item3, sub_t, i_int, i_abs, i_lenT, c_eqI, c_neI, c_eqS, c_neS, c_lt, c_le, c_gt, c_ge, asB_bl, iteC_t, iteC_f, iteC_d, b_add, b_sub, b_mul, b_mod]
  · obtain ⟨sd, z, rfl, rfl⟩ := p
    simp [bnd_bnd, bnd_sbnd, sbnd_seq, seq_seq, seqC_ap, ss_cons, ss_nil, s_asg, s_ret, s_ite, s_ex, s_for, s_whl, e_non, e_bl, e_int, e_str, e_var, e_bin, e_neg, e_cmp, e_not, e_tup, e_lst, e_dic0, e_sub, e_call, e_bi, e_mt, kindG_same, e_isi, e_inv, e_lrg, e_lc, e_dc, wipeP, new, evEs, evT, evTs, evP, evI, evG, bnd_ok, sbnd_ok, seq_nx, seq_rt, to_nx, go_nx, go_ct, rt_rt, ok_ok, slot, item0, item1, item2, item3, sub_t, i_int, i_abs, i_lenT, c_eqI, c_neI, c_eqS, c_neS, c_lt, c_le, c_gt, c_ge, asB_bl, iteC_t, iteC_f, iteC_d, b_add, b_sub, b_mul, b_mod]
    refine Out.Ok.rt (each_vals (fun i acc h => h = [] ∧ ∃ cs : List Int, acc = cs.map PV.int ∧ acc.length = i) ⟨rfl, [], rfl, rfl⟩ fun i x acc h hx p => ?_) fun acc h p => ?_
    · obtain ⟨rfl, cs, rfl, hl⟩ := p
      have hi := lt_of_some hx
      rw [List.getElem?_map, Option.map_eq_some_iff] at hx
      obtain ⟨n, _, rfl⟩ := hx
      have hz2 : (cs.map PV.int).length < sizeLine := by
        rw [List.length_map] at hi
        have : (63 : Nat) < sizeLine := by decide
        omega
      rw [List.length_map] at hz2
      simp [bnd_bnd, bnd_sbnd, sbnd_seq, seq_seq, seqC_ap, ss_cons, ss_nil, s_asg, s_ret, s_ite, s_ex, s_for, s_whl, e_non, e_bl, e_int, e_str, e_var, e_bin, e_neg, e_cmp, e_not, e_tup, e_lst, e_dic0, e_sub, e_call, e_bi, e_mt, kindG_same, e_isi, e_inv, e_lrg, e_lc, e_dc, wipeP, new, evEs, evT, evTs, evP, evI, evG, bnd_ok, sbnd_ok, seq_nx, seq_rt, to_nx, go_nx, go_ct, rt_rt, ok_ok, slot, item0, item1, item2, item3, sub_t, i_int, i_abs, i_lenT, c_eqI, c_neI, c_eqS, c_neS, c_lt, c_le, c_gt, c_ge, asB_bl, iteC_t, iteC_f, iteC_d, b_add, b_sub, b_mul, b_mod, lcC, hz2]
      exact ⟨⟨cs ++ [if n < 0 then -n else n], by simp⟩, by simpa using hl⟩
    · obtain ⟨rfl, cs, rfl, hl⟩ := p
      have : (4 : Nat) ≤ sizeLine := by decide
      simp [bnd_bnd, bnd_sbnd, sbnd_seq, seq_seq, seqC_ap, ss_cons, ss_nil, s_asg, s_ret, s_ite, s_ex, s_for, s_whl, e_non, e_bl, e_int, e_str, e_var, e_bin, e_neg, e_cmp, e_not, e_tup, e_lst, e_dic0, e_sub, e_call, e_bi, e_mt, kindG_same, e_isi, e_inv, e_lrg, e_lc, e_dc, wipeP, new, evEs, evT, evTs, evP, evI, evG, bnd_ok, sbnd_ok, seq_nx, seq_rt, to_nx, go_nx, go_ct, rt_rt, ok_ok, slot, item0, item1, item2, item3, sub_t, i_int, i_abs, i_lenT, c_eqI, c_neI, c_eqS, c_neS, c_lt, c_le, c_gt, c_ge, asB_bl, iteC_t, iteC_f, iteC_d, b_add, b_sub, b_mul, b_mod, this]
      exact ⟨⟨-1, 0, sd, rfl, by omega⟩, cs, rfl⟩
end MP

set_option Elab.async false
set_option linter.all false
set_option maxRecDepth 100000
set_option maxHeartbeats 4000000
namespace Lw
open PySem PySem.Spec PyProof.Rows L2 MP
def top (i : Nat) : Stmt := PySem.Challenge.pw_leasttiles_k04_uses_and_ways.main.body.getD i (.Pass ⟨0, 0, 0, 0⟩)
/-! targets(end): end 0 -/
def b_targets : Ss :=
    (.cons (.ite (.cmp .Eq (.sub (.var 0) (.int 0)) (.str "go")) (.cons (.ret (.tup (.cons (.sub (.var 0) (.int 1)) .nil)))
    .nil) .nil)
    (.cons (.ite (.cmp .Eq (.sub (.var 0) (.int 0)) (.str "if")) (.cons (.ret (.tup (.cons (.sub (.var 0) (.int 2)) (.cons (.sub (.var 0) (.int 3)) .nil))))
    .nil) .nil)
    (.cons (.ret (.tup .nil))
    .nil)))
def d_targets : Df := ⟨1, 1, b_targets⟩
abbrev s_targets : Stmt := top 1
/-! successors(block): block 0 found 1 -/
def b_successors : Ss :=
    (.cons (.asg (.nm 1) (.call "targets" (.cons (.sub (.var 0) (.int 2)) .nil)))
    (.cons (.ite (.and (.cmp .Eq (.bi .len (.cons (.var 1) .nil)) (.int 2)) (.cmp .Eq (.sub (.var 1) (.int 0)) (.sub (.var 1) (.int 1)))) (.cons (.ret (.slc (.var 1) .none (.some (.int 1))))
    .nil) .nil)
    (.cons (.ret (.var 1))
    .nil)))
def d_successors : Df := ⟨1, 2, b_successors⟩
abbrev s_successors : Stmt := top 2
/-! collect(e, found): e 0 found 1 part 2 -/
def b_collect : Ss :=
    (.cons (.ite (.cmp .Eq (.sub (.var 0) (.int 0)) (.str "var")) (.cons (.asg (.sub (.var 1) (.sub (.var 0) (.int 1))) (.bl true))
    .nil) (.cons (.ite (.cmp .NotEq (.sub (.var 0) (.int 0)) (.str "int")) (.cons (.frr (.nm 2) (.ex (.slc (.var 0) (.some (.int 1)) .none)) (.cons (.ex (.call "collect" (.cons (.var 2) (.cons (.var 1) .nil))))
    .nil))
    .nil) .nil)
    .nil))
    .nil)
def d_collect : Df := ⟨2, 3, b_collect⟩
abbrev s_collect : Stmt := top 3
/-! uses(e): e 0 found 1 -/
def b_uses : Ss :=
    (.cons (.asg (.nm 1) (.dic .nil))
    (.cons (.ex (.call "collect" (.cons (.var 0) (.cons (.var 1) .nil))))
    (.cons (.ret (.bi .tuple (.cons (.bi .sorted (.cons (.var 1) .nil)) .nil)))
    .nil)))
def d_uses : Df := ⟨1, 2, b_uses⟩
abbrev s_uses : Stmt := top 4
/-! used_and_set(block): block 0 used 1 done 2 statement 3 parts 4 part 5 v 6 -/
def b_used_and_set : Ss :=
    (.cons (.asg (.nm 1) (.dic .nil))
    (.cons (.asg (.nm 2) (.dic .nil))
    (.cons (.frr (.nm 3) (.ex (.sub (.var 0) (.int 1))) (.cons (.asg (.nm 4) (.ite (.cmp .Eq (.sub (.var 3) (.int 0)) (.str "set")) (.slc (.var 3) (.some (.int 2)) .none) (.slc (.var 3) (.some (.int 1)) .none)))
    (.cons (.frr (.nm 5) (.ex (.var 4)) (.cons (.frr (.nm 6) (.ex (.call "uses" (.cons (.var 5) .nil))) (.cons (.ite (.cmp .NotIn (.var 6) (.var 2)) (.cons (.asg (.sub (.var 1) (.var 6)) (.bl true))
    .nil) .nil)
    .nil))
    .nil))
    (.cons (.ite (.cmp .Eq (.sub (.var 3) (.int 0)) (.str "set")) (.cons (.asg (.sub (.var 2) (.sub (.var 3) (.int 1))) (.bl true))
    .nil) .nil)
    .nil))))
    (.cons (.ite (.cmp .In (.sub (.sub (.var 0) (.int 2)) (.int 0)) (.tup (.cons (.str "if") (.cons (.str "return") .nil)))) (.cons (.frr (.nm 6) (.ex (.call "uses" (.cons (.sub (.sub (.var 0) (.int 2)) (.int 1)) .nil))) (.cons (.ite (.cmp .NotIn (.var 6) (.var 2)) (.cons (.asg (.sub (.var 1) (.var 6)) (.bl true))
    .nil) .nil)
    .nil))
    .nil) .nil)
    (.cons (.ret (.tup (.cons (.var 1) (.cons (.var 2) .nil))))
    .nil)))))
def d_used_and_set : Df := ⟨1, 7, b_used_and_set⟩
abbrev s_used_and_set : Stmt := top 5
/-! live_in(function): function 0 rows 1 live 2 changed 3 block 4 label 5 v 6 -/
def b_live_in : Ss :=
    (.cons (.asg (.nm 1) (.dc (.sub (.var 4) (.int 0)) (.call "used_and_set" (.cons (.var 4) .nil)) (.nm 4) (.ex (.sub (.var 0) (.int 2))) .nil [4]))
    (.cons (.asg (.nm 2) (.dc (.sub (.var 4) (.int 0)) (.bi .dict (.cons (.sub (.sub (.var 1) (.sub (.var 4) (.int 0))) (.int 0)) .nil)) (.nm 4) (.ex (.sub (.var 0) (.int 2))) .nil [4]))
    (.cons (.asg (.nm 3) (.bl true))
    (.cons (.whl (.e (.var 3)) (.cons (.asg (.nm 3) (.bl false))
    (.cons (.frr (.nm 4) (.rev (.sub (.var 0) (.int 2))) (.cons (.frr (.nm 5) (.ex (.call "successors" (.cons (.var 4) .nil))) (.cons (.lk (.sub (.var 2) (.var 5)) (.frr (.nm 6) (.keys (.sub (.var 2) (.var 5))) (.cons (.ite (.and (.cmp .NotIn (.var 6) (.sub (.sub (.var 1) (.sub (.var 4) (.int 0))) (.int 1))) (.cmp .NotIn (.var 6) (.sub (.var 2) (.sub (.var 4) (.int 0))))) (.cons (.asg (.sub (.sub (.var 2) (.sub (.var 4) (.int 0))) (.var 6)) (.bl true))
    (.cons (.asg (.nm 3) (.bl true))
    .nil)) .nil)
    .nil)))
    .nil))
    .nil))
    .nil)))
    (.cons (.ret (.lc (.tup (.cons (.sub (.var 4) (.int 0)) (.cons (.bi .tuple (.cons (.bi .sorted (.cons (.sub (.var 2) (.sub (.var 4) (.int 0))) .nil)) .nil)) .nil))) (.nm 4) (.ex (.sub (.var 0) (.int 2))) .nil [4]))
    .nil)))))
def d_live_in : Df := ⟨1, 7, b_live_in⟩
abbrev s_live_in : Stmt := top 6
/-! _law_draw(script): script 0 seed 1 cell 2 -/
def b__law_draw : Ss :=
    (.cons (.asg (.nm 1) (.int 7))
    (.cons (.frr (.nm 2) (.ex (.var 0)) (.cons (.asg (.nm 1) (.bin .Mod (.bi .int (.cons (.bin .Add (.bin .Add (.bin .Mult (.var 1) (.int 48271)) (.bin .Mod (.bi .abs (.cons (.bi .int (.cons (.var 2) .nil)) .nil)) (.int 65521))) (.int 1)) .nil)) (.int 2147483647)))
    .nil))
    (.cons (.ret (.lst (.cons (.lc (.bi .abs (.cons (.bi .int (.cons (.var 2) .nil)) .nil)) (.nm 2) (.ex (.var 0)) .nil [2]) (.cons (.neg (.int 1)) (.cons (.int 0) (.cons (.var 1) .nil))))))
    .nil)))
def d__law_draw : Df := ⟨1, 3, b__law_draw⟩
abbrev s__law_draw : Stmt := top 8
/-! _law_take(draw, many): draw 0 many 1 found 2 -/
def b__law_take : Ss :=
    (.cons (.ite (.cmp .Eq (.sub (.var 0) (.int 2)) (.int 0)) (.cons (.asg (.sub (.var 0) (.int 1)) (.bin .Add (.sub (.var 0) (.int 1)) (.int 1)))
    (.cons (.ite (.cmp .Lt (.sub (.var 0) (.int 1)) (.bi .len (.cons (.sub (.var 0) (.int 0)) .nil))) (.cons (.asg (.sub (.var 0) (.int 2)) (.sub (.sub (.var 0) (.int 0)) (.sub (.var 0) (.int 1))))
    .nil) .nil)
    (.cons (.ite (.cmp .Eq (.sub (.var 0) (.int 2)) (.int 0)) (.cons (.asg (.sub (.var 0) (.int 3)) (.bin .Mod (.bi .int (.cons (.bin .Add (.bin .Mult (.sub (.var 0) (.int 3)) (.int 48271)) (.int 11)) .nil)) (.int 2147483647)))
    (.cons (.asg (.sub (.var 0) (.int 2)) (.sub (.var 0) (.int 3)))
    .nil)) .nil)
    .nil))) .nil)
    (.cons (.asg (.nm 2) (.bin .Mod (.bi .int (.cons (.sub (.var 0) (.int 2)) .nil)) (.var 1)))
    (.cons (.asg (.sub (.var 0) (.int 2)) (.bin .FloorDiv (.sub (.var 0) (.int 2)) (.var 1)))
    (.cons (.ret (.var 2))
    .nil))))
def d__law_take : Df := ⟨2, 3, b__law_take⟩
abbrev s__law_take : Stmt := top 9
/-! _law_top(w): w 0 -/
def b__law_top : Ss :=
    (.cons (.ret (.bin .Sub (.bin .LShift (.int 1) (.var 0)) (.int 1)))
    .nil)
def d__law_top : Df := ⟨1, 1, b__law_top⟩
abbrev s__law_top : Stmt := top 10
/-! _law_compute(op, w, x, y): op 0 w 1 x 2 y 3 size 4 found 5 k 6 both 7 -/
def b__law_compute : Ss :=
    (.cons (.asg (.nm 4) (.bin .LShift (.int 1) (.var 1)))
    (.cons (.ite (.cmp .Eq (.var 0) (.str "add")) (.cons (.ret (.ite (.cmp .Lt (.bin .Add (.var 2) (.var 3)) (.var 4)) (.bin .Add (.var 2) (.var 3)) (.bin .Sub (.bin .Add (.var 2) (.var 3)) (.var 4))))
    .nil) .nil)
    (.cons (.ite (.cmp .Eq (.var 0) (.str "sub")) (.cons (.ret (.ite (.cmp .GtE (.var 2) (.var 3)) (.bin .Sub (.var 2) (.var 3)) (.bin .Add (.bin .Sub (.var 2) (.var 3)) (.var 4))))
    .nil) .nil)
    (.cons (.ite (.cmp .Eq (.var 0) (.str "mul")) (.cons (.ret (.bin .Sub (.bin .Mult (.var 2) (.var 3)) (.bin .Mult (.bin .FloorDiv (.bin .Mult (.var 2) (.var 3)) (.var 4)) (.var 4))))
    .nil) .nil)
    (.cons (.ite (.cmp .In (.var 0) (.lst (.cons (.str "and") (.cons (.str "or") (.cons (.str "xor") .nil))))) (.cons (.asg (.nm 5) (.int 0))
    (.cons (.frr (.nm 6) (.rng (.cons (.var 1) .nil)) (.cons (.asg (.nm 7) (.bin .Add (.bin .Mod (.bin .FloorDiv (.var 2) (.bin .LShift (.int 1) (.var 6))) (.int 2)) (.bin .Mod (.bin .FloorDiv (.var 3) (.bin .LShift (.int 1) (.var 6))) (.int 2))))
    (.cons (.ite (.or (.and (.cmp .Eq (.var 0) (.str "and")) (.cmp .Eq (.var 7) (.int 2))) (.or (.and (.cmp .Eq (.var 0) (.str "or")) (.cmp .Gt (.var 7) (.int 0))) (.and (.cmp .Eq (.var 0) (.str "xor")) (.cmp .Eq (.var 7) (.int 1))))) (.cons (.asg (.nm 5) (.bin .Add (.var 5) (.bin .LShift (.int 1) (.var 6))))
    .nil) .nil)
    .nil)))
    (.cons (.ret (.var 5))
    .nil))) .nil)
    (.cons (.ite (.cmp .Eq (.var 0) (.str "shl")) (.cons (.ret (.ite (.cmp .GtE (.var 3) (.var 1)) (.int 0) (.bin .Sub (.bin .Mult (.var 2) (.bin .LShift (.int 1) (.var 3))) (.bin .Mult (.bin .FloorDiv (.bin .Mult (.var 2) (.bin .LShift (.int 1) (.var 3))) (.var 4)) (.var 4)))))
    .nil) .nil)
    (.cons (.ite (.cmp .Eq (.var 0) (.str "shr")) (.cons (.ret (.ite (.cmp .GtE (.var 3) (.var 1)) (.int 0) (.bin .FloorDiv (.var 2) (.bin .LShift (.int 1) (.var 3)))))
    .nil) .nil)
    (.cons (.ite (.cmp .Eq (.var 0) (.str "less")) (.cons (.ret (.ite (.cmp .Lt (.var 2) (.var 3)) (.int 1) (.int 0)))
    .nil) .nil)
    (.cons (.ite (.cmp .Eq (.var 0) (.str "equal")) (.cons (.ret (.ite (.cmp .Eq (.var 2) (.var 3)) (.int 1) (.int 0)))
    .nil) .nil)
    (.cons (.ite (.cmp .Eq (.var 0) (.str "not")) (.cons (.ret (.bin .Sub (.bin .Sub (.var 4) (.int 1)) (.var 2)))
    .nil) .nil)
    (.cons (.ret (.ite (.cmp .Eq (.var 2) (.int 0)) (.int 0) (.bin .Sub (.var 4) (.var 2))))
    .nil)))))))))))
def d__law_compute : Df := ⟨4, 8, b__law_compute⟩
abbrev s__law_compute : Stmt := top 11
/-! _law_pairs():  -/
def b__law_pairs : Ss :=
    (.cons (.ret (.lst (.cons (.str "add") (.cons (.str "sub") (.cons (.str "mul") (.cons (.str "and") (.cons (.str "or") (.cons (.str "xor") (.cons (.str "shl") (.cons (.str "shr") (.cons (.str "less") (.cons (.str "equal") .nil))))))))))))
    .nil)
def d__law_pairs : Df := ⟨0, 0, b__law_pairs⟩
abbrev s__law_pairs : Stmt := top 12
/-! _law_word(draw, w): draw 0 w 1 k 2 -/
def b__law_word : Ss :=
    (.cons (.asg (.nm 2) (.call "_law_take" (.cons (.var 0) (.cons (.int 6) .nil))))
    (.cons (.ite (.cmp .Lt (.var 2) (.int 3)) (.cons (.ret (.bi .min (.cons (.sub (.lst (.cons (.int 0) (.cons (.int 1) (.cons (.int 5) .nil)))) (.var 2)) (.cons (.call "_law_top" (.cons (.var 1) .nil)) .nil))))
    .nil) .nil)
    (.cons (.ite (.cmp .Eq (.var 2) (.int 3)) (.cons (.ret (.call "_law_top" (.cons (.var 1) .nil)))
    .nil) .nil)
    (.cons (.ret (.bin .Mod (.bi .int (.cons (.call "_law_take" (.cons (.var 0) (.cons (.int 65536) .nil))) .nil)) (.bin .LShift (.int 1) (.var 1))))
    .nil))))
def d__law_word : Df := ⟨2, 3, b__law_word⟩
abbrev s__law_word : Stmt := top 13
/-! _law_expression(p, depth): p 0 depth 1 draw 2 k 3 op 4 -/
def b__law_expression : Ss :=
    (.cons (.asg (.nm 2) (.sub (.var 0) (.str "draw")))
    (.cons (.asg (.nm 3) (.call "_law_take" (.cons (.var 2) (.cons (.int 10) .nil))))
    (.cons (.ite (.or (.cmp .Eq (.var 1) (.int 0)) (.cmp .Lt (.var 3) (.int 4))) (.cons (.ite (.cmp .Eq (.call "_law_take" (.cons (.var 2) (.cons (.int 3) .nil))) (.int 0)) (.cons (.ret (.tup (.cons (.str "int") (.cons (.call "_law_word" (.cons (.var 2) (.cons (.sub (.var 0) (.str "width")) .nil))) .nil))))
    .nil) .nil)
    (.cons (.ret (.tup (.cons (.str "var") (.cons (.sub (.sub (.var 0) (.str "variables")) (.call "_law_take" (.cons (.var 2) (.cons (.bi .len (.cons (.sub (.var 0) (.str "variables")) .nil)) .nil)))) .nil))))
    .nil)) .nil)
    (.cons (.ite (.cmp .Eq (.var 3) (.int 4)) (.cons (.ret (.tup (.cons (.str "load") (.cons (.call "_law_expression" (.cons (.var 0) (.cons (.bin .Sub (.var 1) (.int 1)) .nil))) .nil))))
    .nil) .nil)
    (.cons (.ite (.cmp .Eq (.var 3) (.int 5)) (.cons (.ret (.tup (.cons (.sub (.lst (.cons (.str "not") (.cons (.str "neg") .nil))) (.call "_law_take" (.cons (.var 2) (.cons (.int 2) .nil)))) (.cons (.call "_law_expression" (.cons (.var 0) (.cons (.bin .Sub (.var 1) (.int 1)) .nil))) .nil))))
    .nil) .nil)
    (.cons (.asg (.nm 4) (.sub (.call "_law_pairs" .nil) (.sub (.lst (.cons (.int 0) (.cons (.int 0) (.cons (.int 1) (.cons (.int 2) (.cons (.int 3) (.cons (.int 4) (.cons (.int 5) (.cons (.int 6) (.cons (.int 7) (.cons (.int 8) (.cons (.int 9) (.cons (.int 0) .nil))))))))))))) (.call "_law_take" (.cons (.var 2) (.cons (.int 12) .nil))))))
    (.cons (.ret (.tup (.cons (.var 4) (.cons (.call "_law_expression" (.cons (.var 0) (.cons (.bin .Sub (.var 1) (.int 1)) .nil))) (.cons (.call "_law_expression" (.cons (.var 0) (.cons (.bin .Sub (.var 1) (.int 1)) .nil))) .nil)))))
    .nil)))))))
def d__law_expression : Df := ⟨2, 5, b__law_expression⟩
abbrev s__law_expression : Stmt := top 14
/-! _law_statement(p): p 0 draw 1 k 2 -/
def b__law_statement : Ss :=
    (.cons (.asg (.nm 1) (.sub (.var 0) (.str "draw")))
    (.cons (.asg (.nm 2) (.call "_law_take" (.cons (.var 1) (.cons (.int 8) .nil))))
    (.cons (.ite (.cmp .Lt (.var 2) (.int 5)) (.cons (.ret (.tup (.cons (.str "set") (.cons (.sub (.sub (.var 0) (.str "variables")) (.call "_law_take" (.cons (.var 1) (.cons (.bi .len (.cons (.sub (.var 0) (.str "variables")) .nil)) .nil)))) (.cons (.call "_law_expression" (.cons (.var 0) (.cons (.int 2) .nil))) .nil)))))
    .nil) .nil)
    (.cons (.ite (.cmp .Lt (.var 2) (.int 7)) (.cons (.ret (.tup (.cons (.str "write") (.cons (.call "_law_expression" (.cons (.var 0) (.cons (.int 2) .nil))) .nil))))
    .nil) .nil)
    (.cons (.ret (.tup (.cons (.str "store") (.cons (.call "_law_expression" (.cons (.var 0) (.cons (.int 1) .nil))) (.cons (.call "_law_expression" (.cons (.var 0) (.cons (.int 2) .nil))) .nil)))))
    .nil)))))
def d__law_statement : Df := ⟨1, 3, b__law_statement⟩
abbrev s__law_statement : Stmt := top 15
/-! _law_function(draw, blocks, most): draw 0 blocks 1 most 2 width 3 params 4 variables 5 p 6 count 7 labels 8 rows 9 k 10 body 11 what 12 later 13 end 14 other 15 j 16 -/
def b__law_function : Ss :=
    (.cons (.asg (.nm 3) (.sub (.lst (.cons (.int 1) (.cons (.int 2) (.cons (.int 3) (.cons (.int 4) (.cons (.int 8) (.cons (.int 16) (.cons (.bin .Add (.int 1) (.call "_law_take" (.cons (.var 0) (.cons (.int 16) .nil)))) .nil)))))))) (.call "_law_take" (.cons (.var 0) (.cons (.int 7) .nil)))))
    (.cons (.asg (.nm 4) (.sub (.lst (.cons (.int 0) (.cons (.int 1) (.cons (.int 2) (.cons (.int 3) (.cons (.call "_law_take" (.cons (.var 0) (.cons (.int 7) .nil))) .nil)))))) (.call "_law_take" (.cons (.var 0) (.cons (.int 5) .nil)))))
    (.cons (.asg (.nm 5) (.slc (.sub (.lst (.cons (.lst (.cons (.int 0) (.cons (.int 1) (.cons (.int 2) (.cons (.int 3) (.cons (.int 7) (.cons (.int 40) .nil))))))) (.cons (.lst (.cons (.int 0) (.cons (.int 1) (.cons (.int 53) (.cons (.int 3) (.cons (.int 4) (.cons (.int 5) (.cons (.int 99) .nil)))))))) .nil))) (.call "_law_take" (.cons (.var 0) (.cons (.int 2) .nil)))) .none (.some (.bin .Add (.int 2) (.call "_law_take" (.cons (.var 0) (.cons (.int 6) .nil)))))))
    (.cons (.asg (.nm 6) (.dic (.cons (.str "draw") (.var 0) (.cons (.str "width") (.var 3) (.cons (.str "variables") (.var 5) .nil)))))
    (.cons (.asg (.nm 7) (.bin .Add (.int 1) (.call "_law_take" (.cons (.var 0) (.cons (.var 1) .nil)))))
    (.cons (.asg (.nm 8) (.lc (.bin .Add (.int 3) (.bin .Mult (.int 5) (.var 10))) (.nm 10) (.rng (.cons (.var 7) .nil)) .nil [10]))
    (.cons (.ite (.cmp .Eq (.call "_law_take" (.cons (.var 0) (.cons (.int 3) .nil))) (.int 0)) (.cons (.asg (.nm 8) (.lc (.sub (.var 8) (.bin .Sub (.bin .Sub (.var 7) (.int 1)) (.var 10))) (.nm 10) (.rng (.cons (.var 7) .nil)) .nil [10]))
    .nil) .nil)
    (.cons (.asg (.nm 9) (.lst .nil))
    (.cons (.frr (.nm 10) (.rng (.cons (.var 7) .nil)) (.cons (.asg (.nm 11) (.lc (.call "_law_statement" (.cons (.var 6) .nil)) (.nm 16) (.rng (.cons (.call "_law_take" (.cons (.var 0) (.cons (.bin .Add (.var 2) (.int 1)) .nil))) .nil)) .nil [16]))
    (.cons (.asg (.nm 12) (.call "_law_take" (.cons (.var 0) (.cons (.int 4) .nil))))
    (.cons (.asg (.nm 13) (.slc (.var 8) (.some (.bin .Add (.var 10) (.int 1))) .none))
    (.cons (.ite (.or (.cmp .Eq (.var 13) (.lst .nil)) (.cmp .Eq (.var 12) (.int 0))) (.cons (.asg (.nm 14) (.tup (.cons (.str "return") (.cons (.call "_law_expression" (.cons (.var 6) (.cons (.int 1) .nil))) .nil))))
    .nil) (.cons (.ite (.cmp .Eq (.var 12) (.int 1)) (.cons (.asg (.nm 14) (.tup (.cons (.str "go") (.cons (.sub (.var 13) (.call "_law_take" (.cons (.var 0) (.cons (.bi .len (.cons (.var 13) .nil)) .nil)))) .nil))))
    .nil) (.cons (.asg (.nm 15) (.ite (.cmp .Eq (.call "_law_take" (.cons (.var 0) (.cons (.int 3) .nil))) (.int 0)) (.sub (.slc (.var 8) (.some (.int 1)) .none) (.call "_law_take" (.cons (.var 0) (.cons (.bin .Sub (.var 7) (.int 1)) .nil)))) (.sub (.var 13) (.call "_law_take" (.cons (.var 0) (.cons (.bi .len (.cons (.var 13) .nil)) .nil))))))
    (.cons (.asg (.nm 14) (.tup (.cons (.str "if") (.cons (.call "_law_expression" (.cons (.var 6) (.cons (.int 2) .nil))) (.cons (.var 15) (.cons (.sub (.var 13) (.call "_law_take" (.cons (.var 0) (.cons (.bi .len (.cons (.var 13) .nil)) .nil)))) .nil))))))
    .nil)))
    .nil))
    (.cons (.ex (.mt .append (.var 9) (.cons (.tup (.cons (.sub (.var 8) (.var 10)) (.cons (.bi .tuple (.cons (.var 11) .nil)) (.cons (.var 14) .nil)))) .nil)))
    .nil))))))
    (.cons (.ret (.tup (.cons (.var 3) (.cons (.var 4) (.cons (.bi .tuple (.cons (.var 9) .nil)) .nil)))))
    .nil))))))))))
def d__law_function : Df := ⟨3, 17, b__law_function⟩
abbrev s__law_function : Stmt := top 16
/-! _law_rule(draw, name, result, pattern): draw 0 name 1 result 2 pattern 3 least 4 cost 5 -/
def b__law_rule : Ss :=
    (.cons (.asg (.nm 4) (.ite (.or (.cmp .Eq (.bi .len (.cons (.var 3) .nil)) (.int 1)) (.cmp .Eq (.sub (.var 3) (.int 0)) (.str "nt"))) (.int 1) (.int 0)))
    (.cons (.asg (.nm 5) (.bi .max (.cons (.var 4) (.cons (.sub (.lst (.cons (.int 1) (.cons (.int 1) (.cons (.int 2) (.cons (.int 3) (.cons (.int 0) (.cons (.int 9) .nil))))))) (.call "_law_take" (.cons (.var 0) (.cons (.int 6) .nil)))) .nil))))
    (.cons (.ite (.cmp .NotIn (.var 2) (.lst (.cons (.str "reg") (.cons (.str "") .nil)))) (.cons (.ret (.tup (.cons (.var 1) (.cons (.var 2) (.cons (.var 3) (.cons (.var 5) (.cons (.int 1) (.cons (.int 0) (.cons (.tup .nil) .nil)))))))))
    .nil) .nil)
    (.cons (.ret (.tup (.cons (.var 1) (.cons (.var 2) (.cons (.var 3) (.cons (.var 5) (.cons (.sub (.lst (.cons (.int 1) (.cons (.int 1) (.cons (.int 2) (.cons (.int 4) .nil))))) (.call "_law_take" (.cons (.var 0) (.cons (.int 4) .nil)))) (.cons (.call "_law_take" (.cons (.var 0) (.cons (.int 3) .nil))) (.cons (.tup .nil) .nil)))))))))
    .nil))))
def d__law_rule : Df := ⟨4, 6, b__law_rule⟩
abbrev s__law_rule : Stmt := top 17
/-! _law_machine(draw, width): draw 0 width 1 reg 2 rows 3 op 4 addr 5 small 6 more 7 row 8 gone 9 rules 10 registers 11 k 12 rule 13 -/
def b__law_machine : Ss :=
    (.cons (.asg (.nm 2) (.tup (.cons (.str "reg") .nil)))
    (.cons (.asg (.nm 3) (.lst (.cons (.tup (.cons (.str "lit") (.cons (.str "reg") (.cons (.tup (.cons (.str "imm") (.cons (.int 0) (.cons (.int 65535) .nil)))) .nil)))) (.cons (.tup (.cons (.str "ld") (.cons (.str "reg") (.cons (.tup (.cons (.str "load") (.cons (.var 2) .nil))) .nil)))) (.cons (.tup (.cons (.str "st") (.cons (.str "") (.cons (.tup (.cons (.str "store") (.cons (.var 2) (.cons (.var 2) .nil)))) .nil)))) (.cons (.tup (.cons (.str "out") (.cons (.str "") (.cons (.tup (.cons (.str "write") (.cons (.var 2) .nil))) .nil)))) (.cons (.tup (.cons (.str "ret") (.cons (.str "") (.cons (.tup (.cons (.str "return") (.cons (.var 2) .nil))) .nil)))) (.cons (.tup (.cons (.str "br") (.cons (.str "") (.cons (.tup (.cons (.str "branch") (.cons (.var 2) .nil))) .nil)))) (.cons (.tup (.cons (.str "inv") (.cons (.str "reg") (.cons (.tup (.cons (.str "not") (.cons (.var 2) .nil))) .nil)))) (.cons (.tup (.cons (.str "min") (.cons (.str "reg") (.cons (.tup (.cons (.str "neg") (.cons (.var 2) .nil))) .nil)))) .nil))))))))))
    (.cons (.frr (.nm 4) (.ex (.call "_law_pairs" .nil)) (.cons (.ex (.mt .append (.var 3) (.cons (.tup (.cons (.bin .Add (.str "x") (.var 4)) (.cons (.str "reg") (.cons (.tup (.cons (.var 4) (.cons (.var 2) (.cons (.var 2) .nil)))) .nil)))) .nil)))
    .nil))
    (.cons (.asg (.nm 5) (.tup (.cons (.str "nt") (.cons (.str "addr") .nil))))
    (.cons (.asg (.nm 6) (.tup (.cons (.str "nt") (.cons (.str "small") .nil))))
    (.cons (.asg (.nm 7) (.lst (.cons (.tup (.cons (.str "addi") (.cons (.str "reg") (.cons (.tup (.cons (.str "add") (.cons (.var 2) (.cons (.tup (.cons (.str "imm") (.cons (.neg (.int 8)) (.cons (.int 7) .nil)))) .nil)))) .nil)))) (.cons (.tup (.cons (.str "base") (.cons (.str "addr") (.cons (.var 2) .nil)))) (.cons (.tup (.cons (.str "disp") (.cons (.str "addr") (.cons (.tup (.cons (.str "add") (.cons (.var 2) (.cons (.tup (.cons (.str "imm") (.cons (.int 0) (.cons (.int 15) .nil)))) .nil)))) .nil)))) (.cons (.tup (.cons (.str "index") (.cons (.str "addr") (.cons (.tup (.cons (.str "add") (.cons (.var 2) (.cons (.var 2) .nil)))) .nil)))) (.cons (.tup (.cons (.str "ldx") (.cons (.str "reg") (.cons (.tup (.cons (.str "load") (.cons (.var 5) .nil))) .nil)))) (.cons (.tup (.cons (.str "stx") (.cons (.str "") (.cons (.tup (.cons (.str "store") (.cons (.var 5) (.cons (.var 2) .nil)))) .nil)))) (.cons (.tup (.cons (.str "brl") (.cons (.str "") (.cons (.tup (.cons (.str "branch") (.cons (.tup (.cons (.str "less") (.cons (.var 2) (.cons (.var 2) .nil)))) .nil))) .nil)))) (.cons (.tup (.cons (.str "mac") (.cons (.str "reg") (.cons (.tup (.cons (.str "add") (.cons (.var 2) (.cons (.tup (.cons (.str "mul") (.cons (.var 2) (.cons (.var 2) .nil)))) .nil)))) .nil)))) (.cons (.tup (.cons (.str "stz") (.cons (.str "") (.cons (.tup (.cons (.str "store") (.cons (.var 2) (.cons (.tup (.cons (.str "imm") (.cons (.int 0) (.cons (.int 0) .nil)))) .nil)))) .nil)))) (.cons (.tup (.cons (.str "nand") (.cons (.str "reg") (.cons (.tup (.cons (.str "not") (.cons (.tup (.cons (.str "and") (.cons (.var 2) (.cons (.var 2) .nil)))) .nil))) .nil)))) (.cons (.tup (.cons (.str "tiny") (.cons (.str "small") (.cons (.tup (.cons (.str "imm") (.cons (.int 0) (.cons (.int 3) .nil)))) .nil)))) (.cons (.tup (.cons (.str "vary") (.cons (.str "small") (.cons (.var 2) .nil)))) (.cons (.tup (.cons (.str "shs") (.cons (.str "reg") (.cons (.tup (.cons (.str "shl") (.cons (.var 2) (.cons (.var 6) .nil)))) .nil)))) (.cons (.tup (.cons (.str "subs") (.cons (.str "reg") (.cons (.tup (.cons (.str "sub") (.cons (.var 2) (.cons (.var 6) .nil)))) .nil)))) (.cons (.tup (.cons (.str "retx") (.cons (.str "") (.cons (.tup (.cons (.str "return") (.cons (.tup (.cons (.str "add") (.cons (.var 2) (.cons (.var 6) .nil)))) .nil))) .nil)))) (.cons (.tup (.cons (.str "deep") (.cons (.str "addr") (.cons (.tup (.cons (.str "load") (.cons (.var 5) .nil))) .nil)))) (.cons (.tup (.cons (.str "lea") (.cons (.str "reg") (.cons (.var 5) .nil)))) (.cons (.tup (.cons (.str "outx") (.cons (.str "") (.cons (.tup (.cons (.str "write") (.cons (.tup (.cons (.str "load") (.cons (.var 5) .nil))) .nil))) .nil)))) .nil))))))))))))))))))))
    (.cons (.frr (.nm 8) (.ex (.var 7)) (.cons (.ite (.cmp .Eq (.call "_law_take" (.cons (.var 0) (.cons (.int 2) .nil))) (.int 0)) (.cons (.ex (.mt .append (.var 3) (.cons (.var 8) .nil)))
    .nil) .nil)
    .nil))
    (.cons (.ite (.cmp .Eq (.call "_law_take" (.cons (.var 0) (.cons (.int 6) .nil))) (.int 0)) (.cons (.asg (.nm 9) (.call "_law_take" (.cons (.var 0) (.cons (.bi .len (.cons (.var 3) .nil)) .nil))))
    (.cons (.asg (.nm 3) (.bin .Add (.slc (.var 3) .none (.some (.var 9))) (.slc (.var 3) (.some (.bin .Add (.var 9) (.int 1))) .none)))
    .nil)) .nil)
    (.cons (.asg (.nm 10) (.lc (.call "_law_rule" (.cons (.var 0) (.cons (.sub (.var 8) (.int 0)) (.cons (.sub (.var 8) (.int 1)) (.cons (.sub (.var 8) (.int 2)) .nil))))) (.nm 8) (.ex (.var 3)) .nil [8]))
    (.cons (.ite (.cmp .Eq (.call "_law_take" (.cons (.var 0) (.cons (.int 3) .nil))) (.int 0)) (.cons (.asg (.nm 10) (.lc (.sub (.var 10) (.bin .Sub (.bin .Sub (.bi .len (.cons (.var 10) .nil)) (.int 1)) (.var 12))) (.nm 12) (.rng (.cons (.bi .len (.cons (.var 10) .nil)) .nil)) .nil [12]))
    .nil) .nil)
    (.cons (.asg (.nm 11) (.bin .Add (.int 7) (.call "_law_take" (.cons (.var 0) (.cons (.int 10) .nil)))))
    (.cons (.ite (.cmp .Eq (.call "_law_take" (.cons (.var 0) (.cons (.int 3) .nil))) (.int 0)) (.cons (.asg (.nm 10) (.lc (.call "_law_tied" (.cons (.var 0) (.cons (.var 13) (.cons (.var 11) .nil)))) (.nm 13) (.ex (.var 10)) .nil [13]))
    .nil) .nil)
    (.cons (.ret (.tup (.cons (.var 1) (.cons (.var 11) (.cons (.sub (.lst (.cons (.int 64) (.cons (.int 64) (.cons (.int 3) .nil)))) (.call "_law_take" (.cons (.var 0) (.cons (.int 3) .nil)))) (.cons (.tup (.cons (.int 1) (.cons (.sub (.lst (.cons (.int 2) (.cons (.int 3) .nil))) (.call "_law_take" (.cons (.var 0) (.cons (.int 2) .nil)))) (.cons (.int 2) .nil)))) (.cons (.bi .tuple (.cons (.var 10) .nil)) .nil)))))))
    .nil)))))))))))))
def d__law_machine : Df := ⟨2, 14, b__law_machine⟩
abbrev s__law_machine : Stmt := top 18
/-! _law_tied(draw, rule, registers): draw 0 rule 1 registers 2 ties 3 -/
def b__law_tied : Ss :=
    (.cons (.ite (.or (.cmp .NotEq (.sub (.var 1) (.int 1)) (.str "reg")) (.or (.cmp .NotIn (.sub (.sub (.var 1) (.int 2)) (.int 0)) (.call "_law_pairs" .nil)) (.or (.cmp .NotEq (.sub (.sub (.var 1) (.int 2)) (.int 1)) (.tup (.cons (.str "reg") .nil))) (.cmp .Gt (.call "_law_take" (.cons (.var 0) (.cons (.int 3) .nil))) (.int 0))))) (.cons (.ret (.var 1))
    .nil) .nil)
    (.cons (.asg (.nm 3) (.sub (.lst (.cons (.tup (.cons (.tup (.cons (.str "same") (.cons (.int 0) .nil))) .nil)) (.cons (.tup (.cons (.tup (.cons (.str "result") (.cons (.call "_law_take" (.cons (.var 0) (.cons (.var 2) .nil))) .nil))) .nil)) (.cons (.tup (.cons (.tup (.cons (.str "needs") (.cons (.int 0) (.cons (.call "_law_take" (.cons (.var 0) (.cons (.var 2) .nil))) .nil)))) .nil)) (.cons (.tup (.cons (.tup (.cons (.str "same") (.cons (.int 0) .nil))) (.cons (.tup (.cons (.str "result") (.cons (.call "_law_take" (.cons (.var 0) (.cons (.var 2) .nil))) .nil))) .nil))) .nil))))) (.call "_law_take" (.cons (.var 0) (.cons (.int 4) .nil)))))
    (.cons (.ret (.bin .Add (.slc (.var 1) .none (.some (.int 6))) (.tup (.cons (.var 3) .nil))))
    .nil)))
def d__law_tied : Df := ⟨3, 4, b__law_tied⟩
abbrev s__law_tied : Stmt := top 19
/-! _law_inputs(draw, function): draw 0 function 1 k 2 -/
def b__law_inputs : Ss :=
    (.cons (.ret (.bi .tuple (.cons (.lc (.call "_law_word" (.cons (.var 0) (.cons (.sub (.var 1) (.int 0)) .nil))) (.nm 2) (.rng (.cons (.sub (.var 1) (.int 1)) .nil)) .nil [2]) .nil)))
    .nil)
def d__law_inputs : Df := ⟨2, 3, b__law_inputs⟩
abbrev s__law_inputs : Stmt := top 20
/-! _law_names(e): e 0 found 1 part 2 -/
def b__law_names : Ss :=
    (.cons (.ite (.cmp .Eq (.sub (.var 0) (.int 0)) (.str "var")) (.cons (.ret (.lst (.cons (.sub (.var 0) (.int 1)) .nil)))
    .nil) .nil)
    (.cons (.asg (.nm 1) (.lst .nil))
    (.cons (.frr (.nm 2) (.ex (.slc (.var 0) (.some (.int 1)) .none)) (.cons (.ite (.e (.isi .tuple (.var 2))) (.cons (.asg (.nm 1) (.bin .Add (.var 1) (.call "_law_names" (.cons (.var 2) .nil))))
    .nil) .nil)
    .nil))
    (.cons (.ret (.var 1))
    .nil))))
def d__law_names : Df := ⟨1, 3, b__law_names⟩
abbrev s__law_names : Stmt := top 21
/-! _law_ends(block): block 0 end 1 rows 2 -/
def b__law_ends : Ss :=
    (.cons (.asg (.nm 1) (.sub (.var 0) (.int 2)))
    (.cons (.asg (.nm 2) (.ite (.cmp .Eq (.sub (.var 1) (.int 0)) (.str "go")) (.lst (.cons (.sub (.var 1) (.int 1)) .nil)) (.ite (.cmp .Eq (.sub (.var 1) (.int 0)) (.str "if")) (.lst (.cons (.sub (.var 1) (.int 2)) (.cons (.sub (.var 1) (.int 3)) .nil))) (.lst .nil))))
    (.cons (.ret (.ite (.and (.cmp .Eq (.bi .len (.cons (.var 2) .nil)) (.int 2)) (.cmp .Eq (.sub (.var 2) (.int 0)) (.sub (.var 2) (.int 1)))) (.slc (.var 2) .none (.some (.int 1))) (.var 2)))
    .nil)))
def d__law_ends : Df := ⟨1, 3, b__law_ends⟩
abbrev s__law_ends : Stmt := top 22
/-! _law_first(block, v): block 0 v 1 s 2 parts 3 part 4 -/
def b__law_first : Ss :=
    (.cons (.frr (.nm 2) (.ex (.sub (.var 0) (.int 1))) (.cons (.asg (.nm 3) (.ite (.cmp .Eq (.sub (.var 2) (.int 0)) (.str "set")) (.slc (.var 2) (.some (.int 2)) .none) (.slc (.var 2) (.some (.int 1)) .none)))
    (.cons (.ite (.cmp .NotEq (.lc (.var 4) (.nm 4) (.ex (.var 3)) (.cons (.cmp .In (.var 1) (.call "_law_names" (.cons (.var 4) .nil))) .nil) [4]) (.lst .nil)) (.cons (.ret (.str "use"))
    .nil) .nil)
    (.cons (.ite (.and (.cmp .Eq (.sub (.var 2) (.int 0)) (.str "set")) (.cmp .Eq (.sub (.var 2) (.int 1)) (.var 1))) (.cons (.ret (.str "set"))
    .nil) .nil)
    .nil))))
    (.cons (.ite (.and (.cmp .In (.sub (.sub (.var 0) (.int 2)) (.int 0)) (.lst (.cons (.str "if") (.cons (.str "return") .nil)))) (.cmp .In (.var 1) (.call "_law_names" (.cons (.sub (.sub (.var 0) (.int 2)) (.int 1)) .nil)))) (.cons (.ret (.str "use"))
    .nil) .nil)
    (.cons (.ret (.str "nothing"))
    .nil)))
def d__law_first : Df := ⟨2, 5, b__law_first⟩
abbrev s__law_first : Stmt := top 23
/-! _law_is_live(function, label, v): function 0 label 1 v 2 seen 3 row 4 here 5 block 6 first 7 other 8 -/
def b__law_is_live : Ss :=
    (.cons (.asg (.nm 3) (.lst .nil))
    (.cons (.asg (.nm 4) (.lst (.cons (.var 1) .nil)))
    (.cons (.whl (.cmp .NotEq (.var 4) (.lst .nil)) (.cons (.asg (.nm 5) (.sub (.var 4) (.int 0)))
    (.cons (.asg (.nm 4) (.slc (.var 4) (.some (.int 1)) .none))
    (.cons (.ite (.cmp .NotIn (.var 5) (.var 3)) (.cons (.ex (.mt .append (.var 3) (.cons (.var 5) .nil)))
    (.cons (.asg (.nm 6) (.sub (.lc (.var 8) (.nm 8) (.ex (.sub (.var 0) (.int 2))) (.cons (.cmp .Eq (.sub (.var 8) (.int 0)) (.var 5)) .nil) [8]) (.int 0)))
    (.cons (.asg (.nm 7) (.call "_law_first" (.cons (.var 6) (.cons (.var 2) .nil))))
    (.cons (.ite (.cmp .Eq (.var 7) (.str "use")) (.cons (.ret (.bl true))
    .nil) .nil)
    (.cons (.ite (.cmp .Eq (.var 7) (.str "nothing")) (.cons (.asg (.nm 4) (.bin .Add (.var 4) (.call "_law_ends" (.cons (.var 6) .nil))))
    .nil) .nil)
    .nil))))) .nil)
    .nil))))
    (.cons (.ret (.bl false))
    .nil))))
def d__law_is_live : Df := ⟨3, 9, b__law_is_live⟩
abbrev s__law_is_live : Stmt := top 24
/-! law(script): script 0 draw 1 function 2 every 3 block 4 s 5 part 6 names 7 due 8 live 9 k 10 v 11 -/
def b_law : Ss :=
    (.cons (.asg (.nm 1) (.call "_law_draw" (.cons (.var 0) .nil)))
    (.cons (.asg (.nm 2) (.call "_law_function" (.cons (.var 1) (.cons (.int 6) (.cons (.int 4) .nil)))))
    (.cons (.asg (.nm 3) (.lst .nil))
    (.cons (.frr (.nm 4) (.ex (.sub (.var 2) (.int 2))) (.cons (.ite (.cmp .NotEq (.call "successors" (.cons (.var 4) .nil)) (.bi .tuple (.cons (.call "_law_ends" (.cons (.var 4) .nil)) .nil))) (.cons (.ret (.bl false))
    .nil) .nil)
    (.cons (.frr (.nm 5) (.ex (.bin .Add (.sub (.var 4) (.int 1)) (.tup (.cons (.sub (.var 4) (.int 2)) .nil)))) (.cons (.frr (.nm 6) (.ex (.slc (.var 5) (.some (.int 1)) .none)) (.cons (.ite (.e (.isi .tuple (.var 6))) (.cons (.asg (.nm 7) (.bi .sorted (.cons (.call "_law_names" (.cons (.var 6) .nil)) .nil)))
    (.cons (.ite (.cmp .NotEq (.call "uses" (.cons (.var 6) .nil)) (.bi .tuple (.cons (.lc (.sub (.var 7) (.var 10)) (.nm 10) (.rng (.cons (.bi .len (.cons (.var 7) .nil)) .nil)) (.cons (.or (.cmp .Eq (.var 10) (.int 0)) (.cmp .NotEq (.sub (.var 7) (.var 10)) (.sub (.var 7) (.bin .Sub (.var 10) (.int 1))))) .nil) [10]) .nil))) (.cons (.ret (.bl false))
    .nil) .nil)
    (.cons (.asg (.nm 3) (.bin .Add (.var 3) (.var 7)))
    .nil))) .nil)
    .nil))
    .nil))
    .nil)))
    (.cons (.asg (.nm 8) (.lst .nil))
    (.cons (.frr (.nm 4) (.ex (.sub (.var 2) (.int 2))) (.cons (.asg (.nm 9) (.lc (.var 11) (.nm 11) (.rng (.cons (.int 100) .nil)) (.cons (.and (.cmp .In (.var 11) (.var 3)) (.e (.call "_law_is_live" (.cons (.var 2) (.cons (.sub (.var 4) (.int 0)) (.cons (.var 11) .nil)))))) .nil) [11]))
    (.cons (.ex (.mt .append (.var 8) (.cons (.tup (.cons (.sub (.var 4) (.int 0)) (.cons (.bi .tuple (.cons (.var 9) .nil)) .nil))) .nil)))
    .nil)))
    (.cons (.ret (.cmp .Eq (.call "live_in" (.cons (.var 2) .nil)) (.var 8)))
    .nil)))))))
def d_law : Df := ⟨1, 12, b_law⟩
abbrev s_law : Stmt := top 25
def T (f : Str) : Option Df :=
  if f = "targets" then some d_targets else if f = "successors" then some d_successors else if f = "collect" then some d_collect else if f = "uses" then some d_uses else if f = "used_and_set" then some d_used_and_set else if f = "live_in" then some d_live_in else if f = "_law_draw" then some d__law_draw else if f = "_law_take" then some d__law_take else if f = "_law_top" then some d__law_top else if f = "_law_compute" then some d__law_compute else if f = "_law_pairs" then some d__law_pairs else if f = "_law_word" then some d__law_word else if f = "_law_expression" then some d__law_expression else if f = "_law_statement" then some d__law_statement else if f = "_law_function" then some d__law_function else if f = "_law_rule" then some d__law_rule else if f = "_law_machine" then some d__law_machine else if f = "_law_tied" then some d__law_tied else if f = "_law_inputs" then some d__law_inputs else if f = "_law_names" then some d__law_names else if f = "_law_ends" then some d__law_ends else if f = "_law_first" then some d__law_first else if f = "_law_is_live" then some d__law_is_live else if f = "law" then some d_law else none
theorem T_targets : T "targets" = some d_targets := by unfold T; rw [if_pos rfl]
theorem T_successors : T "successors" = some d_successors := by unfold T; rw [if_neg (by decide), if_pos rfl]
theorem T_collect : T "collect" = some d_collect := by unfold T; rw [if_neg (by decide), if_neg (by decide), if_pos rfl]
theorem T_uses : T "uses" = some d_uses := by unfold T; rw [if_neg (by decide), if_neg (by decide), if_neg (by decide), if_pos rfl]
theorem T_used_and_set : T "used_and_set" = some d_used_and_set := by unfold T; rw [if_neg (by decide), if_neg (by decide), if_neg (by decide), if_neg (by decide), if_pos rfl]
theorem T_live_in : T "live_in" = some d_live_in := by unfold T; rw [if_neg (by decide), if_neg (by decide), if_neg (by decide), if_neg (by decide), if_neg (by decide), if_pos rfl]
theorem T__law_draw : T "_law_draw" = some d__law_draw := by unfold T; rw [if_neg (by decide), if_neg (by decide), if_neg (by decide), if_neg (by decide), if_neg (by decide), if_neg (by decide), if_pos rfl]
theorem T__law_take : T "_law_take" = some d__law_take := by unfold T; rw [if_neg (by decide), if_neg (by decide), if_neg (by decide), if_neg (by decide), if_neg (by decide), if_neg (by decide), if_neg (by decide), if_pos rfl]
theorem T__law_top : T "_law_top" = some d__law_top := by unfold T; rw [if_neg (by decide), if_neg (by decide), if_neg (by decide), if_neg (by decide), if_neg (by decide), if_neg (by decide), if_neg (by decide), if_neg (by decide), if_pos rfl]
theorem T__law_compute : T "_law_compute" = some d__law_compute := by unfold T; rw [if_neg (by decide), if_neg (by decide), if_neg (by decide), if_neg (by decide), if_neg (by decide), if_neg (by decide), if_neg (by decide), if_neg (by decide), if_neg (by decide), if_pos rfl]
theorem T__law_pairs : T "_law_pairs" = some d__law_pairs := by unfold T; rw [if_neg (by decide), if_neg (by decide), if_neg (by decide), if_neg (by decide), if_neg (by decide), if_neg (by decide), if_neg (by decide), if_neg (by decide), if_neg (by decide), if_neg (by decide), if_pos rfl]
theorem T__law_word : T "_law_word" = some d__law_word := by unfold T; rw [if_neg (by decide), if_neg (by decide), if_neg (by decide), if_neg (by decide), if_neg (by decide), if_neg (by decide), if_neg (by decide), if_neg (by decide), if_neg (by decide), if_neg (by decide), if_neg (by decide), if_pos rfl]
theorem T__law_expression : T "_law_expression" = some d__law_expression := by unfold T; rw [if_neg (by decide), if_neg (by decide), if_neg (by decide), if_neg (by decide), if_neg (by decide), if_neg (by decide), if_neg (by decide), if_neg (by decide), if_neg (by decide), if_neg (by decide), if_neg (by decide), if_neg (by decide), if_pos rfl]
theorem T__law_statement : T "_law_statement" = some d__law_statement := by unfold T; rw [if_neg (by decide), if_neg (by decide), if_neg (by decide), if_neg (by decide), if_neg (by decide), if_neg (by decide), if_neg (by decide), if_neg (by decide), if_neg (by decide), if_neg (by decide), if_neg (by decide), if_neg (by decide), if_neg (by decide), if_pos rfl]
theorem T__law_function : T "_law_function" = some d__law_function := by unfold T; rw [if_neg (by decide), if_neg (by decide), if_neg (by decide), if_neg (by decide), if_neg (by decide), if_neg (by decide), if_neg (by decide), if_neg (by decide), if_neg (by decide), if_neg (by decide), if_neg (by decide), if_neg (by decide), if_neg (by decide), if_neg (by decide), if_pos rfl]
theorem T__law_rule : T "_law_rule" = some d__law_rule := by unfold T; rw [if_neg (by decide), if_neg (by decide), if_neg (by decide), if_neg (by decide), if_neg (by decide), if_neg (by decide), if_neg (by decide), if_neg (by decide), if_neg (by decide), if_neg (by decide), if_neg (by decide), if_neg (by decide), if_neg (by decide), if_neg (by decide), if_neg (by decide), if_pos rfl]
theorem T__law_machine : T "_law_machine" = some d__law_machine := by unfold T; rw [if_neg (by decide), if_neg (by decide), if_neg (by decide), if_neg (by decide), if_neg (by decide), if_neg (by decide), if_neg (by decide), if_neg (by decide), if_neg (by decide), if_neg (by decide), if_neg (by decide), if_neg (by decide), if_neg (by decide), if_neg (by decide), if_neg (by decide), if_neg (by decide), if_pos rfl]
theorem T__law_tied : T "_law_tied" = some d__law_tied := by unfold T; rw [if_neg (by decide), if_neg (by decide), if_neg (by decide), if_neg (by decide), if_neg (by decide), if_neg (by decide), if_neg (by decide), if_neg (by decide), if_neg (by decide), if_neg (by decide), if_neg (by decide), if_neg (by decide), if_neg (by decide), if_neg (by decide), if_neg (by decide), if_neg (by decide), if_neg (by decide), if_pos rfl]
theorem T__law_inputs : T "_law_inputs" = some d__law_inputs := by unfold T; rw [if_neg (by decide), if_neg (by decide), if_neg (by decide), if_neg (by decide), if_neg (by decide), if_neg (by decide), if_neg (by decide), if_neg (by decide), if_neg (by decide), if_neg (by decide), if_neg (by decide), if_neg (by decide), if_neg (by decide), if_neg (by decide), if_neg (by decide), if_neg (by decide), if_neg (by decide), if_neg (by decide), if_pos rfl]
theorem T__law_names : T "_law_names" = some d__law_names := by unfold T; rw [if_neg (by decide), if_neg (by decide), if_neg (by decide), if_neg (by decide), if_neg (by decide), if_neg (by decide), if_neg (by decide), if_neg (by decide), if_neg (by decide), if_neg (by decide), if_neg (by decide), if_neg (by decide), if_neg (by decide), if_neg (by decide), if_neg (by decide), if_neg (by decide), if_neg (by decide), if_neg (by decide), if_neg (by decide), if_pos rfl]
theorem T__law_ends : T "_law_ends" = some d__law_ends := by unfold T; rw [if_neg (by decide), if_neg (by decide), if_neg (by decide), if_neg (by decide), if_neg (by decide), if_neg (by decide), if_neg (by decide), if_neg (by decide), if_neg (by decide), if_neg (by decide), if_neg (by decide), if_neg (by decide), if_neg (by decide), if_neg (by decide), if_neg (by decide), if_neg (by decide), if_neg (by decide), if_neg (by decide), if_neg (by decide), if_neg (by decide), if_pos rfl]
theorem T__law_first : T "_law_first" = some d__law_first := by unfold T; rw [if_neg (by decide), if_neg (by decide), if_neg (by decide), if_neg (by decide), if_neg (by decide), if_neg (by decide), if_neg (by decide), if_neg (by decide), if_neg (by decide), if_neg (by decide), if_neg (by decide), if_neg (by decide), if_neg (by decide), if_neg (by decide), if_neg (by decide), if_neg (by decide), if_neg (by decide), if_neg (by decide), if_neg (by decide), if_neg (by decide), if_neg (by decide), if_pos rfl]
theorem T__law_is_live : T "_law_is_live" = some d__law_is_live := by unfold T; rw [if_neg (by decide), if_neg (by decide), if_neg (by decide), if_neg (by decide), if_neg (by decide), if_neg (by decide), if_neg (by decide), if_neg (by decide), if_neg (by decide), if_neg (by decide), if_neg (by decide), if_neg (by decide), if_neg (by decide), if_neg (by decide), if_neg (by decide), if_neg (by decide), if_neg (by decide), if_neg (by decide), if_neg (by decide), if_neg (by decide), if_neg (by decide), if_neg (by decide), if_pos rfl]
theorem T_law : T "law" = some d_law := by unfold T; rw [if_neg (by decide), if_neg (by decide), if_neg (by decide), if_neg (by decide), if_neg (by decide), if_neg (by decide), if_neg (by decide), if_neg (by decide), if_neg (by decide), if_neg (by decide), if_neg (by decide), if_neg (by decide), if_neg (by decide), if_neg (by decide), if_neg (by decide), if_neg (by decide), if_neg (by decide), if_neg (by decide), if_neg (by decide), if_neg (by decide), if_neg (by decide), if_neg (by decide), if_neg (by decide), if_pos rfl]
def dd (n : Str) (s : Stmt) : He.DefD := ⟨(n, none), n, n, defArgs s, defBody s, defScope s, [], []⟩
def fns : List He.DefD := [dd "targets" s_targets, dd "successors" s_successors, dd "collect" s_collect, dd "uses" s_uses, dd "used_and_set" s_used_and_set, dd "live_in" s_live_in, dd "_law_draw" s__law_draw, dd "_law_take" s__law_take, dd "_law_top" s__law_top, dd "_law_compute" s__law_compute, dd "_law_pairs" s__law_pairs, dd "_law_word" s__law_word, dd "_law_expression" s__law_expression, dd "_law_statement" s__law_statement, dd "_law_function" s__law_function, dd "_law_rule" s__law_rule, dd "_law_machine" s__law_machine, dd "_law_tied" s__law_tied, dd "_law_inputs" s__law_inputs, dd "_law_names" s__law_names, dd "_law_ends" s__law_ends, dd "_law_first" s__law_first, dd "_law_is_live" s__law_is_live, dd "law" s_law]
def fas : List He.Fa := [.glo "targets", .glo "successors", .glo "collect", .glo "uses", .glo "used_and_set", .glo "live_in", .glo "_law_draw", .glo "_law_take", .glo "_law_top", .glo "_law_compute", .glo "_law_pairs", .glo "_law_word", .glo "_law_expression", .glo "_law_statement", .glo "_law_function", .glo "_law_rule", .glo "_law_machine", .glo "_law_tied", .glo "_law_inputs", .glo "_law_names", .glo "_law_ends", .glo "_law_first", .glo "_law_is_live", .glo "law", .free "abs", .free "all", .free "any", .free "bool", .free "dict", .free "int", .free "len", .free "list", .free "max", .free "min", .free "sorted", .free "sum", .free "tuple", .free "isinstance", .free "range", .free "str", .free "reversed", .free "set", .free "repr"]
section
variable {K : Fg} {h : Heap} {mg : Str → Option Value}
theorem chk_targets : chkSs ⟨["end"], defScope s_targets, none⟩ d_targets.body (defBody s_targets) = true := by decide +kernel
theorem sc_targets : FnScope ["end"] ["end"] (defScope s_targets) := ⟨rfl, rfl, rfl, by decide +kernel, rfl, by decide +kernel, by decide +kernel⟩
theorem is_targets (X : K.In h) (G : h.Ns mainGlobals mg) (c : He.SaysD fas fns K) : ∃ fd, DefIs K mg "targets" d_targets "targets" "targets" s_targets (He.fAd K ("targets", none)) fd ["end"] ["end"] ∧ ∀ (s : Shared) (us : List Value), us.length = 1 → BindsTo s fd ⟨us, []⟩ ((["end"] : List Str).zip us) := by
  obtain ⟨fd, F⟩ := c.def_ 0 (d := dd "targets" s_targets) rfl
  exact ⟨fd, ⟨F, He.glo_ok X G (c.fact 0 (f := .glo "targets") rfl), F.bindsN fun _ _ _ _ _ _ us hl => (match us, hl with | [_], _ => rfl), sc_targets, chk_targets, rfl, rfl⟩, fun s us hl => F.bindsA (fun _ _ _ _ _ _ us hl => (match us, hl with | [_], _ => rfl)) s us hl⟩
theorem chk_successors : chkSs ⟨["block", "found"], defScope s_successors, none⟩ d_successors.body (defBody s_successors) = true := by decide +kernel
theorem sc_successors : FnScope ["block", "found"] ["block"] (defScope s_successors) := ⟨rfl, rfl, rfl, by decide +kernel, rfl, by decide +kernel, by decide +kernel⟩
theorem is_successors (X : K.In h) (G : h.Ns mainGlobals mg) (c : He.SaysD fas fns K) : ∃ fd, DefIs K mg "successors" d_successors "successors" "successors" s_successors (He.fAd K ("successors", none)) fd ["block", "found"] ["block"] ∧ ∀ (s : Shared) (us : List Value), us.length = 1 → BindsTo s fd ⟨us, []⟩ ((["block"] : List Str).zip us) := by
  obtain ⟨fd, F⟩ := c.def_ 1 (d := dd "successors" s_successors) rfl
  exact ⟨fd, ⟨F, He.glo_ok X G (c.fact 1 (f := .glo "successors") rfl), F.bindsN fun _ _ _ _ _ _ us hl => (match us, hl with | [_], _ => rfl), sc_successors, chk_successors, rfl, rfl⟩, fun s us hl => F.bindsA (fun _ _ _ _ _ _ us hl => (match us, hl with | [_], _ => rfl)) s us hl⟩
theorem chk_collect : chkSs ⟨["e", "found", "part"], defScope s_collect, none⟩ d_collect.body (defBody s_collect) = true := by decide +kernel
theorem sc_collect : FnScope ["e", "found", "part"] ["e", "found"] (defScope s_collect) := ⟨rfl, rfl, rfl, by decide +kernel, rfl, by decide +kernel, by decide +kernel⟩
theorem is_collect (X : K.In h) (G : h.Ns mainGlobals mg) (c : He.SaysD fas fns K) : ∃ fd, DefIs K mg "collect" d_collect "collect" "collect" s_collect (He.fAd K ("collect", none)) fd ["e", "found", "part"] ["e", "found"] ∧ ∀ (s : Shared) (us : List Value), us.length = 2 → BindsTo s fd ⟨us, []⟩ ((["e", "found"] : List Str).zip us) := by
  obtain ⟨fd, F⟩ := c.def_ 2 (d := dd "collect" s_collect) rfl
  exact ⟨fd, ⟨F, He.glo_ok X G (c.fact 2 (f := .glo "collect") rfl), F.bindsN fun _ _ _ _ _ _ us hl => (match us, hl with | [_, _], _ => rfl), sc_collect, chk_collect, rfl, rfl⟩, fun s us hl => F.bindsA (fun _ _ _ _ _ _ us hl => (match us, hl with | [_, _], _ => rfl)) s us hl⟩
theorem chk_uses : chkSs ⟨["e", "found"], defScope s_uses, none⟩ d_uses.body (defBody s_uses) = true := by decide +kernel
theorem sc_uses : FnScope ["e", "found"] ["e"] (defScope s_uses) := ⟨rfl, rfl, rfl, by decide +kernel, rfl, by decide +kernel, by decide +kernel⟩
theorem is_uses (X : K.In h) (G : h.Ns mainGlobals mg) (c : He.SaysD fas fns K) : ∃ fd, DefIs K mg "uses" d_uses "uses" "uses" s_uses (He.fAd K ("uses", none)) fd ["e", "found"] ["e"] ∧ ∀ (s : Shared) (us : List Value), us.length = 1 → BindsTo s fd ⟨us, []⟩ ((["e"] : List Str).zip us) := by
  obtain ⟨fd, F⟩ := c.def_ 3 (d := dd "uses" s_uses) rfl
  exact ⟨fd, ⟨F, He.glo_ok X G (c.fact 3 (f := .glo "uses") rfl), F.bindsN fun _ _ _ _ _ _ us hl => (match us, hl with | [_], _ => rfl), sc_uses, chk_uses, rfl, rfl⟩, fun s us hl => F.bindsA (fun _ _ _ _ _ _ us hl => (match us, hl with | [_], _ => rfl)) s us hl⟩
theorem chk_used_and_set : chkSs ⟨["block", "used", "done", "statement", "parts", "part", "v"], defScope s_used_and_set, none⟩ d_used_and_set.body (defBody s_used_and_set) = true := by decide +kernel
theorem sc_used_and_set : FnScope ["block", "used", "done", "statement", "parts", "part", "v"] ["block"] (defScope s_used_and_set) := ⟨rfl, rfl, rfl, by decide +kernel, rfl, by decide +kernel, by decide +kernel⟩
theorem is_used_and_set (X : K.In h) (G : h.Ns mainGlobals mg) (c : He.SaysD fas fns K) : ∃ fd, DefIs K mg "used_and_set" d_used_and_set "used_and_set" "used_and_set" s_used_and_set (He.fAd K ("used_and_set", none)) fd ["block", "used", "done", "statement", "parts", "part", "v"] ["block"] ∧ ∀ (s : Shared) (us : List Value), us.length = 1 → BindsTo s fd ⟨us, []⟩ ((["block"] : List Str).zip us) := by
  obtain ⟨fd, F⟩ := c.def_ 4 (d := dd "used_and_set" s_used_and_set) rfl
  exact ⟨fd, ⟨F, He.glo_ok X G (c.fact 4 (f := .glo "used_and_set") rfl), F.bindsN fun _ _ _ _ _ _ us hl => (match us, hl with | [_], _ => rfl), sc_used_and_set, chk_used_and_set, rfl, rfl⟩, fun s us hl => F.bindsA (fun _ _ _ _ _ _ us hl => (match us, hl with | [_], _ => rfl)) s us hl⟩
theorem chk_live_in : chkSs ⟨["function", "rows", "live", "changed", "block", "label", "v"], defScope s_live_in, none⟩ d_live_in.body (defBody s_live_in) = true := by decide +kernel
theorem sc_live_in : FnScope ["function", "rows", "live", "changed", "block", "label", "v"] ["function"] (defScope s_live_in) := ⟨rfl, rfl, rfl, by decide +kernel, rfl, by decide +kernel, by decide +kernel⟩
theorem is_live_in (X : K.In h) (G : h.Ns mainGlobals mg) (c : He.SaysD fas fns K) : ∃ fd, DefIs K mg "live_in" d_live_in "live_in" "live_in" s_live_in (He.fAd K ("live_in", none)) fd ["function", "rows", "live", "changed", "block", "label", "v"] ["function"] ∧ ∀ (s : Shared) (us : List Value), us.length = 1 → BindsTo s fd ⟨us, []⟩ ((["function"] : List Str).zip us) := by
  obtain ⟨fd, F⟩ := c.def_ 5 (d := dd "live_in" s_live_in) rfl
  exact ⟨fd, ⟨F, He.glo_ok X G (c.fact 5 (f := .glo "live_in") rfl), F.bindsN fun _ _ _ _ _ _ us hl => (match us, hl with | [_], _ => rfl), sc_live_in, chk_live_in, rfl, rfl⟩, fun s us hl => F.bindsA (fun _ _ _ _ _ _ us hl => (match us, hl with | [_], _ => rfl)) s us hl⟩
theorem chk__law_draw : chkSs ⟨["script", "seed", "cell"], defScope s__law_draw, none⟩ d__law_draw.body (defBody s__law_draw) = true := by decide +kernel
theorem sc__law_draw : FnScope ["script", "seed", "cell"] ["script"] (defScope s__law_draw) := ⟨rfl, rfl, rfl, by decide +kernel, rfl, by decide +kernel, by decide +kernel⟩
theorem is__law_draw (X : K.In h) (G : h.Ns mainGlobals mg) (c : He.SaysD fas fns K) : ∃ fd, DefIs K mg "_law_draw" d__law_draw "_law_draw" "_law_draw" s__law_draw (He.fAd K ("_law_draw", none)) fd ["script", "seed", "cell"] ["script"] ∧ ∀ (s : Shared) (us : List Value), us.length = 1 → BindsTo s fd ⟨us, []⟩ ((["script"] : List Str).zip us) := by
  obtain ⟨fd, F⟩ := c.def_ 6 (d := dd "_law_draw" s__law_draw) rfl
  exact ⟨fd, ⟨F, He.glo_ok X G (c.fact 6 (f := .glo "_law_draw") rfl), F.bindsN fun _ _ _ _ _ _ us hl => (match us, hl with | [_], _ => rfl), sc__law_draw, chk__law_draw, rfl, rfl⟩, fun s us hl => F.bindsA (fun _ _ _ _ _ _ us hl => (match us, hl with | [_], _ => rfl)) s us hl⟩
theorem chk__law_take : chkSs ⟨["draw", "many", "found"], defScope s__law_take, none⟩ d__law_take.body (defBody s__law_take) = true := by decide +kernel
theorem sc__law_take : FnScope ["draw", "many", "found"] ["draw", "many"] (defScope s__law_take) := ⟨rfl, rfl, rfl, by decide +kernel, rfl, by decide +kernel, by decide +kernel⟩
theorem is__law_take (X : K.In h) (G : h.Ns mainGlobals mg) (c : He.SaysD fas fns K) : ∃ fd, DefIs K mg "_law_take" d__law_take "_law_take" "_law_take" s__law_take (He.fAd K ("_law_take", none)) fd ["draw", "many", "found"] ["draw", "many"] ∧ ∀ (s : Shared) (us : List Value), us.length = 2 → BindsTo s fd ⟨us, []⟩ ((["draw", "many"] : List Str).zip us) := by
  obtain ⟨fd, F⟩ := c.def_ 7 (d := dd "_law_take" s__law_take) rfl
  exact ⟨fd, ⟨F, He.glo_ok X G (c.fact 7 (f := .glo "_law_take") rfl), F.bindsN fun _ _ _ _ _ _ us hl => (match us, hl with | [_, _], _ => rfl), sc__law_take, chk__law_take, rfl, rfl⟩, fun s us hl => F.bindsA (fun _ _ _ _ _ _ us hl => (match us, hl with | [_, _], _ => rfl)) s us hl⟩
theorem chk__law_top : chkSs ⟨["w"], defScope s__law_top, none⟩ d__law_top.body (defBody s__law_top) = true := by decide +kernel
theorem sc__law_top : FnScope ["w"] ["w"] (defScope s__law_top) := ⟨rfl, rfl, rfl, by decide +kernel, rfl, by decide +kernel, by decide +kernel⟩
theorem is__law_top (X : K.In h) (G : h.Ns mainGlobals mg) (c : He.SaysD fas fns K) : ∃ fd, DefIs K mg "_law_top" d__law_top "_law_top" "_law_top" s__law_top (He.fAd K ("_law_top", none)) fd ["w"] ["w"] ∧ ∀ (s : Shared) (us : List Value), us.length = 1 → BindsTo s fd ⟨us, []⟩ ((["w"] : List Str).zip us) := by
  obtain ⟨fd, F⟩ := c.def_ 8 (d := dd "_law_top" s__law_top) rfl
  exact ⟨fd, ⟨F, He.glo_ok X G (c.fact 8 (f := .glo "_law_top") rfl), F.bindsN fun _ _ _ _ _ _ us hl => (match us, hl with | [_], _ => rfl), sc__law_top, chk__law_top, rfl, rfl⟩, fun s us hl => F.bindsA (fun _ _ _ _ _ _ us hl => (match us, hl with | [_], _ => rfl)) s us hl⟩
theorem chk__law_compute : chkSs ⟨["op", "w", "x", "y", "size", "found", "k", "both"], defScope s__law_compute, none⟩ d__law_compute.body (defBody s__law_compute) = true := by decide +kernel
theorem sc__law_compute : FnScope ["op", "w", "x", "y", "size", "found", "k", "both"] ["op", "w", "x", "y"] (defScope s__law_compute) := ⟨rfl, rfl, rfl, by decide +kernel, rfl, by decide +kernel, by decide +kernel⟩
theorem is__law_compute (X : K.In h) (G : h.Ns mainGlobals mg) (c : He.SaysD fas fns K) : ∃ fd, DefIs K mg "_law_compute" d__law_compute "_law_compute" "_law_compute" s__law_compute (He.fAd K ("_law_compute", none)) fd ["op", "w", "x", "y", "size", "found", "k", "both"] ["op", "w", "x", "y"] ∧ ∀ (s : Shared) (us : List Value), us.length = 4 → BindsTo s fd ⟨us, []⟩ ((["op", "w", "x", "y"] : List Str).zip us) := by
  obtain ⟨fd, F⟩ := c.def_ 9 (d := dd "_law_compute" s__law_compute) rfl
  exact ⟨fd, ⟨F, He.glo_ok X G (c.fact 9 (f := .glo "_law_compute") rfl), F.bindsN fun _ _ _ _ _ _ us hl => (match us, hl with | [_, _, _, _], _ => rfl), sc__law_compute, chk__law_compute, rfl, rfl⟩, fun s us hl => F.bindsA (fun _ _ _ _ _ _ us hl => (match us, hl with | [_, _, _, _], _ => rfl)) s us hl⟩
theorem chk__law_pairs : chkSs ⟨[], defScope s__law_pairs, none⟩ d__law_pairs.body (defBody s__law_pairs) = true := by decide +kernel
theorem sc__law_pairs : FnScope [] [] (defScope s__law_pairs) := ⟨rfl, rfl, rfl, by decide +kernel, rfl, by decide +kernel, by decide +kernel⟩
theorem is__law_pairs (X : K.In h) (G : h.Ns mainGlobals mg) (c : He.SaysD fas fns K) : ∃ fd, DefIs K mg "_law_pairs" d__law_pairs "_law_pairs" "_law_pairs" s__law_pairs (He.fAd K ("_law_pairs", none)) fd [] [] ∧ ∀ (s : Shared) (us : List Value), us.length = 0 → BindsTo s fd ⟨us, []⟩ (([] : List Str).zip us) := by
  obtain ⟨fd, F⟩ := c.def_ 10 (d := dd "_law_pairs" s__law_pairs) rfl
  exact ⟨fd, ⟨F, He.glo_ok X G (c.fact 10 (f := .glo "_law_pairs") rfl), F.bindsN fun _ _ _ _ _ _ us hl => (match us, hl with | [], _ => rfl), sc__law_pairs, chk__law_pairs, rfl, rfl⟩, fun s us hl => F.bindsA (fun _ _ _ _ _ _ us hl => (match us, hl with | [], _ => rfl)) s us hl⟩
theorem chk__law_word : chkSs ⟨["draw", "w", "k"], defScope s__law_word, none⟩ d__law_word.body (defBody s__law_word) = true := by decide +kernel
theorem sc__law_word : FnScope ["draw", "w", "k"] ["draw", "w"] (defScope s__law_word) := ⟨rfl, rfl, rfl, by decide +kernel, rfl, by decide +kernel, by decide +kernel⟩
theorem is__law_word (X : K.In h) (G : h.Ns mainGlobals mg) (c : He.SaysD fas fns K) : ∃ fd, DefIs K mg "_law_word" d__law_word "_law_word" "_law_word" s__law_word (He.fAd K ("_law_word", none)) fd ["draw", "w", "k"] ["draw", "w"] ∧ ∀ (s : Shared) (us : List Value), us.length = 2 → BindsTo s fd ⟨us, []⟩ ((["draw", "w"] : List Str).zip us) := by
  obtain ⟨fd, F⟩ := c.def_ 11 (d := dd "_law_word" s__law_word) rfl
  exact ⟨fd, ⟨F, He.glo_ok X G (c.fact 11 (f := .glo "_law_word") rfl), F.bindsN fun _ _ _ _ _ _ us hl => (match us, hl with | [_, _], _ => rfl), sc__law_word, chk__law_word, rfl, rfl⟩, fun s us hl => F.bindsA (fun _ _ _ _ _ _ us hl => (match us, hl with | [_, _], _ => rfl)) s us hl⟩
theorem chk__law_expression : chkSs ⟨["p", "depth", "draw", "k", "op"], defScope s__law_expression, none⟩ d__law_expression.body (defBody s__law_expression) = true := by decide +kernel
theorem sc__law_expression : FnScope ["p", "depth", "draw", "k", "op"] ["p", "depth"] (defScope s__law_expression) := ⟨rfl, rfl, rfl, by decide +kernel, rfl, by decide +kernel, by decide +kernel⟩
theorem is__law_expression (X : K.In h) (G : h.Ns mainGlobals mg) (c : He.SaysD fas fns K) : ∃ fd, DefIs K mg "_law_expression" d__law_expression "_law_expression" "_law_expression" s__law_expression (He.fAd K ("_law_expression", none)) fd ["p", "depth", "draw", "k", "op"] ["p", "depth"] ∧ ∀ (s : Shared) (us : List Value), us.length = 2 → BindsTo s fd ⟨us, []⟩ ((["p", "depth"] : List Str).zip us) := by
  obtain ⟨fd, F⟩ := c.def_ 12 (d := dd "_law_expression" s__law_expression) rfl
  exact ⟨fd, ⟨F, He.glo_ok X G (c.fact 12 (f := .glo "_law_expression") rfl), F.bindsN fun _ _ _ _ _ _ us hl => (match us, hl with | [_, _], _ => rfl), sc__law_expression, chk__law_expression, rfl, rfl⟩, fun s us hl => F.bindsA (fun _ _ _ _ _ _ us hl => (match us, hl with | [_, _], _ => rfl)) s us hl⟩
theorem chk__law_statement : chkSs ⟨["p", "draw", "k"], defScope s__law_statement, none⟩ d__law_statement.body (defBody s__law_statement) = true := by decide +kernel
theorem sc__law_statement : FnScope ["p", "draw", "k"] ["p"] (defScope s__law_statement) := ⟨rfl, rfl, rfl, by decide +kernel, rfl, by decide +kernel, by decide +kernel⟩
theorem is__law_statement (X : K.In h) (G : h.Ns mainGlobals mg) (c : He.SaysD fas fns K) : ∃ fd, DefIs K mg "_law_statement" d__law_statement "_law_statement" "_law_statement" s__law_statement (He.fAd K ("_law_statement", none)) fd ["p", "draw", "k"] ["p"] ∧ ∀ (s : Shared) (us : List Value), us.length = 1 → BindsTo s fd ⟨us, []⟩ ((["p"] : List Str).zip us) := by
  obtain ⟨fd, F⟩ := c.def_ 13 (d := dd "_law_statement" s__law_statement) rfl
  exact ⟨fd, ⟨F, He.glo_ok X G (c.fact 13 (f := .glo "_law_statement") rfl), F.bindsN fun _ _ _ _ _ _ us hl => (match us, hl with | [_], _ => rfl), sc__law_statement, chk__law_statement, rfl, rfl⟩, fun s us hl => F.bindsA (fun _ _ _ _ _ _ us hl => (match us, hl with | [_], _ => rfl)) s us hl⟩
theorem chk__law_function : chkSs ⟨["draw", "blocks", "most", "width", "params", "variables", "p", "count", "labels", "rows", "k", "body", "what", "later", "end", "other", "j"], defScope s__law_function, none⟩ d__law_function.body (defBody s__law_function) = true := by decide +kernel
theorem sc__law_function : FnScope ["draw", "blocks", "most", "width", "params", "variables", "p", "count", "labels", "rows", "k", "body", "what", "later", "end", "other", "j"] ["draw", "blocks", "most"] (defScope s__law_function) := ⟨rfl, rfl, rfl, by decide +kernel, rfl, by decide +kernel, by decide +kernel⟩
theorem is__law_function (X : K.In h) (G : h.Ns mainGlobals mg) (c : He.SaysD fas fns K) : ∃ fd, DefIs K mg "_law_function" d__law_function "_law_function" "_law_function" s__law_function (He.fAd K ("_law_function", none)) fd ["draw", "blocks", "most", "width", "params", "variables", "p", "count", "labels", "rows", "k", "body", "what", "later", "end", "other", "j"] ["draw", "blocks", "most"] ∧ ∀ (s : Shared) (us : List Value), us.length = 3 → BindsTo s fd ⟨us, []⟩ ((["draw", "blocks", "most"] : List Str).zip us) := by
  obtain ⟨fd, F⟩ := c.def_ 14 (d := dd "_law_function" s__law_function) rfl
  exact ⟨fd, ⟨F, He.glo_ok X G (c.fact 14 (f := .glo "_law_function") rfl), F.bindsN fun _ _ _ _ _ _ us hl => (match us, hl with | [_, _, _], _ => rfl), sc__law_function, chk__law_function, rfl, rfl⟩, fun s us hl => F.bindsA (fun _ _ _ _ _ _ us hl => (match us, hl with | [_, _, _], _ => rfl)) s us hl⟩
theorem chk__law_rule : chkSs ⟨["draw", "name", "result", "pattern", "least", "cost"], defScope s__law_rule, none⟩ d__law_rule.body (defBody s__law_rule) = true := by decide +kernel
theorem sc__law_rule : FnScope ["draw", "name", "result", "pattern", "least", "cost"] ["draw", "name", "result", "pattern"] (defScope s__law_rule) := ⟨rfl, rfl, rfl, by decide +kernel, rfl, by decide +kernel, by decide +kernel⟩
theorem is__law_rule (X : K.In h) (G : h.Ns mainGlobals mg) (c : He.SaysD fas fns K) : ∃ fd, DefIs K mg "_law_rule" d__law_rule "_law_rule" "_law_rule" s__law_rule (He.fAd K ("_law_rule", none)) fd ["draw", "name", "result", "pattern", "least", "cost"] ["draw", "name", "result", "pattern"] ∧ ∀ (s : Shared) (us : List Value), us.length = 4 → BindsTo s fd ⟨us, []⟩ ((["draw", "name", "result", "pattern"] : List Str).zip us) := by
  obtain ⟨fd, F⟩ := c.def_ 15 (d := dd "_law_rule" s__law_rule) rfl
  exact ⟨fd, ⟨F, He.glo_ok X G (c.fact 15 (f := .glo "_law_rule") rfl), F.bindsN fun _ _ _ _ _ _ us hl => (match us, hl with | [_, _, _, _], _ => rfl), sc__law_rule, chk__law_rule, rfl, rfl⟩, fun s us hl => F.bindsA (fun _ _ _ _ _ _ us hl => (match us, hl with | [_, _, _, _], _ => rfl)) s us hl⟩
theorem chk__law_machine : chkSs ⟨["draw", "width", "reg", "rows", "op", "addr", "small", "more", "row", "gone", "rules", "registers", "k", "rule"], defScope s__law_machine, none⟩ d__law_machine.body (defBody s__law_machine) = true := by decide +kernel
theorem sc__law_machine : FnScope ["draw", "width", "reg", "rows", "op", "addr", "small", "more", "row", "gone", "rules", "registers", "k", "rule"] ["draw", "width"] (defScope s__law_machine) := ⟨rfl, rfl, rfl, by decide +kernel, rfl, by decide +kernel, by decide +kernel⟩
theorem is__law_machine (X : K.In h) (G : h.Ns mainGlobals mg) (c : He.SaysD fas fns K) : ∃ fd, DefIs K mg "_law_machine" d__law_machine "_law_machine" "_law_machine" s__law_machine (He.fAd K ("_law_machine", none)) fd ["draw", "width", "reg", "rows", "op", "addr", "small", "more", "row", "gone", "rules", "registers", "k", "rule"] ["draw", "width"] ∧ ∀ (s : Shared) (us : List Value), us.length = 2 → BindsTo s fd ⟨us, []⟩ ((["draw", "width"] : List Str).zip us) := by
  obtain ⟨fd, F⟩ := c.def_ 16 (d := dd "_law_machine" s__law_machine) rfl
  exact ⟨fd, ⟨F, He.glo_ok X G (c.fact 16 (f := .glo "_law_machine") rfl), F.bindsN fun _ _ _ _ _ _ us hl => (match us, hl with | [_, _], _ => rfl), sc__law_machine, chk__law_machine, rfl, rfl⟩, fun s us hl => F.bindsA (fun _ _ _ _ _ _ us hl => (match us, hl with | [_, _], _ => rfl)) s us hl⟩
theorem chk__law_tied : chkSs ⟨["draw", "rule", "registers", "ties"], defScope s__law_tied, none⟩ d__law_tied.body (defBody s__law_tied) = true := by decide +kernel
theorem sc__law_tied : FnScope ["draw", "rule", "registers", "ties"] ["draw", "rule", "registers"] (defScope s__law_tied) := ⟨rfl, rfl, rfl, by decide +kernel, rfl, by decide +kernel, by decide +kernel⟩
theorem is__law_tied (X : K.In h) (G : h.Ns mainGlobals mg) (c : He.SaysD fas fns K) : ∃ fd, DefIs K mg "_law_tied" d__law_tied "_law_tied" "_law_tied" s__law_tied (He.fAd K ("_law_tied", none)) fd ["draw", "rule", "registers", "ties"] ["draw", "rule", "registers"] ∧ ∀ (s : Shared) (us : List Value), us.length = 3 → BindsTo s fd ⟨us, []⟩ ((["draw", "rule", "registers"] : List Str).zip us) := by
  obtain ⟨fd, F⟩ := c.def_ 17 (d := dd "_law_tied" s__law_tied) rfl
  exact ⟨fd, ⟨F, He.glo_ok X G (c.fact 17 (f := .glo "_law_tied") rfl), F.bindsN fun _ _ _ _ _ _ us hl => (match us, hl with | [_, _, _], _ => rfl), sc__law_tied, chk__law_tied, rfl, rfl⟩, fun s us hl => F.bindsA (fun _ _ _ _ _ _ us hl => (match us, hl with | [_, _, _], _ => rfl)) s us hl⟩
theorem chk__law_inputs : chkSs ⟨["draw", "function", "k"], defScope s__law_inputs, none⟩ d__law_inputs.body (defBody s__law_inputs) = true := by decide +kernel
theorem sc__law_inputs : FnScope ["draw", "function", "k"] ["draw", "function"] (defScope s__law_inputs) := ⟨rfl, rfl, rfl, by decide +kernel, rfl, by decide +kernel, by decide +kernel⟩
theorem is__law_inputs (X : K.In h) (G : h.Ns mainGlobals mg) (c : He.SaysD fas fns K) : ∃ fd, DefIs K mg "_law_inputs" d__law_inputs "_law_inputs" "_law_inputs" s__law_inputs (He.fAd K ("_law_inputs", none)) fd ["draw", "function", "k"] ["draw", "function"] ∧ ∀ (s : Shared) (us : List Value), us.length = 2 → BindsTo s fd ⟨us, []⟩ ((["draw", "function"] : List Str).zip us) := by
  obtain ⟨fd, F⟩ := c.def_ 18 (d := dd "_law_inputs" s__law_inputs) rfl
  exact ⟨fd, ⟨F, He.glo_ok X G (c.fact 18 (f := .glo "_law_inputs") rfl), F.bindsN fun _ _ _ _ _ _ us hl => (match us, hl with | [_, _], _ => rfl), sc__law_inputs, chk__law_inputs, rfl, rfl⟩, fun s us hl => F.bindsA (fun _ _ _ _ _ _ us hl => (match us, hl with | [_, _], _ => rfl)) s us hl⟩
theorem chk__law_names : chkSs ⟨["e", "found", "part"], defScope s__law_names, none⟩ d__law_names.body (defBody s__law_names) = true := by decide +kernel
theorem sc__law_names : FnScope ["e", "found", "part"] ["e"] (defScope s__law_names) := ⟨rfl, rfl, rfl, by decide +kernel, rfl, by decide +kernel, by decide +kernel⟩
theorem is__law_names (X : K.In h) (G : h.Ns mainGlobals mg) (c : He.SaysD fas fns K) : ∃ fd, DefIs K mg "_law_names" d__law_names "_law_names" "_law_names" s__law_names (He.fAd K ("_law_names", none)) fd ["e", "found", "part"] ["e"] ∧ ∀ (s : Shared) (us : List Value), us.length = 1 → BindsTo s fd ⟨us, []⟩ ((["e"] : List Str).zip us) := by
  obtain ⟨fd, F⟩ := c.def_ 19 (d := dd "_law_names" s__law_names) rfl
  exact ⟨fd, ⟨F, He.glo_ok X G (c.fact 19 (f := .glo "_law_names") rfl), F.bindsN fun _ _ _ _ _ _ us hl => (match us, hl with | [_], _ => rfl), sc__law_names, chk__law_names, rfl, rfl⟩, fun s us hl => F.bindsA (fun _ _ _ _ _ _ us hl => (match us, hl with | [_], _ => rfl)) s us hl⟩
theorem chk__law_ends : chkSs ⟨["block", "end", "rows"], defScope s__law_ends, none⟩ d__law_ends.body (defBody s__law_ends) = true := by decide +kernel
theorem sc__law_ends : FnScope ["block", "end", "rows"] ["block"] (defScope s__law_ends) := ⟨rfl, rfl, rfl, by decide +kernel, rfl, by decide +kernel, by decide +kernel⟩
theorem is__law_ends (X : K.In h) (G : h.Ns mainGlobals mg) (c : He.SaysD fas fns K) : ∃ fd, DefIs K mg "_law_ends" d__law_ends "_law_ends" "_law_ends" s__law_ends (He.fAd K ("_law_ends", none)) fd ["block", "end", "rows"] ["block"] ∧ ∀ (s : Shared) (us : List Value), us.length = 1 → BindsTo s fd ⟨us, []⟩ ((["block"] : List Str).zip us) := by
  obtain ⟨fd, F⟩ := c.def_ 20 (d := dd "_law_ends" s__law_ends) rfl
  exact ⟨fd, ⟨F, He.glo_ok X G (c.fact 20 (f := .glo "_law_ends") rfl), F.bindsN fun _ _ _ _ _ _ us hl => (match us, hl with | [_], _ => rfl), sc__law_ends, chk__law_ends, rfl, rfl⟩, fun s us hl => F.bindsA (fun _ _ _ _ _ _ us hl => (match us, hl with | [_], _ => rfl)) s us hl⟩
theorem chk__law_first : chkSs ⟨["block", "v", "s", "parts", "part"], defScope s__law_first, none⟩ d__law_first.body (defBody s__law_first) = true := by decide +kernel
theorem sc__law_first : FnScope ["block", "v", "s", "parts", "part"] ["block", "v"] (defScope s__law_first) := ⟨rfl, rfl, rfl, by decide +kernel, rfl, by decide +kernel, by decide +kernel⟩
theorem is__law_first (X : K.In h) (G : h.Ns mainGlobals mg) (c : He.SaysD fas fns K) : ∃ fd, DefIs K mg "_law_first" d__law_first "_law_first" "_law_first" s__law_first (He.fAd K ("_law_first", none)) fd ["block", "v", "s", "parts", "part"] ["block", "v"] ∧ ∀ (s : Shared) (us : List Value), us.length = 2 → BindsTo s fd ⟨us, []⟩ ((["block", "v"] : List Str).zip us) := by
  obtain ⟨fd, F⟩ := c.def_ 21 (d := dd "_law_first" s__law_first) rfl
  exact ⟨fd, ⟨F, He.glo_ok X G (c.fact 21 (f := .glo "_law_first") rfl), F.bindsN fun _ _ _ _ _ _ us hl => (match us, hl with | [_, _], _ => rfl), sc__law_first, chk__law_first, rfl, rfl⟩, fun s us hl => F.bindsA (fun _ _ _ _ _ _ us hl => (match us, hl with | [_, _], _ => rfl)) s us hl⟩
theorem chk__law_is_live : chkSs ⟨["function", "label", "v", "seen", "row", "here", "block", "first", "other"], defScope s__law_is_live, none⟩ d__law_is_live.body (defBody s__law_is_live) = true := by decide +kernel
theorem sc__law_is_live : FnScope ["function", "label", "v", "seen", "row", "here", "block", "first", "other"] ["function", "label", "v"] (defScope s__law_is_live) := ⟨rfl, rfl, rfl, by decide +kernel, rfl, by decide +kernel, by decide +kernel⟩
theorem is__law_is_live (X : K.In h) (G : h.Ns mainGlobals mg) (c : He.SaysD fas fns K) : ∃ fd, DefIs K mg "_law_is_live" d__law_is_live "_law_is_live" "_law_is_live" s__law_is_live (He.fAd K ("_law_is_live", none)) fd ["function", "label", "v", "seen", "row", "here", "block", "first", "other"] ["function", "label", "v"] ∧ ∀ (s : Shared) (us : List Value), us.length = 3 → BindsTo s fd ⟨us, []⟩ ((["function", "label", "v"] : List Str).zip us) := by
  obtain ⟨fd, F⟩ := c.def_ 22 (d := dd "_law_is_live" s__law_is_live) rfl
  exact ⟨fd, ⟨F, He.glo_ok X G (c.fact 22 (f := .glo "_law_is_live") rfl), F.bindsN fun _ _ _ _ _ _ us hl => (match us, hl with | [_, _, _], _ => rfl), sc__law_is_live, chk__law_is_live, rfl, rfl⟩, fun s us hl => F.bindsA (fun _ _ _ _ _ _ us hl => (match us, hl with | [_, _, _], _ => rfl)) s us hl⟩
theorem chk_law : chkSs ⟨["script", "draw", "function", "every", "block", "s", "part", "names", "due", "live", "k", "v"], defScope s_law, none⟩ d_law.body (defBody s_law) = true := by decide +kernel
theorem sc_law : FnScope ["script", "draw", "function", "every", "block", "s", "part", "names", "due", "live", "k", "v"] ["script"] (defScope s_law) := ⟨rfl, rfl, rfl, by decide +kernel, rfl, by decide +kernel, by decide +kernel⟩
theorem is_law (X : K.In h) (G : h.Ns mainGlobals mg) (c : He.SaysD fas fns K) : ∃ fd, DefIs K mg "law" d_law "law" "law" s_law (He.fAd K ("law", none)) fd ["script", "draw", "function", "every", "block", "s", "part", "names", "due", "live", "k", "v"] ["script"] ∧ ∀ (s : Shared) (us : List Value), us.length = 1 → BindsTo s fd ⟨us, []⟩ ((["script"] : List Str).zip us) := by
  obtain ⟨fd, F⟩ := c.def_ 23 (d := dd "law" s_law) rfl
  exact ⟨fd, ⟨F, He.glo_ok X G (c.fact 23 (f := .glo "law") rfl), F.bindsN fun _ _ _ _ _ _ us hl => (match us, hl with | [_], _ => rfl), sc_law, chk_law, rfl, rfl⟩, fun s us hl => F.bindsA (fun _ _ _ _ _ _ us hl => (match us, hl with | [_], _ => rfl)) s us hl⟩
theorem modOk (X : K.In h) (G : h.Ns mainGlobals mg) (c : He.SaysD fas fns K) : ModOk mg where
  bi := fun f => by
    cases f
    · exact He.free_ok X G (c.fact 30 (f := .free "len") rfl)
    · exact He.free_ok X G (c.fact 24 (f := .free "abs") rfl)
    · exact He.free_ok X G (c.fact 29 (f := .free "int") rfl)
    · exact He.free_ok X G (c.fact 27 (f := .free "bool") rfl)
    · exact He.free_ok X G (c.fact 32 (f := .free "max") rfl)
    · exact He.free_ok X G (c.fact 33 (f := .free "min") rfl)
    · exact He.free_ok X G (c.fact 31 (f := .free "list") rfl)
    · exact He.free_ok X G (c.fact 36 (f := .free "tuple") rfl)
    · exact He.free_ok X G (c.fact 34 (f := .free "sorted") rfl)
    · exact He.free_ok X G (c.fact 35 (f := .free "sum") rfl)
    · exact He.free_ok X G (c.fact 26 (f := .free "any") rfl)
    · exact He.free_ok X G (c.fact 25 (f := .free "all") rfl)
    · exact He.free_ok X G (c.fact 28 (f := .free "dict") rfl)
    · exact He.free_ok X G (c.fact 37 (f := .free "isinstance") rfl)
    · exact He.free_ok X G (c.fact 42 (f := .free "repr") rfl)
    · exact He.free_ok X G (c.fact 39 (f := .free "str") rfl)
    · exact He.free_ok X G (c.fact 40 (f := .free "reversed") rfl)
    · exact He.free_ok X G (c.fact 41 (f := .free "set") rfl)
  range := He.free_ok X G (c.fact 38 (f := .free "range") rfl)
theorem defs_at (X : K.In h) (G : h.Ns mainGlobals mg) (c : He.SaysD fas fns K) (f : Str) (d : Df) (e : T f = some d) : DefAt K mg f d := by
  by_cases q0 : f = "targets"
  · subst q0; rw [T_targets] at e; cases e; obtain ⟨fd, Di, _⟩ := is_targets X G c; exact ⟨_, _, _, _, _, _, _, Di⟩
  by_cases q1 : f = "successors"
  · subst q1; rw [T_successors] at e; cases e; obtain ⟨fd, Di, _⟩ := is_successors X G c; exact ⟨_, _, _, _, _, _, _, Di⟩
  by_cases q2 : f = "collect"
  · subst q2; rw [T_collect] at e; cases e; obtain ⟨fd, Di, _⟩ := is_collect X G c; exact ⟨_, _, _, _, _, _, _, Di⟩
  by_cases q3 : f = "uses"
  · subst q3; rw [T_uses] at e; cases e; obtain ⟨fd, Di, _⟩ := is_uses X G c; exact ⟨_, _, _, _, _, _, _, Di⟩
  by_cases q4 : f = "used_and_set"
  · subst q4; rw [T_used_and_set] at e; cases e; obtain ⟨fd, Di, _⟩ := is_used_and_set X G c; exact ⟨_, _, _, _, _, _, _, Di⟩
  by_cases q5 : f = "live_in"
  · subst q5; rw [T_live_in] at e; cases e; obtain ⟨fd, Di, _⟩ := is_live_in X G c; exact ⟨_, _, _, _, _, _, _, Di⟩
  by_cases q6 : f = "_law_draw"
  · subst q6; rw [T__law_draw] at e; cases e; obtain ⟨fd, Di, _⟩ := is__law_draw X G c; exact ⟨_, _, _, _, _, _, _, Di⟩
  by_cases q7 : f = "_law_take"
  · subst q7; rw [T__law_take] at e; cases e; obtain ⟨fd, Di, _⟩ := is__law_take X G c; exact ⟨_, _, _, _, _, _, _, Di⟩
  by_cases q8 : f = "_law_top"
  · subst q8; rw [T__law_top] at e; cases e; obtain ⟨fd, Di, _⟩ := is__law_top X G c; exact ⟨_, _, _, _, _, _, _, Di⟩
  by_cases q9 : f = "_law_compute"
  · subst q9; rw [T__law_compute] at e; cases e; obtain ⟨fd, Di, _⟩ := is__law_compute X G c; exact ⟨_, _, _, _, _, _, _, Di⟩
  by_cases q10 : f = "_law_pairs"
  · subst q10; rw [T__law_pairs] at e; cases e; obtain ⟨fd, Di, _⟩ := is__law_pairs X G c; exact ⟨_, _, _, _, _, _, _, Di⟩
  by_cases q11 : f = "_law_word"
  · subst q11; rw [T__law_word] at e; cases e; obtain ⟨fd, Di, _⟩ := is__law_word X G c; exact ⟨_, _, _, _, _, _, _, Di⟩
  by_cases q12 : f = "_law_expression"
  · subst q12; rw [T__law_expression] at e; cases e; obtain ⟨fd, Di, _⟩ := is__law_expression X G c; exact ⟨_, _, _, _, _, _, _, Di⟩
  by_cases q13 : f = "_law_statement"
  · subst q13; rw [T__law_statement] at e; cases e; obtain ⟨fd, Di, _⟩ := is__law_statement X G c; exact ⟨_, _, _, _, _, _, _, Di⟩
  by_cases q14 : f = "_law_function"
  · subst q14; rw [T__law_function] at e; cases e; obtain ⟨fd, Di, _⟩ := is__law_function X G c; exact ⟨_, _, _, _, _, _, _, Di⟩
  by_cases q15 : f = "_law_rule"
  · subst q15; rw [T__law_rule] at e; cases e; obtain ⟨fd, Di, _⟩ := is__law_rule X G c; exact ⟨_, _, _, _, _, _, _, Di⟩
  by_cases q16 : f = "_law_machine"
  · subst q16; rw [T__law_machine] at e; cases e; obtain ⟨fd, Di, _⟩ := is__law_machine X G c; exact ⟨_, _, _, _, _, _, _, Di⟩
  by_cases q17 : f = "_law_tied"
  · subst q17; rw [T__law_tied] at e; cases e; obtain ⟨fd, Di, _⟩ := is__law_tied X G c; exact ⟨_, _, _, _, _, _, _, Di⟩
  by_cases q18 : f = "_law_inputs"
  · subst q18; rw [T__law_inputs] at e; cases e; obtain ⟨fd, Di, _⟩ := is__law_inputs X G c; exact ⟨_, _, _, _, _, _, _, Di⟩
  by_cases q19 : f = "_law_names"
  · subst q19; rw [T__law_names] at e; cases e; obtain ⟨fd, Di, _⟩ := is__law_names X G c; exact ⟨_, _, _, _, _, _, _, Di⟩
  by_cases q20 : f = "_law_ends"
  · subst q20; rw [T__law_ends] at e; cases e; obtain ⟨fd, Di, _⟩ := is__law_ends X G c; exact ⟨_, _, _, _, _, _, _, Di⟩
  by_cases q21 : f = "_law_first"
  · subst q21; rw [T__law_first] at e; cases e; obtain ⟨fd, Di, _⟩ := is__law_first X G c; exact ⟨_, _, _, _, _, _, _, Di⟩
  by_cases q22 : f = "_law_is_live"
  · subst q22; rw [T__law_is_live] at e; cases e; obtain ⟨fd, Di, _⟩ := is__law_is_live X G c; exact ⟨_, _, _, _, _, _, _, Di⟩
  by_cases q23 : f = "law"
  · subst q23; rw [T_law] at e; cases e; obtain ⟨fd, Di, _⟩ := is_law X G c; exact ⟨_, _, _, _, _, _, _, Di⟩
  unfold T at e
  rw [if_neg q0, if_neg q1, if_neg q2, if_neg q3, if_neg q4, if_neg q5, if_neg q6, if_neg q7, if_neg q8, if_neg q9, if_neg q10, if_neg q11, if_neg q12, if_neg q13, if_neg q14, if_neg q15, if_neg q16, if_neg q17, if_neg q18, if_neg q19, if_neg q20, if_neg q21, if_neg q22, if_neg q23] at e
  cases e
end
abbrev R : PySem.W.OpenRow := PySem.W.OpenLaw.row PySem.Challenge.rw_leasttiles_k04_uses_and_ways
abbrev hk : PySem.W.Hook := He.hookD 4 fas fns
def ob (s : PySem.W.SharedT) : He.AlD := He.obsDG 4 fas fns (HandSHeadRun.getT s)
theorem ob_eq (s : PySem.W.SharedT) : ob s = hk.obs s.abs := He.obsDG_eq (HandSHeadRun.getT_eq s)
theorem run (w : World) : HandSHeadRun.RunEq R (PySem.W.view R.prog [25]) hk ob 4000 ["targets", "successors", "collect", "uses", "used_and_set", "live_in", "_law_draw", "_law_take", "_law_top", "_law_compute", "_law_pairs", "_law_word", "_law_expression", "_law_statement", "_law_function", "_law_rule", "_law_machine", "_law_tied", "_law_inputs", "_law_names", "_law_ends", "_law_first", "_law_is_live"] w := by
  intro os
  kernel_rfl
end Lw
namespace Lw
open PySem PySem.W PySem.Calls PyProof.Rows
theorem holds_of (holds : ∀ ns : List Int, ns.length ≤ 63 → ∃ h, MP.evCall Lw.T 12 "law" [.fro (ns.map MP.PV.int)] [] = .ok (.bl true) h) : PySem.Challenge.rw_leasttiles_k04_uses_and_ways.Holds := by
  w_on; o_law
  refine HandSHeadRun.head_any (r := OpenLaw.row PySem.Challenge.rw_leasttiles_k04_uses_and_ways) (q := view (OpenLaw.row PySem.Challenge.rw_leasttiles_k04_uses_and_ways).prog [25]) (H := Lw.hk) (ob := Lw.ob) (M := 4000) (loose := ["targets", "successors", "collect", "uses", "used_and_set", "live_in", "_law_draw", "_law_take", "_law_top", "_law_compute", "_law_pairs", "_law_word", "_law_expression", "_law_statement", "_law_function", "_law_rule", "_law_machine", "_law_tied", "_law_inputs", "_law_names", "_law_ends", "_law_first", "_law_is_live"]) (d := HandSHeadRun.topDef (OpenLaw.row PySem.Challenge.rw_leasttiles_k04_uses_and_ways).prog 25) (kwd := []) Lw.ob_eq
    (by kernel_rfl) (fun s => by kernel_rfl) Lw.run (by kernel_rfl) (by kernel_rfl) (by kernel_rfl) (by rfl) (by first | assumption | decide +kernel) (by decide +kernel) ⟨rfl, rfl, rfl, rfl, rfl, by decide +kernel⟩ ?hw ?hc
  case hw => w_witness2
  case hc =>
    refine MP.law_end (l := PySem.Challenge.rw_leasttiles_k04_uses_and_ways) (T := Lw.T) (dl := Lw.d_law) (k := 12) (n := 63) (fns := Lw.fns) (fas := Lw.fas) rfl (by decide) (by kernel_rfl) ⟨rfl, by decide, by decide⟩ (by kernel_rfl) Lw.T_law ?defs holds
    intro K mg h X G c
    obtain ⟨fd, Di, hb⟩ := Lw.is_law X G c
    exact ⟨Lw.modOk X G c, fun f d e => Lw.defs_at X G c f d e, _, _, _, _, _, _, Di, fun s u => hb s [u] rfl⟩
end Lw

set_option Elab.async false
set_option linter.all false
set_option maxRecDepth 100000
set_option maxHeartbeats 4000000
namespace MP
open PySem
open Out (ok bad)
/-! ### the laws' random functions -/
def g_top : Ss :=
    (.cons (.ret (.bin .Sub (.bin .LShift (.int 1) (.var 0)) (.int 1)))
    .nil)
def g_pairs : Ss :=
    (.cons (.ret (.lst (.cons (.str "add") (.cons (.str "sub") (.cons (.str "mul") (.cons (.str "and") (.cons (.str "or") (.cons (.str "xor") (.cons (.str "shl") (.cons (.str "shr") (.cons (.str "less") (.cons (.str "equal") .nil))))))))))))
    .nil)
def g_word : Ss :=
    (.cons (.asg (.nm 2) (.call "_law_take" (.cons (.var 0) (.cons (.int 6) .nil))))
    (.cons (.ite (.cmp .Lt (.var 2) (.int 3)) (.cons (.ret (.bi .min (.cons (.sub (.lst (.cons (.int 0) (.cons (.int 1) (.cons (.int 5) .nil)))) (.var 2)) (.cons (.call "_law_top" (.cons (.var 1) .nil)) .nil))))
    .nil) .nil)
    (.cons (.ite (.cmp .Eq (.var 2) (.int 3)) (.cons (.ret (.call "_law_top" (.cons (.var 1) .nil)))
    .nil) .nil)
    (.cons (.ret (.bin .Mod (.bi .int (.cons (.call "_law_take" (.cons (.var 0) (.cons (.int 65536) .nil))) .nil)) (.bin .LShift (.int 1) (.var 1))))
    .nil))))
def g_expression : Ss :=
    (.cons (.asg (.nm 2) (.sub (.var 0) (.str "draw")))
    (.cons (.asg (.nm 3) (.call "_law_take" (.cons (.var 2) (.cons (.int 10) .nil))))
    (.cons (.ite (.or (.cmp .Eq (.var 1) (.int 0)) (.cmp .Lt (.var 3) (.int 4))) (.cons (.ite (.cmp .Eq (.call "_law_take" (.cons (.var 2) (.cons (.int 3) .nil))) (.int 0)) (.cons (.ret (.tup (.cons (.str "int") (.cons (.call "_law_word" (.cons (.var 2) (.cons (.sub (.var 0) (.str "width")) .nil))) .nil))))
    .nil) .nil)
    (.cons (.ret (.tup (.cons (.str "var") (.cons (.sub (.sub (.var 0) (.str "variables")) (.call "_law_take" (.cons (.var 2) (.cons (.bi .len (.cons (.sub (.var 0) (.str "variables")) .nil)) .nil)))) .nil))))
    .nil)) .nil)
    (.cons (.ite (.cmp .Eq (.var 3) (.int 4)) (.cons (.ret (.tup (.cons (.str "load") (.cons (.call "_law_expression" (.cons (.var 0) (.cons (.bin .Sub (.var 1) (.int 1)) .nil))) .nil))))
    .nil) .nil)
    (.cons (.ite (.cmp .Eq (.var 3) (.int 5)) (.cons (.ret (.tup (.cons (.sub (.lst (.cons (.str "not") (.cons (.str "neg") .nil))) (.call "_law_take" (.cons (.var 2) (.cons (.int 2) .nil)))) (.cons (.call "_law_expression" (.cons (.var 0) (.cons (.bin .Sub (.var 1) (.int 1)) .nil))) .nil))))
    .nil) .nil)
    (.cons (.asg (.nm 4) (.sub (.call "_law_pairs" .nil) (.sub (.lst (.cons (.int 0) (.cons (.int 0) (.cons (.int 1) (.cons (.int 2) (.cons (.int 3) (.cons (.int 4) (.cons (.int 5) (.cons (.int 6) (.cons (.int 7) (.cons (.int 8) (.cons (.int 9) (.cons (.int 0) .nil))))))))))))) (.call "_law_take" (.cons (.var 2) (.cons (.int 12) .nil))))))
    (.cons (.ret (.tup (.cons (.var 4) (.cons (.call "_law_expression" (.cons (.var 0) (.cons (.bin .Sub (.var 1) (.int 1)) .nil))) (.cons (.call "_law_expression" (.cons (.var 0) (.cons (.bin .Sub (.var 1) (.int 1)) .nil))) .nil)))))
    .nil)))))))
def g_statement : Ss :=
    (.cons (.asg (.nm 1) (.sub (.var 0) (.str "draw")))
    (.cons (.asg (.nm 2) (.call "_law_take" (.cons (.var 1) (.cons (.int 8) .nil))))
    (.cons (.ite (.cmp .Lt (.var 2) (.int 5)) (.cons (.ret (.tup (.cons (.str "set") (.cons (.sub (.sub (.var 0) (.str "variables")) (.call "_law_take" (.cons (.var 1) (.cons (.bi .len (.cons (.sub (.var 0) (.str "variables")) .nil)) .nil)))) (.cons (.call "_law_expression" (.cons (.var 0) (.cons (.int 2) .nil))) .nil)))))
    .nil) .nil)
    (.cons (.ite (.cmp .Lt (.var 2) (.int 7)) (.cons (.ret (.tup (.cons (.str "write") (.cons (.call "_law_expression" (.cons (.var 0) (.cons (.int 2) .nil))) .nil))))
    .nil) .nil)
    (.cons (.ret (.tup (.cons (.str "store") (.cons (.call "_law_expression" (.cons (.var 0) (.cons (.int 1) .nil))) (.cons (.call "_law_expression" (.cons (.var 0) (.cons (.int 2) .nil))) .nil)))))
    .nil)))))
def g_function : Ss :=
    (.cons (.asg (.nm 3) (.sub (.lst (.cons (.int 1) (.cons (.int 2) (.cons (.int 3) (.cons (.int 4) (.cons (.int 8) (.cons (.int 16) (.cons (.bin .Add (.int 1) (.call "_law_take" (.cons (.var 0) (.cons (.int 16) .nil)))) .nil)))))))) (.call "_law_take" (.cons (.var 0) (.cons (.int 7) .nil)))))
    (.cons (.asg (.nm 4) (.sub (.lst (.cons (.int 0) (.cons (.int 1) (.cons (.int 2) (.cons (.int 3) (.cons (.call "_law_take" (.cons (.var 0) (.cons (.int 7) .nil))) .nil)))))) (.call "_law_take" (.cons (.var 0) (.cons (.int 5) .nil)))))
    (.cons (.asg (.nm 5) (.slc (.sub (.lst (.cons (.lst (.cons (.int 0) (.cons (.int 1) (.cons (.int 2) (.cons (.int 3) (.cons (.int 7) (.cons (.int 40) .nil))))))) (.cons (.lst (.cons (.int 0) (.cons (.int 1) (.cons (.int 53) (.cons (.int 3) (.cons (.int 4) (.cons (.int 5) (.cons (.int 99) .nil)))))))) .nil))) (.call "_law_take" (.cons (.var 0) (.cons (.int 2) .nil)))) .none (.some (.bin .Add (.int 2) (.call "_law_take" (.cons (.var 0) (.cons (.int 6) .nil)))))))
    (.cons (.asg (.nm 6) (.dic (.cons (.str "draw") (.var 0) (.cons (.str "width") (.var 3) (.cons (.str "variables") (.var 5) .nil)))))
    (.cons (.asg (.nm 7) (.bin .Add (.int 1) (.call "_law_take" (.cons (.var 0) (.cons (.var 1) .nil)))))
    (.cons (.asg (.nm 8) (.lc (.bin .Add (.int 3) (.bin .Mult (.int 5) (.var 10))) (.nm 10) (.rng (.cons (.var 7) .nil)) .nil [10]))
    (.cons (.ite (.cmp .Eq (.call "_law_take" (.cons (.var 0) (.cons (.int 3) .nil))) (.int 0)) (.cons (.asg (.nm 8) (.lc (.sub (.var 8) (.bin .Sub (.bin .Sub (.var 7) (.int 1)) (.var 10))) (.nm 10) (.rng (.cons (.var 7) .nil)) .nil [10]))
    .nil) .nil)
    (.cons (.asg (.nm 9) (.lst .nil))
    (.cons (.frr (.nm 10) (.rng (.cons (.var 7) .nil)) (.cons (.asg (.nm 11) (.lc (.call "_law_statement" (.cons (.var 6) .nil)) (.nm 16) (.rng (.cons (.call "_law_take" (.cons (.var 0) (.cons (.bin .Add (.var 2) (.int 1)) .nil))) .nil)) .nil [16]))
    (.cons (.asg (.nm 12) (.call "_law_take" (.cons (.var 0) (.cons (.int 4) .nil))))
    (.cons (.asg (.nm 13) (.slc (.var 8) (.some (.bin .Add (.var 10) (.int 1))) .none))
    (.cons (.ite (.or (.cmp .Eq (.var 13) (.lst .nil)) (.cmp .Eq (.var 12) (.int 0))) (.cons (.asg (.nm 14) (.tup (.cons (.str "return") (.cons (.call "_law_expression" (.cons (.var 6) (.cons (.int 1) .nil))) .nil))))
    .nil) (.cons (.ite (.cmp .Eq (.var 12) (.int 1)) (.cons (.asg (.nm 14) (.tup (.cons (.str "go") (.cons (.sub (.var 13) (.call "_law_take" (.cons (.var 0) (.cons (.bi .len (.cons (.var 13) .nil)) .nil)))) .nil))))
    .nil) (.cons (.asg (.nm 15) (.ite (.cmp .Eq (.call "_law_take" (.cons (.var 0) (.cons (.int 3) .nil))) (.int 0)) (.sub (.slc (.var 8) (.some (.int 1)) .none) (.call "_law_take" (.cons (.var 0) (.cons (.bin .Sub (.var 7) (.int 1)) .nil)))) (.sub (.var 13) (.call "_law_take" (.cons (.var 0) (.cons (.bi .len (.cons (.var 13) .nil)) .nil))))))
    (.cons (.asg (.nm 14) (.tup (.cons (.str "if") (.cons (.call "_law_expression" (.cons (.var 6) (.cons (.int 2) .nil))) (.cons (.var 15) (.cons (.sub (.var 13) (.call "_law_take" (.cons (.var 0) (.cons (.bi .len (.cons (.var 13) .nil)) .nil)))) .nil))))))
    .nil)))
    .nil))
    (.cons (.ex (.mt .append (.var 9) (.cons (.tup (.cons (.sub (.var 8) (.var 10)) (.cons (.bi .tuple (.cons (.var 11) .nil)) (.cons (.var 14) .nil)))) .nil)))
    .nil))))))
    (.cons (.ret (.tup (.cons (.var 3) (.cons (.var 4) (.cons (.bi .tuple (.cons (.var 9) .nil)) .nil)))))
    .nil))))))))))
structure Gen (T : Str → Option Df) : Prop where
  take : T "_law_take" = some ⟨2, 3, b_take⟩
  draw : T "_law_draw" = some ⟨1, 3, b_draw⟩
  top : T "_law_top" = some ⟨1, 1, g_top⟩
  pairs : T "_law_pairs" = some ⟨0, 0, g_pairs⟩
  word : T "_law_word" = some ⟨2, 3, g_word⟩
  expression : T "_law_expression" = some ⟨2, 5, g_expression⟩
  statement : T "_law_statement" = some ⟨1, 3, g_statement⟩
  function_ : T "_law_function" = some ⟨3, 17, g_function⟩
/-- a draw stands at place 1 -/
def DW (h : PH) : Prop := ∃ (cs : List Int) (o : PO), h[0]? = some (.lst (cs.map PV.int)) ∧ h[1]? = some o ∧ DrawO 0 o
/-- all but the draw's own place is kept -/
structure Fr (h h' : PH) : Prop where
  dw : DW h'
  len : h.length ≤ h'.length
  keep : ∀ i, i < h.length → i ≠ 1 → h'[i]? = h[i]?
theorem Fr.refl {h : PH} (d : DW h) : Fr h h := ⟨d, Nat.le_refl _, fun _ _ _ => rfl⟩
theorem Fr.trans {a b c : PH} (x : Fr a b) (y : Fr b c) : Fr a c := ⟨y.dw, Nat.le_trans x.len y.len, fun i hi hn => (y.keep i (Nat.lt_of_lt_of_le hi x.len) hn).trans (x.keep i hi hn)⟩
theorem Fr.at {h h' : PH} {l : Nat} {o : PO} (x : Fr h h') (e : h[l]? = some o) (n : l ≠ 1) : h'[l]? = some o := (x.keep l (lt_of_some e) n).trans e
theorem DW.two {h : PH} (d : DW h) : 2 ≤ h.length := by
  obtain ⟨_, _, _, e, _⟩ := d
  exact lt_of_some e
theorem Fr.new {h : PH} (d : DW h) (o : PO) : Fr h (h ++ [o]) := by
  have := d.two
  refine ⟨?_, by simp, fun i hi _ => List.getElem?_append_left hi⟩
  obtain ⟨cs, p, e1, e2, e3⟩ := d
  exact ⟨cs, p, by rw [List.getElem?_append_left (by omega)]; exact e1, by rw [List.getElem?_append_left (by omega)]; exact e2, e3⟩
theorem at_new {h : PH} {o : PO} : (h ++ [o])[h.length]? = some o := by simp
section
variable {T : Str → Option Df} {h : PH} {m w : Int} {k : Nat}
theorem gen_take (G : Gen T) (d : DW h) (h0 : 0 < m) (h1 : m < 1073741824) : (evCall T (k + 1) "_law_take" [.ref 1, .int m] h).Ok fun v h' => (∃ r : Int, v = .int r ∧ 0 ≤ r ∧ r < m) ∧ Fr h h' := by
  obtain ⟨cs, o, e1, e2, hd⟩ := d
  refine call_ok G.take rfl (by decide) ?_
  obtain ⟨r, o', q1, q2, q3, q4⟩ := take_ok (C := evCall T k) e1 e2 hd (by decide) h0 h1
  show (evSs (evCall T k) b_take [some (.ref 1), some (.int m), none] h).Rt _
  rw [q4]
  have l2 := lt_of_some e2
  exact ⟨⟨r, rfl, q1, q2⟩, ⟨cs, o', by rw [List.getElem?_set_ne (by omega)]; exact e1, List.getElem?_set_self l2, q3⟩, by rw [List.length_set]; exact Nat.le_refl _, fun i _ hn => by rw [List.getElem?_set_ne (Ne.symm hn)]⟩
theorem b_shl {i j : Int} {h : PH} (q1 : 0 ≤ j) (q2 : j ≤ 1000000) (q3 : i.natAbs < 2 ^ 64) : binF .LShift (.int i) (.int j) h = .ok (.int (i * 2 ^ j.toNat)) h := if_pos ⟨q1, q2, q3⟩
theorem gen_top (G : Gen T) (w0 : 0 ≤ w) (w1 : w ≤ 64) : (evCall T (k + 1) "_law_top" [.int w] h).Ok fun v h' => v = .int (2 ^ w.toNat - 1) ∧ h' = h := by
  refine call_ok G.top rfl (by decide) ?_
  show (evSs (evCall T k) g_top [some (.int w)] h).Rt _
  unfold g_top
  simp [bnd_bnd, bnd_sbnd, sbnd_seq, seq_seq, seqC_ap, ss_cons, ss_nil, s_asg, s_ret, s_ite, s_ex, s_for, s_whl, e_non, e_bl, e_int, e_str, e_var, e_bin, e_neg, e_cmp, e_not, e_tup, e_lst, e_dic0, e_sub, e_call, e_bi, e_mt, kindG_same, e_isi, e_inv, e_lrg, e_lc, e_dc, wipeP, new, evEs, evT, evTs, evP, evI, evG, bnd_ok, sbnd_ok, seq_nx, seq_rt, to_nx, go_nx, go_ct, rt_rt, ok_ok, slot, item0, item1, item2, item3, sub_t, i_int, i_abs, i_lenT, c_eqI, c_neI, c_eqS, c_neS, c_lt, c_le, c_gt, c_ge, asB_bl, iteC_t, iteC_f, iteC_d, b_add, b_sub, b_mul, b_mod, b_shl w0 (by omega : w ≤ 1000000) (by decide : (1 : Int).natAbs < 2 ^ 64)]
def pairs : List Str := ["add", "sub", "mul", "and", "or", "xor", "shl", "shr", "less", "equal"]
theorem gen_pairs (G : Gen T) : (evCall T (k + 1) "_law_pairs" [] h).Ok fun v h' => v = .ref h.length ∧ h' = h ++ [.lst (pairs.map PV.str)] := by
  have hS : (64 : Nat) ≤ sizeLine := by decide
  refine call_ok G.pairs rfl (by decide) ?_
  show (evSs (evCall T k) g_pairs [] h).Rt _
  unfold g_pairs
  simp [bnd_bnd, bnd_sbnd, sbnd_seq, seq_seq, seqC_ap, ss_cons, ss_nil, s_asg, s_ret, s_ite, s_ex, s_for, s_whl, e_non, e_bl, e_int, e_str, e_var, e_bin, e_neg, e_cmp, e_not, e_tup, e_lst, e_dic0, e_sub, e_call, e_bi, e_mt, kindG_same, e_isi, e_inv, e_lrg, e_lc, e_dc, wipeP, new, evEs, evT, evTs, evP, evI, evG, bnd_ok, sbnd_ok, seq_nx, seq_rt, to_nx, go_nx, go_ct, rt_rt, ok_ok, slot, item0, item1, item2, item3, sub_t, i_int, i_abs, i_lenT, c_eqI, c_neI, c_eqS, c_neS, c_lt, c_le, c_gt, c_ge, asB_bl, iteC_t, iteC_f, iteC_d, b_add, b_sub, b_mul, b_mod, pairs, (by omega : 10 ≤ sizeLine)]
theorem item_mem {xs : List PV} {r : Int} (h0 : 0 ≤ r) (h1 : r < xs.length) : ∃ v, v ∈ xs ∧ ∀ h, itemF xs (.int r) h = ok v h := by
  obtain ⟨v, hv⟩ : ∃ v, xs[r.toNat]? = some v := ⟨xs[r.toNat]'(by omega), List.getElem?_eq_getElem (by omega)⟩
  exact ⟨v, List.mem_of_getElem? hv, fun h => itemF_at h0 hv⟩
theorem gen_word (G : Gen T) (d : DW h) (w0 : 0 ≤ w) (w1 : w ≤ 64) : (evCall T (k + 2) "_law_word" [.ref 1, .int w] h).Ok fun v h' => (∃ n : Int, v = .int n ∧ 0 ≤ n ∧ n < 2 ^ w.toNat) ∧ Fr h h' := by
  have hS : (64 : Nat) ≤ sizeLine := by decide
  have pw : (1 : Int) ≤ 2 ^ w.toNat := by
    have : 0 < (2 : Int) ^ w.toNat := Int.pow_pos (by decide)
    omega
  refine call_ok G.word rfl (by decide) ?_
  show (evSs (evCall T (k + 1)) g_word [some (.ref 1), some (.int w), none] h).Rt _
  unfold g_word
  simp only [bnd_bnd, bnd_sbnd, sbnd_seq, seq_seq, seqC_ap, ss_cons, ss_nil, s_asg, s_ret, s_ite, s_ex, s_for, s_whl, e_non, e_bl, e_int, e_str, e_var, e_bin, e_neg, e_cmp, e_not, e_tup, e_lst, e_dic0, e_sub, e_call, e_bi, e_mt, kindG_same, e_isi, e_inv, e_lrg, e_lc, e_dc, wipeP, new, evEs, evT, evTs, evP, evI, evG, bnd_ok, sbnd_ok, seq_nx, seq_rt, to_nx, go_nx, go_ct, rt_rt, ok_ok, slot, item0, item1, item2, item3, sub_t, i_int, i_abs, i_lenT, c_eqI, c_neI, c_eqS, c_neS, c_lt, c_le, c_gt, c_ge, asB_bl, iteC_t, iteC_f, iteC_d, b_add, b_sub, b_mul, b_mod, List.getElem?_cons_succ, List.getElem?_cons_zero, List.set_cons_succ, List.set_cons_zero]
  refine Out.Ok.rt (gen_take G d (by decide) (by decide)) fun v h1 ⟨⟨r, ev, r0, r1⟩, f1⟩ => ?_
  subst ev
  simp only [bnd_bnd, bnd_sbnd, sbnd_seq, seq_seq, seqC_ap, ss_cons, ss_nil, s_asg, s_ret, s_ite, s_ex, s_for, s_whl, e_non, e_bl, e_int, e_str, e_var, e_bin, e_neg, e_cmp, e_not, e_tup, e_lst, e_dic0, e_sub, e_call, e_bi, e_mt, kindG_same, e_isi, e_inv, e_lrg, e_lc, e_dc, wipeP, new, evEs, evT, evTs, evP, evI, evG, bnd_ok, sbnd_ok, seq_nx, seq_rt, to_nx, go_nx, go_ct, rt_rt, ok_ok, slot, item0, item1, item2, item3, sub_t, i_int, i_abs, i_lenT, c_eqI, c_neI, c_eqS, c_neS, c_lt, c_le, c_gt, c_ge, asB_bl, iteC_t, iteC_f, iteC_d, b_add, b_sub, b_mul, b_mod, List.getElem?_cons_succ, List.getElem?_cons_zero, List.set_cons_succ, List.set_cons_zero]
  by_cases q : r < 3
  · rw [if_pos q]
    simp only [bnd_bnd, bnd_sbnd, sbnd_seq, seq_seq, seqC_ap, ss_cons, ss_nil, s_asg, s_ret, s_ite, s_ex, s_for, s_whl, e_non, e_bl, e_int, e_str, e_var, e_bin, e_neg, e_cmp, e_not, e_tup, e_lst, e_dic0, e_sub, e_call, e_bi, e_mt, kindG_same, e_isi, e_inv, e_lrg, e_lc, e_dc, wipeP, new, evEs, evT, evTs, evP, evI, evG, bnd_ok, sbnd_ok, seq_nx, seq_rt, to_nx, go_nx, go_ct, rt_rt, ok_ok, slot, item0, item1, item2, item3, sub_t, i_int, i_abs, i_lenT, c_eqI, c_neI, c_eqS, c_neS, c_lt, c_le, c_gt, c_ge, asB_bl, iteC_t, iteC_f, iteC_d, b_add, b_sub, b_mul, b_mod, List.getElem?_cons_succ, List.getElem?_cons_zero, List.set_cons_succ, List.set_cons_zero, List.length_cons, List.length_nil]
    rw [if_pos (by omega), sbnd_ok]
    obtain ⟨x, hx, ex⟩ := item_mem (xs := [.int 0, .int 1, .int 5]) r0 (by simpa using q)
    simp only [sub_l at_new, ex, sbnd_ok]
    refine Out.Ok.rt (gen_top G w0 w1) fun v h2 ⟨ev, eh⟩ => ?_
    subst ev eh
    obtain ⟨n, en, n0⟩ : ∃ n : Int, x = .int n ∧ 0 ≤ n := by
      simp only [List.mem_cons, List.not_mem_nil, or_false] at hx
      rcases hx with h | h | h <;> exact ⟨_, h, by decide⟩
    subst en
    refine ⟨⟨_, rfl, ?_⟩, f1.trans (Fr.new f1.dw _)⟩
    split <;> omega
  · rw [if_neg q]
    simp only [bnd_bnd, bnd_sbnd, sbnd_seq, seq_seq, seqC_ap, ss_cons, ss_nil, s_asg, s_ret, s_ite, s_ex, s_for, s_whl, e_non, e_bl, e_int, e_str, e_var, e_bin, e_neg, e_cmp, e_not, e_tup, e_lst, e_dic0, e_sub, e_call, e_bi, e_mt, kindG_same, e_isi, e_inv, e_lrg, e_lc, e_dc, wipeP, new, evEs, evT, evTs, evP, evI, evG, bnd_ok, sbnd_ok, seq_nx, seq_rt, to_nx, go_nx, go_ct, rt_rt, ok_ok, slot, item0, item1, item2, item3, sub_t, i_int, i_abs, i_lenT, c_eqI, c_neI, c_eqS, c_neS, c_lt, c_le, c_gt, c_ge, asB_bl, iteC_t, iteC_f, iteC_d, b_add, b_sub, b_mul, b_mod, List.getElem?_cons_succ, List.getElem?_cons_zero, List.set_cons_succ, List.set_cons_zero]
    by_cases q2 : r = 3
    · rw [if_pos q2]
      simp only [bnd_bnd, bnd_sbnd, sbnd_seq, seq_seq, seqC_ap, ss_cons, ss_nil, s_asg, s_ret, s_ite, s_ex, s_for, s_whl, e_non, e_bl, e_int, e_str, e_var, e_bin, e_neg, e_cmp, e_not, e_tup, e_lst, e_dic0, e_sub, e_call, e_bi, e_mt, kindG_same, e_isi, e_inv, e_lrg, e_lc, e_dc, wipeP, new, evEs, evT, evTs, evP, evI, evG, bnd_ok, sbnd_ok, seq_nx, seq_rt, to_nx, go_nx, go_ct, rt_rt, ok_ok, slot, item0, item1, item2, item3, sub_t, i_int, i_abs, i_lenT, c_eqI, c_neI, c_eqS, c_neS, c_lt, c_le, c_gt, c_ge, asB_bl, iteC_t, iteC_f, iteC_d, b_add, b_sub, b_mul, b_mod, List.getElem?_cons_succ, List.getElem?_cons_zero]
      refine Out.Ok.rt (gen_top G w0 w1) fun v h2 ⟨ev, eh⟩ => ?_
      subst ev eh
      exact ⟨⟨_, rfl, by omega, by omega⟩, f1⟩
    · rw [if_neg q2]
      simp only [bnd_bnd, bnd_sbnd, sbnd_seq, seq_seq, seqC_ap, ss_cons, ss_nil, s_asg, s_ret, s_ite, s_ex, s_for, s_whl, e_non, e_bl, e_int, e_str, e_var, e_bin, e_neg, e_cmp, e_not, e_tup, e_lst, e_dic0, e_sub, e_call, e_bi, e_mt, kindG_same, e_isi, e_inv, e_lrg, e_lc, e_dc, wipeP, new, evEs, evT, evTs, evP, evI, evG, bnd_ok, sbnd_ok, seq_nx, seq_rt, to_nx, go_nx, go_ct, rt_rt, ok_ok, slot, item0, item1, item2, item3, sub_t, i_int, i_abs, i_lenT, c_eqI, c_neI, c_eqS, c_neS, c_lt, c_le, c_gt, c_ge, asB_bl, iteC_t, iteC_f, iteC_d, b_add, b_sub, b_mul, b_mod, List.getElem?_cons_succ, List.getElem?_cons_zero, List.set_cons_succ, List.set_cons_zero]
      refine Out.Ok.rt (gen_take G f1.dw (by decide) (by decide)) fun v h2 ⟨⟨r2, ev, r20, r21⟩, f2⟩ => ?_
      subst ev
      simp only [i_int, sbnd_ok, bnd_ok, b_shl w0 (by omega : w ≤ 1000000) (by decide : (1 : Int).natAbs < 2 ^ 64), Int.one_mul, b_mod (show (0 : Int) < 2 ^ w.toNat by omega)]
      exact ⟨⟨_, rfl, Int.emod_nonneg _ (by omega), Int.emod_lt_of_pos _ (by omega)⟩, f1.trans f2⟩
end
end MP

set_option Elab.async false
set_option linter.all false
set_option maxRecDepth 100000
set_option maxHeartbeats 4000000
namespace MP
open PySem
open Out (ok bad)
/-- expressions -/
inductive X where
  | int (n : Int) | var (v : Int) | load (e : X) | un (o : Str) (e : X) | bin (o : Str) (a b : X)
def X.pv : X → PV
  | .int n => .tup [.str "int", .int n]
  | .var v => .tup [.str "var", .int v]
  | .load e => .tup [.str "load", e.pv]
  | .un o e => .tup [.str o, e.pv]
  | .bin o a b => .tup [.str o, a.pv, b.pv]
def X.good (w : Int) (vars : List Int) : X → Prop
  | .int n => 0 ≤ n ∧ n < 2 ^ w.toNat
  | .var v => v ∈ vars
  | .load e => e.good w vars
  | .un o e => o ∈ (["not", "neg"] : List Str) ∧ e.good w vars
  | .bin o a b => o ∈ pairs ∧ a.good w vars ∧ b.good w vars
def X.deep : X → Nat
  | .int _ => 1
  | .var _ => 1
  | .load e => e.deep + 1
  | .un _ e => e.deep + 1
  | .bin _ a b => max a.deep b.deep + 1
/-- what the random parts lean on -/
structure GP (h : PH) (P V : Nat) (w : Int) (vars : List Int) : Prop where
  dw : DW h
  p : h[P]? = some (.dic [(.str "draw", .ref 1), (.str "width", .int w), (.str "variables", .ref V)])
  v : h[V]? = some (.lst (vars.map PV.int))
  p2 : P ≠ 1
  v2 : V ≠ 1
  w0 : 0 ≤ w
  w1 : w ≤ 64
  ne : 0 < vars.length
  le : vars.length < 64
section
variable {T : Str → Option Df} {h h' : PH} {m w : Int} {k P V : Nat} {vars : List Int}
theorem GP.fr (g : GP h P V w vars) (f : Fr h h') : GP h' P V w vars := ⟨f.dw, f.at g.p g.p2, f.at g.v g.v2, g.p2, g.v2, g.w0, g.w1, g.ne, g.le⟩
theorem GP.draw (g : GP h P V w vars) : subF (.ref P) (.str "draw") h = ok (.ref 1) h := by
  simp only [subF, g.p, lookF, isKey, if_true]; rfl
theorem GP.width (g : GP h P V w vars) : subF (.ref P) (.str "width") h = ok (.int w) h := by
  simp only [subF, g.p, lookF, isKey, if_true]; rfl
theorem GP.variables (g : GP h P V w vars) : subF (.ref P) (.str "variables") h = ok (.ref V) h := by
  simp only [subF, g.p, lookF, isKey, if_true]; rfl
theorem item_int {xs : List Int} {r : Int} (h0 : 0 ≤ r) (h1 : r < xs.length) : ∃ v, v ∈ xs ∧ ∀ h, itemF (xs.map PV.int) (.int r) h = ok (.int v) h := by
  obtain ⟨v, hv⟩ : ∃ v, xs[r.toNat]? = some v := ⟨xs[r.toNat]'(by omega), List.getElem?_eq_getElem (by omega)⟩
  exact ⟨v, List.mem_of_getElem? hv, fun h => itemF_at h0 (by rw [List.getElem?_map, hv]; rfl)⟩
theorem item_str {xs : List Str} {r : Int} (h0 : 0 ≤ r) (h1 : r < xs.length) : ∃ v, v ∈ xs ∧ ∀ h, itemF (xs.map PV.str) (.int r) h = ok (.str v) h := by
  obtain ⟨v, hv⟩ : ∃ v, xs[r.toNat]? = some v := ⟨xs[r.toNat]'(by omega), List.getElem?_eq_getElem (by omega)⟩
  exact ⟨v, List.mem_of_getElem? hv, fun h => itemF_at h0 (by rw [List.getElem?_map, hv]; rfl)⟩
/-- an expression is told -/
def IsX (w : Int) (vars : List Int) (d : Nat) (v : PV) : Prop := ∃ e : X, v = e.pv ∧ e.good w vars ∧ e.deep ≤ d + 1
theorem or_b {a b : Bool} {h : PH} : (if a = true then ok true h else ok b h) = ok (a || b) h := by cases a <;> rfl
theorem and_b {a b : Bool} {h : PH} : (if a = true then ok b h else ok false h) = ok (a && b) h := by cases a <;> rfl
theorem gen_expr (G : Gen T) : ∀ (d k : Nat) (h : PH), GP h P V w vars → (evCall T (k + d + 3) "_law_expression" [.ref P, .int d] h).Ok fun v h' => IsX w vars d v ∧ Fr h h' := by
  intro d
  induction d using Nat.strongRecOn with
  | ind d ih =>
  intro k h g
  have hS : (64 : Nat) ≤ sizeLine := by decide
  have q2 : 2 ≤ sizeLine := by omega
  have q3 : 3 ≤ sizeLine := by omega
  have q12 : 12 ≤ sizeLine := by omega
  have l2 : ([PV.str "int", .non].length : Nat) = 2 := rfl
  refine call_ok G.expression rfl (by decide) ?_
  show (evSs (evCall T (k + d + 2)) g_expression [some (.ref P), some (.int d), none, none, none] h).Rt _
  unfold g_expression
  simp only [bnd_bnd, bnd_sbnd, sbnd_seq, seq_seq, seqC_ap, ss_cons, ss_nil, s_asg, s_ret, s_ite, s_ex, s_for, s_whl, e_non, e_bl, e_int, e_str, e_var, e_bin, e_neg, e_cmp, e_not, e_tup, e_lst, e_dic0, e_sub, e_call, e_bi, e_mt, kindG_same, e_isi, e_inv, e_lrg, e_lc, e_dc, wipeP, new, evEs, evT, evTs, evP, evI, evG, bnd_ok, sbnd_ok, seq_nx, seq_rt, to_nx, go_nx, go_ct, rt_rt, ok_ok, slot, item0, item1, item2, item3, sub_t, i_int, i_abs, i_lenT, c_eqI, c_neI, c_eqS, c_neS, c_lt, c_le, c_gt, c_ge, asB_bl, iteC_t, iteC_f, iteC_d, b_add, b_sub, b_mul, b_mod, List.getElem?_cons_succ, List.getElem?_cons_zero, List.set_cons_succ, List.set_cons_zero, g.draw]
  refine Out.Ok.rt (gen_take (k := k + d + 1) G g.dw (by decide) (by decide)) fun v h1 ⟨⟨r, ev, r0, r1⟩, f1⟩ => ?_
  subst ev
  have g1 := g.fr f1
  simp only [bnd_bnd, bnd_sbnd, sbnd_seq, seq_seq, seqC_ap, ss_cons, ss_nil, s_asg, s_ret, s_ite, s_ex, s_for, s_whl, e_non, e_bl, e_int, e_str, e_var, e_bin, e_neg, e_cmp, e_not, e_tup, e_lst, e_dic0, e_sub, e_call, e_bi, e_mt, kindG_same, e_isi, e_inv, e_lrg, e_lc, e_dc, wipeP, new, evEs, evT, evTs, evP, evI, evG, bnd_ok, sbnd_ok, seq_nx, seq_rt, to_nx, go_nx, go_ct, rt_rt, ok_ok, slot, item0, item1, item2, item3, sub_t, i_int, i_abs, i_lenT, c_eqI, c_neI, c_eqS, c_neS, c_lt, c_le, c_gt, c_ge, asB_bl, iteC_t, iteC_f, iteC_d, b_add, b_sub, b_mul, b_mod, or_b, List.getElem?_cons_succ, List.getElem?_cons_zero, List.set_cons_succ, List.set_cons_zero]
  by_cases c1 : (d : Int) = 0 ∨ r < 4
  · rw [show (decide ((d : Int) = 0) || decide (r < 4)) = true from by simpa using c1]
    simp only [bnd_bnd, bnd_sbnd, sbnd_seq, seq_seq, seqC_ap, ss_cons, ss_nil, s_asg, s_ret, s_ite, s_ex, s_for, s_whl, e_non, e_bl, e_int, e_str, e_var, e_bin, e_neg, e_cmp, e_not, e_tup, e_lst, e_dic0, e_sub, e_call, e_bi, e_mt, kindG_same, e_isi, e_inv, e_lrg, e_lc, e_dc, wipeP, new, evEs, evT, evTs, evP, evI, evG, bnd_ok, sbnd_ok, seq_nx, seq_rt, to_nx, go_nx, go_ct, rt_rt, ok_ok, slot, item0, item1, item2, item3, sub_t, i_int, i_abs, i_lenT, c_eqI, c_neI, c_eqS, c_neS, c_lt, c_le, c_gt, c_ge, asB_bl, iteC_t, iteC_f, iteC_d, b_add, b_sub, b_mul, b_mod, List.getElem?_cons_succ, List.getElem?_cons_zero, List.set_cons_succ, List.set_cons_zero]
    refine Out.Ok.rt (gen_take (k := k + d + 1) G g1.dw (by decide) (by decide)) fun v h2 ⟨⟨r2, ev, r20, r21⟩, f2⟩ => ?_
    subst ev
    have g2 := g1.fr f2
    simp only [bnd_bnd, bnd_sbnd, sbnd_seq, seq_seq, seqC_ap, ss_cons, ss_nil, s_asg, s_ret, s_ite, s_ex, s_for, s_whl, e_non, e_bl, e_int, e_str, e_var, e_bin, e_neg, e_cmp, e_not, e_tup, e_lst, e_dic0, e_sub, e_call, e_bi, e_mt, kindG_same, e_isi, e_inv, e_lrg, e_lc, e_dc, wipeP, new, evEs, evT, evTs, evP, evI, evG, bnd_ok, sbnd_ok, seq_nx, seq_rt, to_nx, go_nx, go_ct, rt_rt, ok_ok, slot, item0, item1, item2, item3, sub_t, i_int, i_abs, i_lenT, c_eqI, c_neI, c_eqS, c_neS, c_lt, c_le, c_gt, c_ge, asB_bl, iteC_t, iteC_f, iteC_d, b_add, b_sub, b_mul, b_mod]
    by_cases c2 : r2 = 0
    · rw [if_pos c2]
      simp only [bnd_bnd, bnd_sbnd, sbnd_seq, seq_seq, seqC_ap, ss_cons, ss_nil, s_asg, s_ret, s_ite, s_ex, s_for, s_whl, e_non, e_bl, e_int, e_str, e_var, e_bin, e_neg, e_cmp, e_not, e_tup, e_lst, e_dic0, e_sub, e_call, e_bi, e_mt, kindG_same, e_isi, e_inv, e_lrg, e_lc, e_dc, wipeP, new, evEs, evT, evTs, evP, evI, evG, bnd_ok, sbnd_ok, seq_nx, seq_rt, to_nx, go_nx, go_ct, rt_rt, ok_ok, slot, item0, item1, item2, item3, sub_t, i_int, i_abs, i_lenT, c_eqI, c_neI, c_eqS, c_neS, c_lt, c_le, c_gt, c_ge, asB_bl, iteC_t, iteC_f, iteC_d, b_add, b_sub, b_mul, b_mod, List.getElem?_cons_succ, List.getElem?_cons_zero, g2.width]
      refine Out.Ok.rt (gen_word (k := k + d) G g2.dw g2.w0 g2.w1) fun v h3 ⟨⟨n, ev, n0, n1⟩, f3⟩ => ?_
      subst ev
      simp only [List.length_cons, List.length_nil, q2, if_true, sbnd_ok, rt_rt, seq_rt]
      exact ⟨⟨.int n, rfl, ⟨n0, n1⟩, Nat.le_add_left _ _⟩, (f1.trans f2).trans f3⟩
    · rw [if_neg c2]
      simp only [bnd_bnd, bnd_sbnd, sbnd_seq, seq_seq, seqC_ap, ss_cons, ss_nil, s_asg, s_ret, s_ite, s_ex, s_for, s_whl, e_non, e_bl, e_int, e_str, e_var, e_bin, e_neg, e_cmp, e_not, e_tup, e_lst, e_dic0, e_sub, e_call, e_bi, e_mt, kindG_same, e_isi, e_inv, e_lrg, e_lc, e_dc, wipeP, new, evEs, evT, evTs, evP, evI, evG, bnd_ok, sbnd_ok, seq_nx, seq_rt, to_nx, go_nx, go_ct, rt_rt, ok_ok, slot, item0, item1, item2, item3, sub_t, i_int, i_abs, i_lenT, c_eqI, c_neI, c_eqS, c_neS, c_lt, c_le, c_gt, c_ge, asB_bl, iteC_t, iteC_f, iteC_d, b_add, b_sub, b_mul, b_mod, List.getElem?_cons_succ, List.getElem?_cons_zero, g2.variables, i_lenL g2.v, List.length_map]
      refine Out.Ok.rt (gen_take (k := k + d + 1) G g2.dw (by have := g2.ne; omega) (by have := g2.le; omega)) fun v h3 ⟨⟨r3, ev, r30, r31⟩, f3⟩ => ?_
      subst ev
      have g3 := g2.fr f3
      obtain ⟨x, hx, ex⟩ := item_int r30 r31
      simp only [sub_l g3.v, ex, bnd_ok, sbnd_ok, List.length_cons, List.length_nil, q2, if_true, rt_rt, seq_rt]
      exact ⟨⟨.var x, rfl, hx, Nat.le_add_left _ _⟩, (f1.trans f2).trans f3⟩
  · rw [show (decide ((d : Int) = 0) || decide (r < 4)) = false from by simpa using c1]
    obtain ⟨d', rfl⟩ : ∃ d', d = d' + 1 := ⟨d - 1, by omega⟩
    have ed : ((d' + 1 : Nat) : Int) - 1 = (d' : Int) := by omega
    have rex : ∀ h, GP h P V w vars → (evCall T (k + (d' + 1) + 2) "_law_expression" [.ref P, .int d'] h).Ok fun v h' => IsX w vars d' v ∧ Fr h h' := fun h g => by
      have := ih d' (by omega) k h g
      rw [show k + (d' + 1) + 2 = k + d' + 3 by omega]
      exact this
    simp only [bnd_bnd, bnd_sbnd, sbnd_seq, seq_seq, seqC_ap, ss_cons, ss_nil, s_asg, s_ret, s_ite, s_ex, s_for, s_whl, e_non, e_bl, e_int, e_str, e_var, e_bin, e_neg, e_cmp, e_not, e_tup, e_lst, e_dic0, e_sub, e_call, e_bi, e_mt, kindG_same, e_isi, e_inv, e_lrg, e_lc, e_dc, wipeP, new, evEs, evT, evTs, evP, evI, evG, bnd_ok, sbnd_ok, seq_nx, seq_rt, to_nx, go_nx, go_ct, rt_rt, ok_ok, slot, item0, item1, item2, item3, sub_t, i_int, i_abs, i_lenT, c_eqI, c_neI, c_eqS, c_neS, c_lt, c_le, c_gt, c_ge, asB_bl, iteC_t, iteC_f, iteC_d, b_add, b_sub, b_mul, b_mod, List.getElem?_cons_succ, List.getElem?_cons_zero, ed]
    by_cases c3 : r = 4
    · rw [if_pos c3]
      simp only [bnd_bnd, bnd_sbnd, sbnd_seq, seq_seq, seqC_ap, ss_cons, ss_nil, s_asg, s_ret, s_ite, s_ex, s_for, s_whl, e_non, e_bl, e_int, e_str, e_var, e_bin, e_neg, e_cmp, e_not, e_tup, e_lst, e_dic0, e_sub, e_call, e_bi, e_mt, kindG_same, e_isi, e_inv, e_lrg, e_lc, e_dc, wipeP, new, evEs, evT, evTs, evP, evI, evG, bnd_ok, sbnd_ok, seq_nx, seq_rt, to_nx, go_nx, go_ct, rt_rt, ok_ok, slot, item0, item1, item2, item3, sub_t, i_int, i_abs, i_lenT, c_eqI, c_neI, c_eqS, c_neS, c_lt, c_le, c_gt, c_ge, asB_bl, iteC_t, iteC_f, iteC_d, b_add, b_sub, b_mul, b_mod, List.getElem?_cons_succ, List.getElem?_cons_zero, ed]
      refine Out.Ok.rt (rex h1 g1) fun v h2 ⟨⟨e, ev, eg, edp⟩, f2⟩ => ?_
      subst ev
      simp only [List.length_cons, List.length_nil, q2, if_true, bnd_ok, sbnd_ok, rt_rt, seq_rt]
      exact ⟨⟨.load e, rfl, eg, Nat.succ_le_succ edp⟩, f1.trans f2⟩
    · rw [if_neg c3]
      simp only [bnd_bnd, bnd_sbnd, sbnd_seq, seq_seq, seqC_ap, ss_cons, ss_nil, s_asg, s_ret, s_ite, s_ex, s_for, s_whl, e_non, e_bl, e_int, e_str, e_var, e_bin, e_neg, e_cmp, e_not, e_tup, e_lst, e_dic0, e_sub, e_call, e_bi, e_mt, kindG_same, e_isi, e_inv, e_lrg, e_lc, e_dc, wipeP, new, evEs, evT, evTs, evP, evI, evG, bnd_ok, sbnd_ok, seq_nx, seq_rt, to_nx, go_nx, go_ct, rt_rt, ok_ok, slot, item0, item1, item2, item3, sub_t, i_int, i_abs, i_lenT, c_eqI, c_neI, c_eqS, c_neS, c_lt, c_le, c_gt, c_ge, asB_bl, iteC_t, iteC_f, iteC_d, b_add, b_sub, b_mul, b_mod, List.getElem?_cons_succ, List.getElem?_cons_zero, ed]
      by_cases c4 : r = 5
      · rw [if_pos c4]
        simp only [bnd_bnd, bnd_sbnd, sbnd_seq, seq_seq, seqC_ap, ss_cons, ss_nil, s_asg, s_ret, s_ite, s_ex, s_for, s_whl, e_non, e_bl, e_int, e_str, e_var, e_bin, e_neg, e_cmp, e_not, e_tup, e_lst, e_dic0, e_sub, e_call, e_bi, e_mt, kindG_same, e_isi, e_inv, e_lrg, e_lc, e_dc, wipeP, new, evEs, evT, evTs, evP, evI, evG, bnd_ok, sbnd_ok, seq_nx, seq_rt, to_nx, go_nx, go_ct, rt_rt, ok_ok, slot, item0, item1, item2, item3, sub_t, i_int, i_abs, i_lenT, c_eqI, c_neI, c_eqS, c_neS, c_lt, c_le, c_gt, c_ge, asB_bl, iteC_t, iteC_f, iteC_d, b_add, b_sub, b_mul, b_mod, List.getElem?_cons_succ, List.getElem?_cons_zero, List.length_cons, List.length_nil, q2, if_true]
        have fn := Fr.new g1.dw (.lst [.str "not", .str "neg"])
        refine Out.Ok.rt (gen_take (k := k + (d' + 1) + 1) G fn.dw (by decide) (by decide)) fun v h2 ⟨⟨r3, ev, r30, r31⟩, f2⟩ => ?_
        subst ev
        have g2 := (g1.fr fn).fr f2
        have en : h2[h1.length]? = some (.lst ((["not", "neg"] : List Str).map PV.str)) := f2.at at_new (by have := g1.dw.two; omega)
        obtain ⟨x, hx, ex⟩ := item_str (xs := ["not", "neg"]) r30 r31
        simp only [sub_l en, ex, bnd_ok, sbnd_ok]
        refine Out.Ok.rt (rex h2 g2) fun v h3 ⟨⟨e, ev, eg, edp⟩, f3⟩ => ?_
        subst ev
        simp only [List.length_cons, List.length_nil, q2, if_true, bnd_ok, sbnd_ok, rt_rt, seq_rt]
        exact ⟨⟨.un x e, rfl, ⟨hx, eg⟩, Nat.succ_le_succ edp⟩, ((f1.trans fn).trans f2).trans f3⟩
      · rw [if_neg c4]
        simp only [bnd_bnd, bnd_sbnd, sbnd_seq, seq_seq, seqC_ap, ss_cons, ss_nil, s_asg, s_ret, s_ite, s_ex, s_for, s_whl, e_non, e_bl, e_int, e_str, e_var, e_bin, e_neg, e_cmp, e_not, e_tup, e_lst, e_dic0, e_sub, e_call, e_bi, e_mt, kindG_same, e_isi, e_inv, e_lrg, e_lc, e_dc, wipeP, new, evEs, evT, evTs, evP, evI, evG, bnd_ok, sbnd_ok, seq_nx, seq_rt, to_nx, go_nx, go_ct, rt_rt, ok_ok, slot, item0, item1, item2, item3, sub_t, i_int, i_abs, i_lenT, c_eqI, c_neI, c_eqS, c_neS, c_lt, c_le, c_gt, c_ge, asB_bl, iteC_t, iteC_f, iteC_d, b_add, b_sub, b_mul, b_mod, List.getElem?_cons_succ, List.getElem?_cons_zero]
        refine Out.Ok.rt (gen_pairs (k := k + (d' + 1) + 1) G) fun v h2 ⟨ev, eh⟩ => ?_
        subst ev eh
        have fn := Fr.new g1.dw (.lst (pairs.map PV.str))
        simp only [bnd_bnd, bnd_sbnd, sbnd_seq, seq_seq, seqC_ap, ss_cons, ss_nil, s_asg, s_ret, s_ite, s_ex, s_for, s_whl, e_non, e_bl, e_int, e_str, e_var, e_bin, e_neg, e_cmp, e_not, e_tup, e_lst, e_dic0, e_sub, e_call, e_bi, e_mt, kindG_same, e_isi, e_inv, e_lrg, e_lc, e_dc, wipeP, new, evEs, evT, evTs, evP, evI, evG, bnd_ok, sbnd_ok, seq_nx, seq_rt, to_nx, go_nx, go_ct, rt_rt, ok_ok, slot, item0, item1, item2, item3, sub_t, i_int, i_abs, i_lenT, c_eqI, c_neI, c_eqS, c_neS, c_lt, c_le, c_gt, c_ge, asB_bl, iteC_t, iteC_f, iteC_d, b_add, b_sub, b_mul, b_mod, List.length_cons, List.length_nil, q12, if_true]
        have fn2 := Fr.new fn.dw (.lst (([0, 0, 1, 2, 3, 4, 5, 6, 7, 8, 9, 0] : List Int).map PV.int))
        refine Out.Ok.rt (gen_take (k := k + (d' + 1) + 1) G fn2.dw (by decide) (by decide)) fun v h3 ⟨⟨r3, ev, r30, r31⟩, f3⟩ => ?_
        subst ev
        have g3 := ((g1.fr fn).fr fn2).fr f3
        have two := g1.dw.two
        have en : h3[h1.length]? = some (.lst (pairs.map PV.str)) := f3.at (fn2.at at_new (by omega)) (by omega)
        have en2 : h3[(h1 ++ [PO.lst (pairs.map PV.str)]).length]? = some (.lst (([0, 0, 1, 2, 3, 4, 5, 6, 7, 8, 9, 0] : List Int).map PV.int)) := f3.at at_new (by rw [List.length_append]; simp only [List.length_cons, List.length_nil]; omega)
        obtain ⟨x, hx, ex⟩ := item_int (xs := [0, 0, 1, 2, 3, 4, 5, 6, 7, 8, 9, 0]) r30 (by simpa using r31)
        have hx2 : 0 ≤ x ∧ x < 10 := by
          simp only [List.mem_cons, List.not_mem_nil, or_false] at hx
          omega
        obtain ⟨y, hy, ey⟩ := item_str (xs := pairs) hx2.1 (by simpa [pairs] using hx2.2)
        simp only [sub_l en2, ex, sub_l en, ey, bnd_ok, sbnd_ok, g_nm, seq_nx, bnd_bnd, bnd_sbnd, sbnd_seq, seq_seq, seqC_ap, ss_cons, ss_nil, s_asg, s_ret, s_ite, s_ex, s_for, s_whl, e_non, e_bl, e_int, e_str, e_var, e_bin, e_neg, e_cmp, e_not, e_tup, e_lst, e_dic0, e_sub, e_call, e_bi, e_mt, kindG_same, e_isi, e_inv, e_lrg, e_lc, e_dc, wipeP, new, evEs, evT, evTs, evP, evI, evG, bnd_ok, sbnd_ok, seq_nx, seq_rt, to_nx, go_nx, go_ct, rt_rt, ok_ok, slot, item0, item1, item2, item3, sub_t, i_int, i_abs, i_lenT, c_eqI, c_neI, c_eqS, c_neS, c_lt, c_le, c_gt, c_ge, asB_bl, iteC_t, iteC_f, iteC_d, b_add, b_sub, b_mul, b_mod, List.getElem?_cons_succ, List.getElem?_cons_zero, List.set_cons_succ, List.set_cons_zero, ed]
        refine Out.Ok.rt (rex h3 g3) fun v h4 ⟨⟨e1, ev, eg1, ed1⟩, f4⟩ => ?_
        subst ev
        have g4 := g3.fr f4
        refine Out.Ok.rt (rex h4 g4) fun v h5 ⟨⟨e2, ev, eg2, ed2⟩, f5⟩ => ?_
        subst ev
        simp only [List.length_cons, List.length_nil, q3, if_true, bnd_ok, sbnd_ok, rt_rt, seq_rt]
        exact ⟨⟨.bin y e1 e2, rfl, ⟨hy, eg1, eg2⟩, by simp only [X.deep]; omega⟩, ((((f1.trans fn).trans fn2).trans f3).trans f4).trans f5⟩
end
end MP

set_option Elab.async false
set_option linter.all false
set_option maxRecDepth 100000
set_option maxHeartbeats 4000000
namespace MP
open PySem
open Out (ok bad)
/-! ### equal data -/
section
variable {h : PH} {n : Nat}
theorem d_int {i : Int} : datum h (n + 1) (.int i) = some (.int i) := by unfold datum; rfl
theorem d_str {i : Str} : datum h (n + 1) (.str i) = some (.str i) := by unfold datum; rfl
theorem d_tup {xs : List PV} {ds : List PyData} (e : dataL (datum h n) xs = some ds) : datum h (n + 1) (.tup xs) = some (.tuple ds) := by
  unfold datum; rw [e]; rfl
theorem d_lst {l : Nat} {xs : List PV} {ds : List PyData} (q : h[l]? = some (.lst xs)) (e : dataL (datum h n) xs = some ds) : datum h (n + 1) (.ref l) = some (.list ds) := by
  unfold datum
  simp only [q, e]
  rfl
theorem dl_nil {f : PV → Option PyData} : dataL f [] = some [] := rfl
theorem dl_cons {f : PV → Option PyData} {x : PV} {xs : List PV} {d : PyData} {ds : List PyData} (e : f x = some d) (es : dataL f xs = some ds) : dataL f (x :: xs) = some (d :: ds) := by
  simp only [dataL, e, es]
theorem dl_map {α : Type} {f : PV → Option PyData} {p : α → PV} {q : α → PyData} : ∀ {l : List α}, (∀ x ∈ l, f (p x) = some (q x)) → dataL f (l.map p) = some (l.map q)
  | [], _ => rfl
  | x :: r, e => dl_cons (e x (by simp)) (dl_map fun y hy => e y (List.mem_cons_of_mem _ hy))
theorem eq_data {x y : PV} {d e : PyData} (hx : (∃ l, x = .ref l) ∨ ∃ xs, x = .tup xs) (h1 : datum h 64 x = some d) (h2 : datum h 64 y = some e) (s1 : SeqAt.shaped d = true) (s2 : SeqAt.shaped e = true) : eqB x y h = ok (PyData.eqv d e) h := by
  rcases hx with ⟨l, rfl⟩ | ⟨xs, rfl⟩ <;> simp only [eqB, h1, h2, s1, s2, and_self, if_true]
theorem c_eq {x y : PV} {b : Bool} (e : eqB x y h = ok b h) : cmpF .Eq x y h = ok (.bl b) h := by simp only [cmpF, e, bnd_ok]
theorem c_ne {x y : PV} {b : Bool} (e : eqB x y h = ok b h) : cmpF .NotEq x y h = ok (.bl (!b)) h := by simp only [cmpF, e, bnd_ok]
theorem lay_all {α : Type} {q : α → PyData} : ∀ {l : List α}, (∀ x ∈ l, (q x).canLay0 = true) → PyData.canLayAll0 (l.map q) = true
  | [], _ => rfl
  | x :: r, e => by
    rw [List.map_cons]
    unfold PyData.canLayAll0
    rw [e x (by simp), lay_all fun y hy => e y (List.mem_cons_of_mem _ hy)]
    rfl
theorem deep_all {α : Type} {q : α → PyData} {m : Nat} : ∀ {l : List α}, (∀ x ∈ l, (q x).depth ≤ m) → PyData.depthAll (l.map q) ≤ m
  | [], _ => Nat.zero_le _
  | x :: r, e => by
    rw [List.map_cons]
    unfold PyData.depthAll
    exact Nat.max_le.mpr ⟨e x (by simp), deep_all fun y hy => e y (List.mem_cons_of_mem _ hy)⟩
theorem shaped_of {d : PyData} (h1 : d.canLay0 = true) (h2 : d.depth ≤ 64) : SeqAt.shaped d = true := by
  unfold SeqAt.shaped
  rw [h1, Bool.true_and]
  exact decide_eq_true h2
theorem eqv_map {α : Type} {q : α → PyData} : ∀ {l m : List α}, (∀ x ∈ l, ∀ y ∈ m, PyData.eqv (q x) (q y) = true ↔ x = y) → (PyData.eqvAll (l.map q) (m.map q) = true ↔ l = m)
  | [], [], _ => by simp [PyData.eqvAll]
  | [], _ :: _, _ => by simp [PyData.eqvAll]
  | _ :: _, [], _ => by simp [PyData.eqvAll]
  | x :: l, y :: m, e => by
    rw [List.map_cons, List.map_cons]
    unfold PyData.eqvAll
    rw [Bool.and_eq_true, e x (by simp) y (by simp), eqv_map fun a ha b hb => e a (List.mem_cons_of_mem _ ha) b (List.mem_cons_of_mem _ hb)]
    simp
theorem eqv_int {i j : Int} : PyData.eqv (.int i) (.int j) = true ↔ i = j := by unfold PyData.eqv; simp
theorem lay_ints {l : List Int} : PyData.canLayAll0 (l.map PyData.int) = true := lay_all fun x _ => by unfold PyData.canLay0; rfl
theorem deep_ints {l : List Int} : PyData.depthAll (l.map PyData.int) ≤ 0 := deep_all fun x _ => by unfold PyData.depth; exact Nat.le_refl _
theorem shaped_list {ds : List PyData} {m : Nat} (h1 : PyData.canLayAll0 ds = true) (h2 : PyData.depthAll ds ≤ m) (hm : m ≤ 63) : SeqAt.shaped (.list ds) = true :=
  shaped_of (by unfold PyData.canLay0; exact h1) (by unfold PyData.depth; omega)
theorem shaped_tuple {ds : List PyData} {m : Nat} (h1 : PyData.canLayAll0 ds = true) (h2 : PyData.depthAll ds ≤ m) (hm : m ≤ 63) : SeqAt.shaped (.tuple ds) = true :=
  shaped_of (by unfold PyData.canLay0; exact h1) (by unfold PyData.depth; omega)
theorem eqv_list {a b : List PyData} : PyData.eqv (.list a) (.list b) = PyData.eqvAll a b := by conv => lhs; unfold PyData.eqv
theorem eqv_tuple {a b : List PyData} : PyData.eqv (.tuple a) (.tuple b) = PyData.eqvAll a b := by conv => lhs; unfold PyData.eqv
/-- lists of ints -/
theorem eq_ints {a b : Nat} {xs ys : List Int} (e1 : h[a]? = some (.lst (xs.map PV.int))) (e2 : h[b]? = some (.lst (ys.map PV.int))) : eqB (.ref a) (.ref b) h = ok (decide (xs = ys)) h := by
  have k : ∀ l : List Int, dataL (datum h 63) (l.map PV.int) = some (l.map PyData.int) := fun l => dl_map fun x _ => d_int
  rw [eq_data (.inl ⟨_, rfl⟩) (d_lst e1 (k xs)) (d_lst e2 (k ys)) (shaped_list lay_ints deep_ints (by decide)) (shaped_list lay_ints deep_ints (by decide)), eqv_list]
  congr 1
  rw [Bool.eq_iff_iff, decide_eq_true_eq]
  exact eqv_map fun x _ y _ => eqv_int
/-- tuples of ints -/
theorem eq_tints {xs ys : List Int} : eqB (.tup (xs.map PV.int)) (.tup (ys.map PV.int)) h = ok (decide (xs = ys)) h := by
  have k : ∀ l : List Int, dataL (datum h 63) (l.map PV.int) = some (l.map PyData.int) := fun l => dl_map fun x _ => d_int
  rw [eq_data (.inr ⟨_, rfl⟩) (d_tup (k xs)) (d_tup (k ys)) (shaped_tuple lay_ints deep_ints (by decide)) (shaped_tuple lay_ints deep_ints (by decide)), eqv_tuple]
  congr 1
  rw [Bool.eq_iff_iff, decide_eq_true_eq]
  exact eqv_map fun x _ y _ => eqv_int
end
/-! ### statements -/
inductive Sm where
  | set (v : Int) (e : X) | write (e : X) | store (a b : X)
def Sm.pv : Sm → PV
  | .set v e => .tup [.str "set", .int v, e.pv]
  | .write e => .tup [.str "write", e.pv]
  | .store a b => .tup [.str "store", a.pv, b.pv]
def Sm.good (w : Int) (vars : List Int) : Sm → Prop
  | .set v e => v ∈ vars ∧ e.good w vars ∧ e.deep ≤ 3
  | .write e => e.good w vars ∧ e.deep ≤ 3
  | .store a b => (a.good w vars ∧ a.deep ≤ 3) ∧ b.good w vars ∧ b.deep ≤ 3
section
variable {T : Str → Option Df} {h h' : PH} {m w : Int} {k P V : Nat} {vars : List Int}
theorem gen_expr' (G : Gen T) {d k : Nat} {i : Int} (hi : i = d) (hk : d + 3 ≤ k) (g : GP h P V w vars) : (evCall T k "_law_expression" [.ref P, .int i] h).Ok fun v h' => IsX w vars d v ∧ Fr h h' := by
  subst hi
  have := gen_expr G d (k - (d + 3)) h g
  rw [show k - (d + 3) + d + 3 = k by omega] at this
  exact this
theorem gen_take' (G : Gen T) {k : Nat} (hk : 1 ≤ k) (d : DW h) (h0 : 0 < m) (h1 : m < 1073741824) : (evCall T k "_law_take" [.ref 1, .int m] h).Ok fun v h' => (∃ r : Int, v = .int r ∧ 0 ≤ r ∧ r < m) ∧ Fr h h' := by
  have := gen_take (k := k - 1) G d h0 h1
  rw [show k - 1 + 1 = k by omega] at this
  exact this
theorem gen_stmt (G : Gen T) {k : Nat} (hk : 6 ≤ k) (g : GP h P V w vars) : (evCall T k "_law_statement" [.ref P] h).Ok fun v h' => (∃ s : Sm, v = s.pv ∧ s.good w vars) ∧ Fr h h' := by
  obtain ⟨k, rfl⟩ : ∃ j, k = j + 1 := ⟨k - 1, by omega⟩
  have hS : (64 : Nat) ≤ sizeLine := by decide
  have q2 : 2 ≤ sizeLine := by omega
  have q3 : 3 ≤ sizeLine := by omega
  refine call_ok G.statement rfl (by decide) ?_
  show (evSs (evCall T k) g_statement [some (.ref P), none, none] h).Rt _
  unfold g_statement
  simp only [bnd_bnd, bnd_sbnd, sbnd_seq, seq_seq, seqC_ap, ss_cons, ss_nil, s_asg, s_ret, s_ite, s_ex, s_for, s_whl, e_non, e_bl, e_int, e_str, e_var, e_bin, e_neg, e_cmp, e_not, e_tup, e_lst, e_dic0, e_sub, e_call, e_bi, e_mt, kindG_same, e_isi, e_inv, e_lrg, e_lc, e_dc, wipeP, new, evEs, evT, evTs, evP, evI, evG, bnd_ok, sbnd_ok, seq_nx, seq_rt, to_nx, go_nx, go_ct, rt_rt, ok_ok, slot, item0, item1, item2, item3, sub_t, i_int, i_abs, i_lenT, c_eqI, c_neI, c_eqS, c_neS, c_lt, c_le, c_gt, c_ge, asB_bl, iteC_t, iteC_f, iteC_d, b_add, b_sub, b_mul, b_mod, List.getElem?_cons_succ, List.getElem?_cons_zero, List.set_cons_succ, List.set_cons_zero, g.draw]
  refine Out.Ok.rt (gen_take' G (by omega) g.dw (by decide) (by decide)) fun v h1 ⟨⟨r, ev, r0, r1⟩, f1⟩ => ?_
  subst ev
  have g1 := g.fr f1
  simp only [bnd_bnd, bnd_sbnd, sbnd_seq, seq_seq, seqC_ap, ss_cons, ss_nil, s_asg, s_ret, s_ite, s_ex, s_for, s_whl, e_non, e_bl, e_int, e_str, e_var, e_bin, e_neg, e_cmp, e_not, e_tup, e_lst, e_dic0, e_sub, e_call, e_bi, e_mt, kindG_same, e_isi, e_inv, e_lrg, e_lc, e_dc, wipeP, new, evEs, evT, evTs, evP, evI, evG, bnd_ok, sbnd_ok, seq_nx, seq_rt, to_nx, go_nx, go_ct, rt_rt, ok_ok, slot, item0, item1, item2, item3, sub_t, i_int, i_abs, i_lenT, c_eqI, c_neI, c_eqS, c_neS, c_lt, c_le, c_gt, c_ge, asB_bl, iteC_t, iteC_f, iteC_d, b_add, b_sub, b_mul, b_mod, List.getElem?_cons_succ, List.getElem?_cons_zero, List.set_cons_succ, List.set_cons_zero]
  by_cases c1 : r < 5
  · rw [if_pos c1]
    simp only [bnd_bnd, bnd_sbnd, sbnd_seq, seq_seq, seqC_ap, ss_cons, ss_nil, s_asg, s_ret, s_ite, s_ex, s_for, s_whl, e_non, e_bl, e_int, e_str, e_var, e_bin, e_neg, e_cmp, e_not, e_tup, e_lst, e_dic0, e_sub, e_call, e_bi, e_mt, kindG_same, e_isi, e_inv, e_lrg, e_lc, e_dc, wipeP, new, evEs, evT, evTs, evP, evI, evG, bnd_ok, sbnd_ok, seq_nx, seq_rt, to_nx, go_nx, go_ct, rt_rt, ok_ok, slot, item0, item1, item2, item3, sub_t, i_int, i_abs, i_lenT, c_eqI, c_neI, c_eqS, c_neS, c_lt, c_le, c_gt, c_ge, asB_bl, iteC_t, iteC_f, iteC_d, b_add, b_sub, b_mul, b_mod, List.getElem?_cons_succ, List.getElem?_cons_zero, g1.variables, i_lenL g1.v, List.length_map]
    refine Out.Ok.rt (gen_take' G (by omega) g1.dw (by have := g1.ne; omega) (by have := g1.le; omega)) fun v h2 ⟨⟨r2, ev, r20, r21⟩, f2⟩ => ?_
    subst ev
    have g2 := g1.fr f2
    obtain ⟨x, hx, ex⟩ := item_int r20 r21
    simp only [sub_l g2.v, ex, bnd_ok, sbnd_ok]
    refine Out.Ok.rt (gen_expr' G (d := 2) rfl (by omega) g2) fun v h3 ⟨⟨e, ev, eg, ed⟩, f3⟩ => ?_
    subst ev
    simp only [List.length_cons, List.length_nil, q3, if_true, bnd_ok, sbnd_ok, rt_rt, seq_rt]
    exact ⟨⟨.set x e, rfl, hx, eg, ed⟩, (f1.trans f2).trans f3⟩
  · rw [if_neg c1]
    simp only [bnd_bnd, bnd_sbnd, sbnd_seq, seq_seq, seqC_ap, ss_cons, ss_nil, s_asg, s_ret, s_ite, s_ex, s_for, s_whl, e_non, e_bl, e_int, e_str, e_var, e_bin, e_neg, e_cmp, e_not, e_tup, e_lst, e_dic0, e_sub, e_call, e_bi, e_mt, kindG_same, e_isi, e_inv, e_lrg, e_lc, e_dc, wipeP, new, evEs, evT, evTs, evP, evI, evG, bnd_ok, sbnd_ok, seq_nx, seq_rt, to_nx, go_nx, go_ct, rt_rt, ok_ok, slot, item0, item1, item2, item3, sub_t, i_int, i_abs, i_lenT, c_eqI, c_neI, c_eqS, c_neS, c_lt, c_le, c_gt, c_ge, asB_bl, iteC_t, iteC_f, iteC_d, b_add, b_sub, b_mul, b_mod, List.getElem?_cons_succ, List.getElem?_cons_zero]
    by_cases c2 : r < 7
    · rw [if_pos c2]
      simp only [bnd_bnd, bnd_sbnd, sbnd_seq, seq_seq, seqC_ap, ss_cons, ss_nil, s_asg, s_ret, s_ite, s_ex, s_for, s_whl, e_non, e_bl, e_int, e_str, e_var, e_bin, e_neg, e_cmp, e_not, e_tup, e_lst, e_dic0, e_sub, e_call, e_bi, e_mt, kindG_same, e_isi, e_inv, e_lrg, e_lc, e_dc, wipeP, new, evEs, evT, evTs, evP, evI, evG, bnd_ok, sbnd_ok, seq_nx, seq_rt, to_nx, go_nx, go_ct, rt_rt, ok_ok, slot, item0, item1, item2, item3, sub_t, i_int, i_abs, i_lenT, c_eqI, c_neI, c_eqS, c_neS, c_lt, c_le, c_gt, c_ge, asB_bl, iteC_t, iteC_f, iteC_d, b_add, b_sub, b_mul, b_mod, List.getElem?_cons_succ, List.getElem?_cons_zero]
      refine Out.Ok.rt (gen_expr' G (d := 2) rfl (by omega) g1) fun v h3 ⟨⟨e, ev, eg, ed⟩, f3⟩ => ?_
      subst ev
      simp only [List.length_cons, List.length_nil, q2, if_true, bnd_ok, sbnd_ok, rt_rt, seq_rt]
      exact ⟨⟨.write e, rfl, eg, ed⟩, f1.trans f3⟩
    · rw [if_neg c2]
      simp only [bnd_bnd, bnd_sbnd, sbnd_seq, seq_seq, seqC_ap, ss_cons, ss_nil, s_asg, s_ret, s_ite, s_ex, s_for, s_whl, e_non, e_bl, e_int, e_str, e_var, e_bin, e_neg, e_cmp, e_not, e_tup, e_lst, e_dic0, e_sub, e_call, e_bi, e_mt, kindG_same, e_isi, e_inv, e_lrg, e_lc, e_dc, wipeP, new, evEs, evT, evTs, evP, evI, evG, bnd_ok, sbnd_ok, seq_nx, seq_rt, to_nx, go_nx, go_ct, rt_rt, ok_ok, slot, item0, item1, item2, item3, sub_t, i_int, i_abs, i_lenT, c_eqI, c_neI, c_eqS, c_neS, c_lt, c_le, c_gt, c_ge, asB_bl, iteC_t, iteC_f, iteC_d, b_add, b_sub, b_mul, b_mod, List.getElem?_cons_succ, List.getElem?_cons_zero]
      refine Out.Ok.rt (gen_expr' G (d := 1) rfl (by omega) g1) fun v h2 ⟨⟨a, ev, ag, ad⟩, f2⟩ => ?_
      subst ev
      have g2 := g1.fr f2
      refine Out.Ok.rt (gen_expr' G (d := 2) rfl (by omega) g2) fun v h3 ⟨⟨b, ev, bg, bd⟩, f3⟩ => ?_
      subst ev
      simp only [List.length_cons, List.length_nil, q3, if_true, bnd_ok, sbnd_ok, rt_rt, seq_rt]
      exact ⟨⟨.store a b, rfl, ⟨ag, by omega⟩, bg, bd⟩, (f1.trans f2).trans f3⟩
end
end MP

set_option Elab.async false
set_option linter.all false
set_option maxRecDepth 100000
set_option maxHeartbeats 4000000
namespace MP
open PySem
open Out (ok bad)
/-! ### functions -/
inductive En where
  | ret (e : X) | go (l : Int) | br (e : X) (a b : Int)
def En.pv : En → PV
  | .ret e => .tup [.str "return", e.pv]
  | .go l => .tup [.str "go", .int l]
  | .br e a b => .tup [.str "if", e.pv, .int a, .int b]
def En.good (w : Int) (vars : List Int) (Ls : List Int) : En → Prop
  | .ret e => e.good w vars ∧ e.deep ≤ 3
  | .go l => l ∈ Ls
  | .br e a b => (e.good w vars ∧ e.deep ≤ 3) ∧ a ∈ Ls ∧ b ∈ Ls
structure Bk where
  l : Int
  ss : List Sm
  en : En
def Bk.pv (b : Bk) : PV := .tup [.int b.l, .tup (b.ss.map Sm.pv), b.en.pv]
def Bk.good (w : Int) (vars : List Int) (Ls : List Int) (M : Int) (b : Bk) : Prop := (b.ss.length : Int) ≤ M ∧ (∀ s ∈ b.ss, s.good w vars) ∧ b.en.good w vars Ls
structure Fn where
  w : Int
  np : Int
  bs : List Bk
def Fn.pv (f : Fn) : PV := .tup [.int f.w, .int f.np, .tup (f.bs.map Bk.pv)]
def Fn.labels (f : Fn) : List Int := f.bs.map Bk.l
structure Fn.Good (f : Fn) (vars : List Int) (B M : Int) : Prop where
  w1 : 1 ≤ f.w
  w2 : f.w ≤ 16
  n0 : 0 ≤ f.np
  n1 : f.np ≤ 6
  nd : f.labels.Nodup
  lo : ∀ l ∈ f.labels, 3 ≤ l
  one : 1 ≤ f.bs.length
  most : (f.bs.length : Int) ≤ B
  bk : ∀ b ∈ f.bs, b.good f.w vars f.labels M
  v1 : 2 ≤ vars.length
  v2 : vars.length ≤ 7
  vr : ∀ v ∈ vars, 0 ≤ v ∧ v < 100
section
variable {C : Str → List PV → PH → Out PV} {s : PSt} {h : PH}
theorem e_dic {ks : Ks} : evE C (.dic ks) s h = (evD C ks s h).bnd fun ps h => if (ps.all fun p => isKey p.1) = true ∧ ps.length ≤ 15 then new (.dic (dAll ps)) h else bad := by conv => lhs; unfold evE
theorem d_cons {k v : E} {r : Ks} : evD C (.cons k v r) s h = (evE C k s h).bnd fun x h => (evE C v s h).bnd fun y h => (evD C r s h).bnd fun ps h => ok ((x, y) :: ps) h := by conv => lhs; unfold evD
theorem d_nil : evD C .nil s h = ok [] h := by conv => lhs; unfold evD
theorem e_slice {a : E} {lo hi : Pt} : evE C (.slc a lo hi) s h = (evE C a s h).bnd fun x h => (evP C lo s h).bnd fun y h => (evP C hi s h).bnd fun z h => slcF x y z h := by conv => lhs; unfold evE
end
theorem dAll_p (x y z : PV) : dAll [(.str "draw", x), (.str "width", y), (.str "variables", z)] = [(.str "draw", x), (.str "width", y), (.str "variables", z)] := rfl
theorem cut_to {α : Type} {xs : List PV} {n : Int} (h0 : 0 ≤ n) : cutP xs none (some n) = xs.take n.toNat := by
  unfold cutP cut
  rw [HT.sIx_none]
  have : HT.sIx xs.length xs.length (some n) = min n.toNat xs.length := by
    show (if n < 0 then _ else _) = _
    rw [if_neg (by omega)]
  rw [this]
  simp [List.take_eq_take_iff]
theorem cut_from {α : Type} {xs : List PV} {n : Int} (h0 : 0 ≤ n) : cutP xs (some n) none = xs.drop n.toNat := by
  unfold cutP cut
  rw [HT.sIx_none]
  have : HT.sIx xs.length 0 (some n) = min n.toNat xs.length := by
    show (if n < 0 then _ else _) = _
    rw [if_neg (by omega)]
  rw [this]
  by_cases e : n.toNat ≤ xs.length
  · rw [Nat.min_eq_left e, List.take_of_length_le (by simp)]
  · rw [Nat.min_eq_right (by omega), List.drop_eq_nil_of_le (Nat.le_refl _), List.drop_eq_nil_of_le (by omega)]
    simp
theorem slc_l {l : Nat} {xs : List PV} {h : PH} {a b : Option Int} (e : h[l]? = some (.lst xs)) : slcF (.ref l) a b h = ok (.ref h.length) (h ++ [.lst (cutP xs a b)]) := by
  simp only [slcF, e, new]
section
variable {T : Str → Option Df} {h h' : PH} {m w : Int} {k P V : Nat} {vars : List Int}
/-- the first part: the width, the parameters, the variables -/
def fnHead (r : Ss) : Ss :=
    (.cons (.asg (.nm 3) (.sub (.lst (.cons (.int 1) (.cons (.int 2) (.cons (.int 3) (.cons (.int 4) (.cons (.int 8) (.cons (.int 16) (.cons (.bin .Add (.int 1) (.call "_law_take" (.cons (.var 0) (.cons (.int 16) .nil)))) .nil)))))))) (.call "_law_take" (.cons (.var 0) (.cons (.int 7) .nil)))))
    (.cons (.asg (.nm 4) (.sub (.lst (.cons (.int 0) (.cons (.int 1) (.cons (.int 2) (.cons (.int 3) (.cons (.call "_law_take" (.cons (.var 0) (.cons (.int 7) .nil))) .nil)))))) (.call "_law_take" (.cons (.var 0) (.cons (.int 5) .nil)))))
    (.cons (.asg (.nm 5) (.slc (.sub (.lst (.cons (.lst (.cons (.int 0) (.cons (.int 1) (.cons (.int 2) (.cons (.int 3) (.cons (.int 7) (.cons (.int 40) .nil))))))) (.cons (.lst (.cons (.int 0) (.cons (.int 1) (.cons (.int 53) (.cons (.int 3) (.cons (.int 4) (.cons (.int 5) (.cons (.int 99) .nil)))))))) .nil))) (.call "_law_take" (.cons (.var 0) (.cons (.int 2) .nil)))) .none (.some (.bin .Add (.int 2) (.call "_law_take" (.cons (.var 0) (.cons (.int 6) .nil)))))))
    (.cons (.asg (.nm 6) (.dic (.cons (.str "draw") (.var 0) (.cons (.str "width") (.var 3) (.cons (.str "variables") (.var 5) .nil))))) r))))
def Vok (vars : List Int) : Prop := 2 ≤ vars.length ∧ vars.length ≤ 7 ∧ ∀ v ∈ vars, 0 ≤ v ∧ v < 100
theorem vok_take {l : List Int} {n : Nat} (h2 : 2 ≤ n) (hn : n ≤ 7) (hl : 2 ≤ l.length) (hv : ∀ v ∈ l, 0 ≤ v ∧ v < 100) : Vok (l.take n) := by
  refine ⟨by rw [List.length_take]; omega, by rw [List.length_take]; omega, fun v hv2 => hv v (List.mem_of_mem_take hv2)⟩
theorem fn_head (G : Gen T) (hk : 1 ≤ k) (d : DW h) {B M : PV} {r : Ss} {Q : PV → PH → Prop}
    (cont : ∀ w np vars P V h' z, 1 ≤ w → w ≤ 16 → 0 ≤ np → np ≤ 6 → Vok vars → GP h' P V w vars → Fr h h' → (evSs (evCall T k) r ([some (.ref 1), some B, some M, some (.int w), some (.int np), some z, some (.ref P)] ++ List.replicate 10 none) h').Rt Q) :
    (evSs (evCall T k) (fnHead r) (some (.ref 1) :: some B :: some M :: List.replicate 14 none) h).Rt Q := by
  have hS : (64 : Nat) ≤ sizeLine := by decide
  have q2 : 2 ≤ sizeLine := by omega
  have q5 : 5 ≤ sizeLine := by omega
  have q6 : 6 ≤ sizeLine := by omega
  have q7 : 7 ≤ sizeLine := by omega
  unfold fnHead
  simp only [List.replicate]
  simp only [bnd_bnd, bnd_sbnd, sbnd_seq, seq_seq, seqC_ap, ss_cons, ss_nil, s_asg, s_ret, s_ite, s_ex, s_for, s_whl, e_non, e_bl, e_int, e_str, e_var, e_bin, e_neg, e_cmp, e_not, e_tup, e_lst, e_dic0, e_sub, e_call, e_bi, e_mt, kindG_same, e_isi, e_inv, e_lrg, e_lc, e_dc, wipeP, new, evEs, evT, evTs, evP, evI, evG, bnd_ok, sbnd_ok, seq_nx, seq_rt, to_nx, go_nx, go_ct, rt_rt, ok_ok, slot, item0, item1, item2, item3, sub_t, i_int, i_abs, i_lenT, c_eqI, c_neI, c_eqS, c_neS, c_lt, c_le, c_gt, c_ge, asB_bl, iteC_t, iteC_f, iteC_d, b_add, b_sub, b_mul, b_mod, List.getElem?_cons_succ, List.getElem?_cons_zero, List.set_cons_succ, List.set_cons_zero]
  refine Out.Ok.rt (gen_take' G hk d (by decide) (by decide)) fun v h1 ⟨⟨r1, ev, r10, r11⟩, f1⟩ => ?_
  subst ev
  have n1 := Fr.new f1.dw (.lst (([1, 2, 3, 4, 8, 16, 1 + r1] : List Int).map PV.int))
  simp only [bnd_bnd, bnd_sbnd, sbnd_seq, seq_seq, seqC_ap, ss_cons, ss_nil, s_asg, s_ret, s_ite, s_ex, s_for, s_whl, e_non, e_bl, e_int, e_str, e_var, e_bin, e_neg, e_cmp, e_not, e_tup, e_lst, e_dic0, e_sub, e_call, e_bi, e_mt, kindG_same, e_isi, e_inv, e_lrg, e_lc, e_dc, wipeP, new, evEs, evT, evTs, evP, evI, evG, bnd_ok, sbnd_ok, seq_nx, seq_rt, to_nx, go_nx, go_ct, rt_rt, ok_ok, slot, item0, item1, item2, item3, sub_t, i_int, i_abs, i_lenT, c_eqI, c_neI, c_eqS, c_neS, c_lt, c_le, c_gt, c_ge, asB_bl, iteC_t, iteC_f, iteC_d, b_add, b_sub, b_mul, b_mod, List.length_cons, List.length_nil, q7, if_true, List.getElem?_cons_succ, List.getElem?_cons_zero, List.set_cons_succ, List.set_cons_zero]
  refine Out.Ok.rt (gen_take' G hk n1.dw (by decide) (by decide)) fun v h2 ⟨⟨r2, ev, r20, r21⟩, f2⟩ => ?_
  subst ev
  have e2 : h2[h1.length]? = some (.lst (([1, 2, 3, 4, 8, 16, 1 + r1] : List Int).map PV.int)) := f2.at at_new (by have := f1.dw.two; omega)
  obtain ⟨w, hw, ew⟩ := item_int (xs := [1, 2, 3, 4, 8, 16, 1 + r1]) r20 (by simpa using r21)
  have hw2 : 1 ≤ w ∧ w ≤ 16 := by
    simp only [List.mem_cons, List.not_mem_nil, or_false] at hw
    omega
  simp only [sub_l e2, ew, bnd_bnd, bnd_sbnd, sbnd_seq, seq_seq, seqC_ap, ss_cons, ss_nil, s_asg, s_ret, s_ite, s_ex, s_for, s_whl, e_non, e_bl, e_int, e_str, e_var, e_bin, e_neg, e_cmp, e_not, e_tup, e_lst, e_dic0, e_sub, e_call, e_bi, e_mt, kindG_same, e_isi, e_inv, e_lrg, e_lc, e_dc, wipeP, new, evEs, evT, evTs, evP, evI, evG, bnd_ok, sbnd_ok, seq_nx, seq_rt, to_nx, go_nx, go_ct, rt_rt, ok_ok, slot, item0, item1, item2, item3, sub_t, i_int, i_abs, i_lenT, c_eqI, c_neI, c_eqS, c_neS, c_lt, c_le, c_gt, c_ge, asB_bl, iteC_t, iteC_f, iteC_d, b_add, b_sub, b_mul, b_mod, List.getElem?_cons_succ, List.getElem?_cons_zero, List.set_cons_succ, List.set_cons_zero]
  refine Out.Ok.rt (gen_take' G hk f2.dw (by decide) (by decide)) fun v h3 ⟨⟨r3, ev, r30, r31⟩, f3⟩ => ?_
  subst ev
  have n3 := Fr.new f3.dw (.lst (([0, 1, 2, 3, r3] : List Int).map PV.int))
  simp only [bnd_bnd, bnd_sbnd, sbnd_seq, seq_seq, seqC_ap, ss_cons, ss_nil, s_asg, s_ret, s_ite, s_ex, s_for, s_whl, e_non, e_bl, e_int, e_str, e_var, e_bin, e_neg, e_cmp, e_not, e_tup, e_lst, e_dic0, e_sub, e_call, e_bi, e_mt, kindG_same, e_isi, e_inv, e_lrg, e_lc, e_dc, wipeP, new, evEs, evT, evTs, evP, evI, evG, bnd_ok, sbnd_ok, seq_nx, seq_rt, to_nx, go_nx, go_ct, rt_rt, ok_ok, slot, item0, item1, item2, item3, sub_t, i_int, i_abs, i_lenT, c_eqI, c_neI, c_eqS, c_neS, c_lt, c_le, c_gt, c_ge, asB_bl, iteC_t, iteC_f, iteC_d, b_add, b_sub, b_mul, b_mod, List.length_cons, List.length_nil, q5, if_true, List.getElem?_cons_succ, List.getElem?_cons_zero, List.set_cons_succ, List.set_cons_zero]
  refine Out.Ok.rt (gen_take' G hk n3.dw (by decide) (by decide)) fun v h4 ⟨⟨r4, ev, r40, r41⟩, f4⟩ => ?_
  subst ev
  have e4 : h4[h3.length]? = some (.lst (([0, 1, 2, 3, r3] : List Int).map PV.int)) := f4.at at_new (by have := f3.dw.two; omega)
  obtain ⟨np, hnp, enp⟩ := item_int (xs := [0, 1, 2, 3, r3]) r40 (by simpa using r41)
  have hnp2 : 0 ≤ np ∧ np ≤ 6 := by
    simp only [List.mem_cons, List.not_mem_nil, or_false] at hnp
    omega
  have n4 := Fr.new f4.dw (.lst (([0, 1, 2, 3, 7, 40] : List Int).map PV.int))
  have n5 := Fr.new n4.dw (.lst (([0, 1, 53, 3, 4, 5, 99] : List Int).map PV.int))
  have n6 := Fr.new n5.dw (.lst [.ref h4.length, .ref (h4 ++ [PO.lst (([0, 1, 2, 3, 7, 40] : List Int).map PV.int)]).length])
  simp only [sub_l e4, enp, bnd_bnd, bnd_sbnd, sbnd_seq, seq_seq, seqC_ap, ss_cons, ss_nil, s_asg, s_ret, s_ite, s_ex, s_for, s_whl, e_non, e_bl, e_int, e_str, e_var, e_bin, e_neg, e_cmp, e_not, e_tup, e_lst, e_dic0, e_sub, e_call, e_bi, e_mt, kindG_same, e_isi, e_inv, e_lrg, e_lc, e_dc, wipeP, new, evEs, evT, evTs, evP, evI, evG, bnd_ok, sbnd_ok, seq_nx, seq_rt, to_nx, go_nx, go_ct, rt_rt, ok_ok, slot, item0, item1, item2, item3, sub_t, i_int, i_abs, i_lenT, c_eqI, c_neI, c_eqS, c_neS, c_lt, c_le, c_gt, c_ge, asB_bl, iteC_t, iteC_f, iteC_d, b_add, b_sub, b_mul, b_mod, List.length_cons, List.length_nil, q2, q6, q7, if_true, List.getElem?_cons_succ, List.getElem?_cons_zero, List.set_cons_succ, List.set_cons_zero, e_slice]
  refine Out.Ok.rt (gen_take' G hk n6.dw (by decide) (by decide)) fun v h5 ⟨⟨r5, ev, r50, r51⟩, f5⟩ => ?_
  subst ev
  have l4 := f4.dw.two
  have e5a : h5[h4.length]? = some (.lst (([0, 1, 2, 3, 7, 40] : List Int).map PV.int)) := f5.at (n6.at (n5.at at_new (by omega)) (by omega)) (by omega)
  have e5b : h5[(h4 ++ [PO.lst (([0, 1, 2, 3, 7, 40] : List Int).map PV.int)]).length]? = some (.lst (([0, 1, 53, 3, 4, 5, 99] : List Int).map PV.int)) := f5.at (n6.at at_new (by rw [List.length_append]; simp only [List.length_cons, List.length_nil]; omega)) (by rw [List.length_append]; simp only [List.length_cons, List.length_nil]; omega)
  have e5c := f5.at at_new (by rw [List.length_append, List.length_append]; simp only [List.length_cons, List.length_nil]; omega)
  obtain ⟨pl, Lv, epl, el, hpl, b1, b2, b3⟩ : ∃ (pl : Nat) (Lv : List Int), (∀ h, itemF [.ref h4.length, .ref (h4 ++ [PO.lst (([0, 1, 2, 3, 7, 40] : List Int).map PV.int)]).length] (.int r5) h = ok (.ref pl) h) ∧ h5[pl]? = some (.lst (Lv.map PV.int)) ∧ pl ≠ 1 ∧ 2 ≤ Lv.length ∧ Lv.length ≤ 7 ∧ ∀ v ∈ Lv, 0 ≤ v ∧ v < 100 := by
    by_cases c : r5 = 0
    · subst c
      exact ⟨h4.length, _, fun h => item0, e5a, by omega, by decide, by decide, by decide⟩
    · have : r5 = 1 := by omega
      subst this
      exact ⟨_, _, fun h => item1, e5b, by rw [List.length_append]; simp only [List.length_cons, List.length_nil]; omega, by decide, by decide, by decide⟩
  simp only [List.map_cons, List.map_nil] at epl
  rw [sub_l e5c, epl, sbnd_ok]
  refine Out.Ok.rt (gen_take' G hk f5.dw (by decide) (by decide)) fun v h6 ⟨⟨r6, ev, r60, r61⟩, f6⟩ => ?_
  subst ev
  have e6 := f6.at el hpl
  have n7 := Fr.new f6.dw (.lst ((Lv.take (2 + r6).toNat).map PV.int))
  have l6 := f6.dw.two
  simp only [b_add, sbnd_ok, slc_l e6, cut_to (α := PV) (show (0 : Int) ≤ 2 + r6 by omega), ← List.map_take]
  have n8 := Fr.new n7.dw (.dic [(.str "draw", .ref 1), (.str "width", .int w), (.str "variables", .ref h6.length)])
  simp only [e_dic, d_cons, d_nil, e_str, e_var, slot, List.getElem?_cons_succ, List.getElem?_cons_zero, bnd_ok, bnd_sbnd]
  rw [if_pos ⟨rfl, by simp only [List.length_cons, List.length_nil]; omega⟩, dAll_p]
  simp only [new, sbnd_ok]
  have vok : Vok (Lv.take (2 + r6).toNat) := vok_take (by omega) (by omega) b1 b3
  refine cont w np (Lv.take (2 + r6).toNat) (h6 ++ [PO.lst ((Lv.take (2 + r6).toNat).map PV.int)]).length h6.length _ (.ref h6.length) hw2.1 hw2.2 hnp2.1 hnp2.2 vok ⟨n8.dw, at_new, n8.at at_new (by omega), by rw [List.length_append]; simp only [List.length_cons, List.length_nil]; omega, by omega, by omega, by omega, by have := vok.1; omega, by have := vok.2.1; omega⟩ ?_
  exact ((((((((((f1.trans n1).trans f2).trans f3).trans n3).trans f4).trans n4).trans n5).trans n6).trans f5).trans f6).trans (n7.trans n8)
end
end MP

set_option Elab.async false
set_option linter.all false
set_option maxRecDepth 100000
set_option maxHeartbeats 4000000
namespace MP
open PySem
open Out (ok bad)
theorem rng_at {lo : Int} {n i : Nat} {x : PV} (e : (rngI lo n)[i]? = some x) : i < n ∧ x = .int (lo + (i : Int)) := by
  have hi := lt_of_some e
  have hn : (rngI lo n).length = n := by simp [rngI]
  rw [hn] at hi
  unfold rngI at e
  rw [List.getElem?_map, List.getElem?_range hi] at e
  exact ⟨hi, (Option.some.inj e).symm⟩
theorem rng_len {lo : Int} {n : Nat} : (rngI lo n).length = n := by simp [rngI]
section
variable {T : Str → Option Df} {h h' : PH} {m w : Int} {k P V : Nat} {vars : List Int}
def fnBody : Ss :=
    (.cons (.asg (.nm 11) (.lc (.call "_law_statement" (.cons (.var 6) .nil)) (.nm 16) (.rng (.cons (.call "_law_take" (.cons (.var 0) (.cons (.bin .Add (.var 2) (.int 1)) .nil))) .nil)) .nil [16]))
    (.cons (.asg (.nm 12) (.call "_law_take" (.cons (.var 0) (.cons (.int 4) .nil))))
    (.cons (.asg (.nm 13) (.slc (.var 8) (.some (.bin .Add (.var 10) (.int 1))) .none))
    (.cons (.ite (.or (.cmp .Eq (.var 13) (.lst .nil)) (.cmp .Eq (.var 12) (.int 0))) (.cons (.asg (.nm 14) (.tup (.cons (.str "return") (.cons (.call "_law_expression" (.cons (.var 6) (.cons (.int 1) .nil))) .nil))))
    .nil) (.cons (.ite (.cmp .Eq (.var 12) (.int 1)) (.cons (.asg (.nm 14) (.tup (.cons (.str "go") (.cons (.sub (.var 13) (.call "_law_take" (.cons (.var 0) (.cons (.bi .len (.cons (.var 13) .nil)) .nil)))) .nil))))
    .nil) (.cons (.asg (.nm 15) (.ite (.cmp .Eq (.call "_law_take" (.cons (.var 0) (.cons (.int 3) .nil))) (.int 0)) (.sub (.slc (.var 8) (.some (.int 1)) .none) (.call "_law_take" (.cons (.var 0) (.cons (.bin .Sub (.var 7) (.int 1)) .nil)))) (.sub (.var 13) (.call "_law_take" (.cons (.var 0) (.cons (.bi .len (.cons (.var 13) .nil)) .nil))))))
    (.cons (.asg (.nm 14) (.tup (.cons (.str "if") (.cons (.call "_law_expression" (.cons (.var 6) (.cons (.int 2) .nil))) (.cons (.var 15) (.cons (.sub (.var 13) (.call "_law_take" (.cons (.var 0) (.cons (.bi .len (.cons (.var 13) .nil)) .nil)))) .nil))))))
    .nil)))
    .nil))
    (.cons (.ex (.mt .append (.var 9) (.cons (.tup (.cons (.sub (.var 8) (.var 10)) (.cons (.bi .tuple (.cons (.var 11) .nil)) (.cons (.var 14) .nil)))) .nil)))
    .nil)))))
def fnLabels (r : Ss) : Ss :=
    (.cons (.asg (.nm 7) (.bin .Add (.int 1) (.call "_law_take" (.cons (.var 0) (.cons (.var 1) .nil)))))
    (.cons (.asg (.nm 8) (.lc (.bin .Add (.int 3) (.bin .Mult (.int 5) (.var 10))) (.nm 10) (.rng (.cons (.var 7) .nil)) .nil [10]))
    (.cons (.ite (.cmp .Eq (.call "_law_take" (.cons (.var 0) (.cons (.int 3) .nil))) (.int 0)) (.cons (.asg (.nm 8) (.lc (.sub (.var 8) (.bin .Sub (.bin .Sub (.var 7) (.int 1)) (.var 10))) (.nm 10) (.rng (.cons (.var 7) .nil)) .nil [10]))
    .nil) .nil) r)))
structure Lbl (h : PH) (L : Nat) (Ls : List Int) (c : Int) : Prop where
  at_ : h[L]? = some (.lst (Ls.map PV.int))
  l1 : L ≠ 1
  len : (Ls.length : Int) = c
  nd : Ls.Nodup
  lo : ∀ l ∈ Ls, 3 ≤ l
theorem Lbl.fr {L : Nat} {Ls : List Int} {c : Int} (x : Lbl h L Ls c) (f : Fr h h') : Lbl h' L Ls c := ⟨f.at x.at_ x.l1, x.l1, x.len, x.nd, x.lo⟩
def ups (n : Nat) : List Int := (List.range n).map fun k : Nat => 3 + 5 * (k : Int)
theorem ups_len {n : Nat} : (ups n).length = n := by simp [ups]
theorem ups_nd {n : Nat} : (ups n).Nodup := by
  unfold ups List.Nodup
  rw [List.pairwise_map]
  refine List.Pairwise.imp ?_ (List.pairwise_lt_range (n := n))
  intro a b lt e
  omega
theorem ups_lo {n : Nat} : ∀ l ∈ ups n, 3 ≤ l := by
  intro l hl
  obtain ⟨k, _, rfl⟩ := List.mem_map.mp hl
  omega
theorem ups_succ {n : Nat} : ups (n + 1) = ups n ++ [3 + 5 * (n : Int)] := by
  unfold ups
  rw [List.range_succ, List.map_append]
  rfl
theorem fn_labels (G : Gen T) (hk : 1 ≤ k) {B M w np : Int} {z : PV} {r : Ss} {Q : PV → PH → Prop} (g : GP h P V w vars) (hB : 1 ≤ B) (hB2 : B ≤ 60)
    (cont : ∀ c L Ls h' (a10 : Option PV), 1 ≤ c → c ≤ B → Lbl h' L Ls c → GP h' P V w vars → Fr h h' → (evSs (evCall T k) r ([some (.ref 1), some (.int B), some (.int M), some (.int w), some (.int np), some z, some (.ref P), some (.int c), some (.ref L), none, a10] ++ List.replicate 6 none) h').Rt Q) :
    (evSs (evCall T k) (fnLabels r) ([some (.ref 1), some (.int B), some (.int M), some (.int w), some (.int np), some z, some (.ref P)] ++ List.replicate 10 none) h).Rt Q := by
  have hS : (64 : Nat) ≤ sizeLine := by decide
  unfold fnLabels
  simp only [List.replicate, List.cons_append, List.nil_append]
  simp only [bnd_bnd, bnd_sbnd, sbnd_seq, seq_seq, seqC_ap, ss_cons, ss_nil, s_asg, s_ret, s_ite, s_ex, s_for, s_whl, e_non, e_bl, e_int, e_str, e_var, e_bin, e_neg, e_cmp, e_not, e_tup, e_lst, e_dic0, e_sub, e_call, e_bi, e_mt, kindG_same, e_isi, e_inv, e_lrg, e_lc, e_dc, wipeP, new, evEs, evT, evTs, evP, evI, evG, bnd_ok, sbnd_ok, seq_nx, seq_rt, to_nx, go_nx, go_ct, rt_rt, ok_ok, slot, item0, item1, item2, item3, sub_t, i_int, i_abs, i_lenT, c_eqI, c_neI, c_eqS, c_neS, c_lt, c_le, c_gt, c_ge, asB_bl, iteC_t, iteC_f, iteC_d, b_add, b_sub, b_mul, b_mod, List.getElem?_cons_succ, List.getElem?_cons_zero, List.set_cons_succ, List.set_cons_zero]
  refine Out.Ok.rt (gen_take' G hk g.dw (by omega) (by omega)) fun v h1 ⟨⟨c, ev, c0, c1⟩, f1⟩ => ?_
  subst ev
  have g1 := g.fr f1
  have sc : small (1 + c) = true := decide_eq_true ⟨by omega, by omega⟩
  simp only [bnd_bnd, bnd_sbnd, sbnd_seq, seq_seq, seqC_ap, ss_cons, ss_nil, s_asg, s_ret, s_ite, s_ex, s_for, s_whl, e_non, e_bl, e_int, e_str, e_var, e_bin, e_neg, e_cmp, e_not, e_tup, e_lst, e_dic0, e_sub, e_call, e_bi, e_mt, kindG_same, e_isi, e_inv, e_lrg, e_lc, e_dc, wipeP, new, evEs, evT, evTs, evP, evI, evG, bnd_ok, sbnd_ok, seq_nx, seq_rt, to_nx, go_nx, go_ct, rt_rt, ok_ok, slot, item0, item1, item2, item3, sub_t, i_int, i_abs, i_lenT, c_eqI, c_neI, c_eqS, c_neS, c_lt, c_le, c_gt, c_ge, asB_bl, iteC_t, iteC_f, iteC_d, b_add, b_sub, b_mul, b_mod, List.getElem?_cons_succ, List.getElem?_cons_zero, List.set_cons_succ, List.set_cons_zero, sc, if_true]
  refine Out.Ok.rt (each_vals (fun i acc h' => h' = h1 ∧ acc = (ups i).map PV.int) ⟨rfl, rfl⟩ fun i x acc h' hx ⟨eh, ea⟩ => ?_) fun acc h2 ⟨eh, ea⟩ => ?_
  · subst eh ea
    obtain ⟨hi, rfl⟩ := rng_at hx
    unfold lcC
    simp only [bnd_bnd, bnd_sbnd, sbnd_seq, seq_seq, seqC_ap, ss_cons, ss_nil, s_asg, s_ret, s_ite, s_ex, s_for, s_whl, e_non, e_bl, e_int, e_str, e_var, e_bin, e_neg, e_cmp, e_not, e_tup, e_lst, e_dic0, e_sub, e_call, e_bi, e_mt, kindG_same, e_isi, e_inv, e_lrg, e_lc, e_dc, wipeP, new, evEs, evT, evTs, evP, evI, evG, bnd_ok, sbnd_ok, seq_nx, seq_rt, to_nx, go_nx, go_ct, rt_rt, ok_ok, slot, item0, item1, item2, item3, sub_t, i_int, i_abs, i_lenT, c_eqI, c_neI, c_eqS, c_neS, c_lt, c_le, c_gt, c_ge, asB_bl, iteC_t, iteC_f, iteC_d, b_add, b_sub, b_mul, b_mod, List.getElem?_cons_succ, List.getElem?_cons_zero, List.set_cons_succ, List.set_cons_zero, b_mul' (show (5 : Int).natAbs < 2 ^ 64 by decide), if_true, List.length_map, ups_len]
    rw [if_pos (by omega), ok_ok]
    refine ⟨rfl, ?_⟩
    rw [ups_succ, List.map_append]
    simp
  · subst eh ea
    rw [rng_len]
    have n1 := Fr.new g1.dw (.lst ((ups (1 + c).toNat).map PV.int))
    have two := g1.dw.two
    have L1 : Lbl (h2 ++ [.lst ((ups (1 + c).toNat).map PV.int)]) h2.length (ups (1 + c).toNat) (1 + c) := ⟨at_new, by omega, by rw [ups_len]; omega, ups_nd, ups_lo⟩
    have g2 := g1.fr n1
    refine Out.Ok.rt (gen_take' G hk g2.dw (by decide) (by decide)) fun v h3 ⟨⟨r3, ev, r30, r31⟩, f3⟩ => ?_
    subst ev
    have g3 := g2.fr f3
    have L3 := L1.fr f3
    simp only [bnd_bnd, bnd_sbnd, sbnd_seq, seq_seq, seqC_ap, ss_cons, ss_nil, s_asg, s_ret, s_ite, s_ex, s_for, s_whl, e_non, e_bl, e_int, e_str, e_var, e_bin, e_neg, e_cmp, e_not, e_tup, e_lst, e_dic0, e_sub, e_call, e_bi, e_mt, kindG_same, e_isi, e_inv, e_lrg, e_lc, e_dc, wipeP, new, evEs, evT, evTs, evP, evI, evG, bnd_ok, sbnd_ok, seq_nx, seq_rt, to_nx, go_nx, go_ct, rt_rt, ok_ok, slot, item0, item1, item2, item3, sub_t, i_int, i_abs, i_lenT, c_eqI, c_neI, c_eqS, c_neS, c_lt, c_le, c_gt, c_ge, asB_bl, iteC_t, iteC_f, iteC_d, b_add, b_sub, b_mul, b_mod]
    by_cases c3 : r3 = 0
    · rw [if_pos c3]
      simp only [bnd_bnd, bnd_sbnd, sbnd_seq, seq_seq, seqC_ap, ss_cons, ss_nil, s_asg, s_ret, s_ite, s_ex, s_for, s_whl, e_non, e_bl, e_int, e_str, e_var, e_bin, e_neg, e_cmp, e_not, e_tup, e_lst, e_dic0, e_sub, e_call, e_bi, e_mt, kindG_same, e_isi, e_inv, e_lrg, e_lc, e_dc, wipeP, new, evEs, evT, evTs, evP, evI, evG, bnd_ok, sbnd_ok, seq_nx, seq_rt, to_nx, go_nx, go_ct, rt_rt, ok_ok, slot, item0, item1, item2, item3, sub_t, i_int, i_abs, i_lenT, c_eqI, c_neI, c_eqS, c_neS, c_lt, c_le, c_gt, c_ge, asB_bl, iteC_t, iteC_f, iteC_d, b_add, b_sub, b_mul, b_mod, List.getElem?_cons_succ, List.getElem?_cons_zero, List.set_cons_succ, List.set_cons_zero, sc, if_true]
      refine Out.Ok.rt (each_vals (fun i acc h' => h' = h3 ∧ acc = (((ups (1 + c).toNat).reverse).take i).map PV.int) ⟨rfl, rfl⟩ fun i x acc h' hx ⟨eh, ea⟩ => ?_) fun acc h4 ⟨eh, ea⟩ => ?_
      · subst eh ea
        obtain ⟨hi, rfl⟩ := rng_at hx
        have hl : (ups (1 + c).toNat).length = (1 + c).toNat := ups_len
        have hr : (ups (1 + c).toNat).reverse[i]? = (ups (1 + c).toNat)[(1 + c).toNat - 1 - i]? := by
          rw [List.getElem?_reverse (by omega), hl]
        obtain ⟨y, hy⟩ : ∃ y, (ups (1 + c).toNat)[(1 + c).toNat - 1 - i]? = some y := ⟨(ups (1 + c).toNat)[(1 + c).toNat - 1 - i]'(by omega), List.getElem?_eq_getElem (by omega)⟩
        have ei : itemF ((ups (1 + c).toNat).map PV.int) (.int (1 + c - 1 - (0 + (i : Int)))) = ok (.int y) := by
          funext hh
          refine itemF_at (by omega) ?_
          rw [List.getElem?_map, show (1 + c - 1 - (0 + (i : Int))).toNat = (1 + c).toNat - 1 - i by omega, hy]
          rfl
        have hlen : ((((ups (1 + c).toNat).reverse).take i).map PV.int).length < sizeLine := by
          rw [List.length_map]
          have := List.length_take_le i (ups (1 + c).toNat).reverse
          omega
        unfold lcC
        simp only [bnd_bnd, bnd_sbnd, sbnd_seq, seq_seq, seqC_ap, ss_cons, ss_nil, s_asg, s_ret, s_ite, s_ex, s_for, s_whl, e_non, e_bl, e_int, e_str, e_var, e_bin, e_neg, e_cmp, e_not, e_tup, e_lst, e_dic0, e_sub, e_call, e_bi, e_mt, kindG_same, e_isi, e_inv, e_lrg, e_lc, e_dc, wipeP, new, evEs, evT, evTs, evP, evI, evG, bnd_ok, sbnd_ok, seq_nx, seq_rt, to_nx, go_nx, go_ct, rt_rt, ok_ok, slot, item0, item1, item2, item3, sub_t, i_int, i_abs, i_lenT, c_eqI, c_neI, c_eqS, c_neS, c_lt, c_le, c_gt, c_ge, asB_bl, iteC_t, iteC_f, iteC_d, b_add, b_sub, b_mul, b_mod, List.getElem?_cons_succ, List.getElem?_cons_zero, List.set_cons_succ, List.set_cons_zero, sub_l L3.at_, ei, if_true, hlen]
        refine ⟨trivial, ?_⟩
        rw [List.take_add_one, hr, hy, List.map_append]
        rfl
      · subst eh ea
        rw [rng_len]
        have e1 : (ups (1 + c).toNat).reverse.take (1 + c).toNat = (ups (1 + c).toNat).reverse := List.take_of_length_le (by rw [List.length_reverse, ups_len]; exact Nat.le_refl _)
        rw [e1]
        have n4 := Fr.new g3.dw (.lst ((ups (1 + c).toNat).reverse.map PV.int))
        have two3 := g3.dw.two
        try simp only [bnd_bnd, bnd_sbnd, sbnd_seq, seq_seq, seqC_ap, ss_cons, ss_nil, s_asg, s_ret, s_ite, s_ex, s_for, s_whl, e_non, e_bl, e_int, e_str, e_var, e_bin, e_neg, e_cmp, e_not, e_tup, e_lst, e_dic0, e_sub, e_call, e_bi, e_mt, kindG_same, e_isi, e_inv, e_lrg, e_lc, e_dc, wipeP, new, evEs, evT, evTs, evP, evI, evG, bnd_ok, sbnd_ok, seq_nx, seq_rt, to_nx, go_nx, go_ct, rt_rt, ok_ok, slot, item0, item1, item2, item3, sub_t, i_int, i_abs, i_lenT, c_eqI, c_neI, c_eqS, c_neS, c_lt, c_le, c_gt, c_ge, asB_bl, iteC_t, iteC_f, iteC_d, b_add, b_sub, b_mul, b_mod, List.getElem?_cons_succ, List.getElem?_cons_zero, List.set_cons_succ, List.set_cons_zero]
        have := cont (1 + c) h4.length (ups (1 + c).toNat).reverse _ none (by omega) (by omega) ⟨at_new, by omega, by rw [List.length_reverse, ups_len]; omega, (List.reverse_perm _).nodup_iff.mpr ups_nd, fun l hl => ups_lo l (List.mem_reverse.mp hl)⟩ (g3.fr n4) (((f1.trans n1).trans f3).trans n4)
        exact this
    · rw [if_neg c3]
      try simp only [bnd_bnd, bnd_sbnd, sbnd_seq, seq_seq, seqC_ap, ss_cons, ss_nil, s_asg, s_ret, s_ite, s_ex, s_for, s_whl, e_non, e_bl, e_int, e_str, e_var, e_bin, e_neg, e_cmp, e_not, e_tup, e_lst, e_dic0, e_sub, e_call, e_bi, e_mt, kindG_same, e_isi, e_inv, e_lrg, e_lc, e_dc, wipeP, new, evEs, evT, evTs, evP, evI, evG, bnd_ok, sbnd_ok, seq_nx, seq_rt, to_nx, go_nx, go_ct, rt_rt, ok_ok, slot, item0, item1, item2, item3, sub_t, i_int, i_abs, i_lenT, c_eqI, c_neI, c_eqS, c_neS, c_lt, c_le, c_gt, c_ge, asB_bl, iteC_t, iteC_f, iteC_d, b_add, b_sub, b_mul, b_mod]
      exact cont (1 + c) h2.length (ups (1 + c).toNat) h3 none (by omega) (by omega) L3 g3 ((f1.trans n1).trans f3)
end
end MP

set_option Elab.async false
set_option linter.all false
set_option maxRecDepth 100000
set_option maxHeartbeats 4000000
namespace MP
open PySem
open Out (ok bad)
section
variable {T : Str → Option Df} {h h' : PH} {m w : Int} {k P V : Nat} {vars : List Int}
def endS : S := (.ite (.or (.cmp .Eq (.var 13) (.lst .nil)) (.cmp .Eq (.var 12) (.int 0))) (.cons (.asg (.nm 14) (.tup (.cons (.str "return") (.cons (.call "_law_expression" (.cons (.var 6) (.cons (.int 1) .nil))) .nil))))
    .nil) (.cons (.ite (.cmp .Eq (.var 12) (.int 1)) (.cons (.asg (.nm 14) (.tup (.cons (.str "go") (.cons (.sub (.var 13) (.call "_law_take" (.cons (.var 0) (.cons (.bi .len (.cons (.var 13) .nil)) .nil)))) .nil))))
    .nil) (.cons (.asg (.nm 15) (.ite (.cmp .Eq (.call "_law_take" (.cons (.var 0) (.cons (.int 3) .nil))) (.int 0)) (.sub (.slc (.var 8) (.some (.int 1)) .none) (.call "_law_take" (.cons (.var 0) (.cons (.bin .Sub (.var 7) (.int 1)) .nil)))) (.sub (.var 13) (.call "_law_take" (.cons (.var 0) (.cons (.bi .len (.cons (.var 13) .nil)) .nil))))))
    (.cons (.asg (.nm 14) (.tup (.cons (.str "if") (.cons (.call "_law_expression" (.cons (.var 6) (.cons (.int 2) .nil))) (.cons (.var 15) (.cons (.sub (.var 13) (.call "_law_take" (.cons (.var 0) (.cons (.bi .len (.cons (.var 13) .nil)) .nil)))) .nil))))))
    .nil)))
    .nil))
def QE (w : Int) (vars Ls : List Int) (h : PH) (s : Option PV → Option PV → PSt) (s' : PSt) (h' : PH) : Prop := ∃ (en : En) (a15 : Option PV), s' = s (some en.pv) a15 ∧ en.good w vars Ls ∧ Fr h h'
theorem end_ok (G : Gen T) (hk : 6 ≤ k) {B M np c what : Int} {z : PV} {L E i : Nat} {Ls : List Int} {a9 a10 a11 a14 a15 a16 : Option PV} (g : GP h P V w vars) (Lb : Lbl h L Ls c) (hE : h[E]? = some (.lst ((Ls.drop (i + 1)).map PV.int))) (hE1 : E ≠ 1) (hi : i < Ls.length) (hc : c ≤ 60) :
    (evS (evCall T k) endS [some (.ref 1), some (.int B), some (.int M), some (.int w), some (.int np), some z, some (.ref P), some (.int c), some (.ref L), a9, a10, a11, some (.int what), some (.ref E), a14, a15, a16] h).To
      (QE w vars Ls h fun x y => [some (.ref 1), some (.int B), some (.int M), some (.int w), some (.int np), some z, some (.ref P), some (.int c), some (.ref L), a9, a10, a11, some (.int what), some (.ref E), x, y, a16]) := by
  have hS : (64 : Nat) ≤ sizeLine := by decide
  have q2 : 2 ≤ sizeLine := by omega
  have q4 : 4 ≤ sizeLine := by omega
  have q0 : 0 ≤ sizeLine := Nat.zero_le _
  have n0 := Fr.new g.dw (.lst [])
  have e0 : (h ++ [PO.lst []])[E]? = some (.lst ((Ls.drop (i + 1)).map PV.int)) := n0.at hE hE1
  have e00 : (h ++ [PO.lst []])[h.length]? = some (.lst (([] : List Int).map PV.int)) := at_new
  have ce := c_eq (eq_ints e0 e00)
  have g0 := g.fr n0
  have L0 := Lb.fr n0
  unfold endS
  simp only [bnd_bnd, bnd_sbnd, sbnd_seq, seq_seq, seqC_ap, ss_cons, ss_nil, s_asg, s_ret, s_ite, s_ex, s_for, s_whl, e_non, e_bl, e_int, e_str, e_var, e_bin, e_neg, e_cmp, e_not, e_tup, e_lst, e_dic0, e_sub, e_call, e_bi, e_mt, kindG_same, e_isi, e_inv, e_lrg, e_lc, e_dc, wipeP, new, evEs, evT, evTs, evP, evI, evG, bnd_ok, sbnd_ok, seq_nx, seq_rt, to_nx, go_nx, go_ct, rt_rt, ok_ok, slot, item0, item1, item2, item3, sub_t, i_int, i_abs, i_lenT, c_eqI, c_neI, c_eqS, c_neS, c_lt, c_le, c_gt, c_ge, asB_bl, iteC_t, iteC_f, iteC_d, b_add, b_sub, b_mul, b_mod, List.length_nil, q0, if_true, List.getElem?_cons_succ, List.getElem?_cons_zero, List.set_cons_succ, List.set_cons_zero, ce, or_b]
  by_cases c1 : Ls.drop (i + 1) = [] ∨ what = 0
  · rw [show (decide (Ls.drop (i + 1) = []) || decide (what = 0)) = true from by rw [Bool.or_eq_true, decide_eq_true_eq, decide_eq_true_eq]; exact c1]
    simp only [bnd_bnd, bnd_sbnd, sbnd_seq, seq_seq, seqC_ap, ss_cons, ss_nil, s_asg, s_ret, s_ite, s_ex, s_for, s_whl, e_non, e_bl, e_int, e_str, e_var, e_bin, e_neg, e_cmp, e_not, e_tup, e_lst, e_dic0, e_sub, e_call, e_bi, e_mt, kindG_same, e_isi, e_inv, e_lrg, e_lc, e_dc, wipeP, new, evEs, evT, evTs, evP, evI, evG, bnd_ok, sbnd_ok, seq_nx, seq_rt, to_nx, go_nx, go_ct, rt_rt, ok_ok, slot, item0, item1, item2, item3, sub_t, i_int, i_abs, i_lenT, c_eqI, c_neI, c_eqS, c_neS, c_lt, c_le, c_gt, c_ge, asB_bl, iteC_t, iteC_f, iteC_d, b_add, b_sub, b_mul, b_mod, List.getElem?_cons_succ, List.getElem?_cons_zero, List.set_cons_succ, List.set_cons_zero]
    refine Out.Ok.to (gen_expr' G (d := 1) rfl (by omega) g0) fun v h1 ⟨⟨e, ev, eg, ed⟩, f1⟩ => ?_
    subst ev
    simp only [List.length_cons, List.length_nil, q2, if_true, bnd_bnd, bnd_sbnd, sbnd_seq, seq_seq, seqC_ap, ss_cons, ss_nil, s_asg, s_ret, s_ite, s_ex, s_for, s_whl, e_non, e_bl, e_int, e_str, e_var, e_bin, e_neg, e_cmp, e_not, e_tup, e_lst, e_dic0, e_sub, e_call, e_bi, e_mt, kindG_same, e_isi, e_inv, e_lrg, e_lc, e_dc, wipeP, new, evEs, evT, evTs, evP, evI, evG, bnd_ok, sbnd_ok, seq_nx, seq_rt, to_nx, go_nx, go_ct, rt_rt, ok_ok, slot, item0, item1, item2, item3, sub_t, i_int, i_abs, i_lenT, c_eqI, c_neI, c_eqS, c_neS, c_lt, c_le, c_gt, c_ge, asB_bl, iteC_t, iteC_f, iteC_d, b_add, b_sub, b_mul, b_mod, List.set_cons_succ, List.set_cons_zero]
    exact ⟨.ret e, a15, rfl, ⟨eg, by omega⟩, n0.trans f1⟩
  · rw [show (decide (Ls.drop (i + 1) = []) || decide (what = 0)) = false from by rw [Bool.or_eq_false_iff, decide_eq_false_iff_not, decide_eq_false_iff_not]; exact not_or.mp c1]
    have hne : Ls.drop (i + 1) ≠ [] := fun z => c1 (.inl z)
    have hlen : 1 ≤ (Ls.drop (i + 1)).length := List.length_pos_iff.mpr hne
    have hlen2 : (Ls.drop (i + 1)).length ≤ Ls.length := by rw [List.length_drop]; omega
    have hll := Lb.len
    have hl3 := List.length_drop (i := i + 1) (l := Ls)
    simp only [bnd_bnd, bnd_sbnd, sbnd_seq, seq_seq, seqC_ap, ss_cons, ss_nil, s_asg, s_ret, s_ite, s_ex, s_for, s_whl, e_non, e_bl, e_int, e_str, e_var, e_bin, e_neg, e_cmp, e_not, e_tup, e_lst, e_dic0, e_sub, e_call, e_bi, e_mt, kindG_same, e_isi, e_inv, e_lrg, e_lc, e_dc, wipeP, new, evEs, evT, evTs, evP, evI, evG, bnd_ok, sbnd_ok, seq_nx, seq_rt, to_nx, go_nx, go_ct, rt_rt, ok_ok, slot, item0, item1, item2, item3, sub_t, i_int, i_abs, i_lenT, c_eqI, c_neI, c_eqS, c_neS, c_lt, c_le, c_gt, c_ge, asB_bl, iteC_t, iteC_f, iteC_d, b_add, b_sub, b_mul, b_mod, List.getElem?_cons_succ, List.getElem?_cons_zero, List.set_cons_succ, List.set_cons_zero]
    by_cases c2 : what = 1
    · rw [if_pos c2]
      simp only [bnd_bnd, bnd_sbnd, sbnd_seq, seq_seq, seqC_ap, ss_cons, ss_nil, s_asg, s_ret, s_ite, s_ex, s_for, s_whl, e_non, e_bl, e_int, e_str, e_var, e_bin, e_neg, e_cmp, e_not, e_tup, e_lst, e_dic0, e_sub, e_call, e_bi, e_mt, kindG_same, e_isi, e_inv, e_lrg, e_lc, e_dc, wipeP, new, evEs, evT, evTs, evP, evI, evG, bnd_ok, sbnd_ok, seq_nx, seq_rt, to_nx, go_nx, go_ct, rt_rt, ok_ok, slot, item0, item1, item2, item3, sub_t, i_int, i_abs, i_lenT, c_eqI, c_neI, c_eqS, c_neS, c_lt, c_le, c_gt, c_ge, asB_bl, iteC_t, iteC_f, iteC_d, b_add, b_sub, b_mul, b_mod, List.getElem?_cons_succ, List.getElem?_cons_zero, List.set_cons_succ, List.set_cons_zero, i_lenL e0, List.length_map]
      refine Out.Ok.to (gen_take' G (by omega) g0.dw (by omega) (by omega)) fun v h1 ⟨⟨r, ev, r0, r1⟩, f1⟩ => ?_
      subst ev
      obtain ⟨x, hx, ex⟩ := item_int r0 r1
      simp only [sub_l (f1.at e0 hE1), ex, List.length_cons, List.length_nil, q2, if_true, bnd_bnd, bnd_sbnd, sbnd_seq, seq_seq, seqC_ap, ss_cons, ss_nil, s_asg, s_ret, s_ite, s_ex, s_for, s_whl, e_non, e_bl, e_int, e_str, e_var, e_bin, e_neg, e_cmp, e_not, e_tup, e_lst, e_dic0, e_sub, e_call, e_bi, e_mt, kindG_same, e_isi, e_inv, e_lrg, e_lc, e_dc, wipeP, new, evEs, evT, evTs, evP, evI, evG, bnd_ok, sbnd_ok, seq_nx, seq_rt, to_nx, go_nx, go_ct, rt_rt, ok_ok, slot, item0, item1, item2, item3, sub_t, i_int, i_abs, i_lenT, c_eqI, c_neI, c_eqS, c_neS, c_lt, c_le, c_gt, c_ge, asB_bl, iteC_t, iteC_f, iteC_d, b_add, b_sub, b_mul, b_mod, List.set_cons_succ, List.set_cons_zero]
      exact ⟨.go x, a15, rfl, List.mem_of_mem_drop hx, n0.trans f1⟩
    · rw [if_neg c2]
      simp only [bnd_bnd, bnd_sbnd, sbnd_seq, seq_seq, seqC_ap, ss_cons, ss_nil, s_asg, s_ret, s_ite, s_ex, s_for, s_whl, e_non, e_bl, e_int, e_str, e_var, e_bin, e_neg, e_cmp, e_not, e_tup, e_lst, e_dic0, e_sub, e_call, e_bi, e_mt, kindG_same, e_isi, e_inv, e_lrg, e_lc, e_dc, wipeP, new, evEs, evT, evTs, evP, evI, evG, bnd_ok, sbnd_ok, seq_nx, seq_rt, to_nx, go_nx, go_ct, rt_rt, ok_ok, slot, item0, item1, item2, item3, sub_t, i_int, i_abs, i_lenT, c_eqI, c_neI, c_eqS, c_neS, c_lt, c_le, c_gt, c_ge, asB_bl, iteC_t, iteC_f, iteC_d, b_add, b_sub, b_mul, b_mod, e_ite, List.getElem?_cons_succ, List.getElem?_cons_zero, List.set_cons_succ, List.set_cons_zero]
      refine Out.Ok.to (gen_take' G (by omega) g0.dw (by omega) (by omega)) fun v h1 ⟨⟨r, ev, r0, r1⟩, f1⟩ => ?_
      subst ev
      have g1 := g0.fr f1
      have L1 := L0.fr f1
      have e1 := f1.at e0 hE1
      -- the rest, from the other's label on
      have fin : ∀ (y : Int) (h2 : PH), y ∈ Ls → GP h2 P V w vars → h2[E]? = some (.lst ((Ls.drop (i + 1)).map PV.int)) → Fr h h2 → (evSs (evCall T k) (.cons (.asg (.nm 14) (.tup (.cons (.str "if") (.cons (.call "_law_expression" (.cons (.var 6) (.cons (.int 2) .nil))) (.cons (.var 15) (.cons (.sub (.var 13) (.call "_law_take" (.cons (.var 0) (.cons (.bi .len (.cons (.var 13) .nil)) .nil)))) .nil)))))) .nil)
          [some (.ref 1), some (.int B), some (.int M), some (.int w), some (.int np), some z, some (.ref P), some (.int c), some (.ref L), a9, a10, a11, some (.int what), some (.ref E), a14, some (.int y), a16] h2).To (QE w vars Ls h fun x y => [some (.ref 1), some (.int B), some (.int M), some (.int w), some (.int np), some z, some (.ref P), some (.int c), some (.ref L), a9, a10, a11, some (.int what), some (.ref E), x, y, a16]) := by
        intro y h2 hy g2 e2 f2
        simp only [bnd_bnd, bnd_sbnd, sbnd_seq, seq_seq, seqC_ap, ss_cons, ss_nil, s_asg, s_ret, s_ite, s_ex, s_for, s_whl, e_non, e_bl, e_int, e_str, e_var, e_bin, e_neg, e_cmp, e_not, e_tup, e_lst, e_dic0, e_sub, e_call, e_bi, e_mt, kindG_same, e_isi, e_inv, e_lrg, e_lc, e_dc, wipeP, new, evEs, evT, evTs, evP, evI, evG, bnd_ok, sbnd_ok, seq_nx, seq_rt, to_nx, go_nx, go_ct, rt_rt, ok_ok, slot, item0, item1, item2, item3, sub_t, i_int, i_abs, i_lenT, c_eqI, c_neI, c_eqS, c_neS, c_lt, c_le, c_gt, c_ge, asB_bl, iteC_t, iteC_f, iteC_d, b_add, b_sub, b_mul, b_mod, List.getElem?_cons_succ, List.getElem?_cons_zero, List.set_cons_succ, List.set_cons_zero]
        refine Out.Ok.to (gen_expr' G (d := 2) rfl (by omega) g2) fun v h3 ⟨⟨e, ev, eg, ed⟩, f3⟩ => ?_
        subst ev
        have e3 := f3.at e2 hE1
        simp only [bnd_bnd, bnd_sbnd, sbnd_seq, seq_seq, seqC_ap, ss_cons, ss_nil, s_asg, s_ret, s_ite, s_ex, s_for, s_whl, e_non, e_bl, e_int, e_str, e_var, e_bin, e_neg, e_cmp, e_not, e_tup, e_lst, e_dic0, e_sub, e_call, e_bi, e_mt, kindG_same, e_isi, e_inv, e_lrg, e_lc, e_dc, wipeP, new, evEs, evT, evTs, evP, evI, evG, bnd_ok, sbnd_ok, seq_nx, seq_rt, to_nx, go_nx, go_ct, rt_rt, ok_ok, slot, item0, item1, item2, item3, sub_t, i_int, i_abs, i_lenT, c_eqI, c_neI, c_eqS, c_neS, c_lt, c_le, c_gt, c_ge, asB_bl, iteC_t, iteC_f, iteC_d, b_add, b_sub, b_mul, b_mod, List.getElem?_cons_succ, List.getElem?_cons_zero, i_lenL e3, List.length_map]
        refine Out.Ok.to (gen_take' G (by omega) f3.dw (by omega) (by omega)) fun v h4 ⟨⟨r, ev, r0, r1⟩, f4⟩ => ?_
        subst ev
        obtain ⟨x, hx, ex⟩ := item_int r0 r1
        simp only [sub_l (f4.at e3 hE1), ex, List.length_cons, List.length_nil, q4, if_true, bnd_bnd, bnd_sbnd, sbnd_seq, seq_seq, seqC_ap, ss_cons, ss_nil, s_asg, s_ret, s_ite, s_ex, s_for, s_whl, e_non, e_bl, e_int, e_str, e_var, e_bin, e_neg, e_cmp, e_not, e_tup, e_lst, e_dic0, e_sub, e_call, e_bi, e_mt, kindG_same, e_isi, e_inv, e_lrg, e_lc, e_dc, wipeP, new, evEs, evT, evTs, evP, evI, evG, bnd_ok, sbnd_ok, seq_nx, seq_rt, to_nx, go_nx, go_ct, rt_rt, ok_ok, slot, item0, item1, item2, item3, sub_t, i_int, i_abs, i_lenT, c_eqI, c_neI, c_eqS, c_neS, c_lt, c_le, c_gt, c_ge, asB_bl, iteC_t, iteC_f, iteC_d, b_add, b_sub, b_mul, b_mod, List.set_cons_succ, List.set_cons_zero]
        exact ⟨.br e y x, _, rfl, ⟨⟨eg, ed⟩, hy, List.mem_of_mem_drop hx⟩, (f2.trans f3).trans f4⟩
      by_cases c3 : r = 0
      · simp only [c_eqI, asB_bl, sbnd_ok, c3, decide_true, if_true, e_slice, bnd_bnd, bnd_sbnd, sbnd_seq, seq_seq, seqC_ap, ss_cons, ss_nil, s_asg, s_ret, s_ite, s_ex, s_for, s_whl, e_non, e_bl, e_int, e_str, e_var, e_bin, e_neg, e_cmp, e_not, e_tup, e_lst, e_dic0, e_sub, e_call, e_bi, e_mt, kindG_same, e_isi, e_inv, e_lrg, e_lc, e_dc, wipeP, new, evEs, evT, evTs, evP, evI, evG, bnd_ok, sbnd_ok, seq_nx, seq_rt, to_nx, go_nx, go_ct, rt_rt, ok_ok, slot, item0, item1, item2, item3, sub_t, i_int, i_abs, i_lenT, c_eqI, c_neI, c_eqS, c_neS, c_lt, c_le, c_gt, c_ge, asB_bl, iteC_t, iteC_f, iteC_d, b_add, b_sub, b_mul, b_mod, List.getElem?_cons_succ, List.getElem?_cons_zero, slc_l L1.at_, cut_from (α := PV) (show (0 : Int) ≤ 1 by decide)]
        have n1 := Fr.new g1.dw (.lst ((Ls.drop 1).map PV.int))
        rw [show ((Ls.map PV.int).drop (1 : Int).toNat) = (Ls.drop 1).map PV.int from by rw [List.map_drop]; rfl]
        refine Out.Ok.to (gen_take' G (by omega) n1.dw (by omega) (by omega)) fun v h2 ⟨⟨r2, ev, r20, r21⟩, f2⟩ => ?_
        subst ev
        have two := g1.dw.two
        have e2 : h2[h1.length]? = some (.lst ((Ls.drop 1).map PV.int)) := f2.at at_new (by omega)
        obtain ⟨y, hy, ey⟩ := item_int (xs := Ls.drop 1) r20 (by rw [List.length_drop]; omega)
        simp only [sub_l e2, ey, sbnd_ok]
        have := fin y h2 (List.mem_of_mem_drop hy) ((g1.fr n1).fr f2) (f2.at (n1.at e1 hE1) hE1) (((n0.trans f1).trans n1).trans f2)
        simp only [bnd_bnd, bnd_sbnd, sbnd_seq, seq_seq, seqC_ap, ss_cons, ss_nil, s_asg, s_ret, s_ite, s_ex, s_for, s_whl, e_non, e_bl, e_int, e_str, e_var, e_bin, e_neg, e_cmp, e_not, e_tup, e_lst, e_dic0, e_sub, e_call, e_bi, e_mt, kindG_same, e_isi, e_inv, e_lrg, e_lc, e_dc, wipeP, new, evEs, evT, evTs, evP, evI, evG, bnd_ok, sbnd_ok, seq_nx, seq_rt, to_nx, go_nx, go_ct, rt_rt, ok_ok, slot, item0, item1, item2, item3, sub_t, i_int, i_abs, i_lenT, c_eqI, c_neI, c_eqS, c_neS, c_lt, c_le, c_gt, c_ge, asB_bl, iteC_t, iteC_f, iteC_d, b_add, b_sub, b_mul, b_mod, List.getElem?_cons_succ, List.getElem?_cons_zero, List.set_cons_succ, List.set_cons_zero] at this
        exact this
      · simp only [c_eqI, asB_bl, sbnd_ok, c3, decide_false, Bool.false_eq_true, if_false, i_lenL e1, bnd_ok, List.length_map, bnd_sbnd]
        refine Out.Ok.to (gen_take' G (by omega) g1.dw (by omega) (by omega)) fun v h2 ⟨⟨r2, ev, r20, r21⟩, f2⟩ => ?_
        subst ev
        obtain ⟨y, hy, ey⟩ := item_int r20 r21
        simp only [sub_l (f2.at e1 hE1), ey, sbnd_ok]
        have := fin y h2 (List.mem_of_mem_drop hy) (g1.fr f2) (f2.at e1 hE1) ((n0.trans f1).trans f2)
        simp only [bnd_bnd, bnd_sbnd, sbnd_seq, seq_seq, seqC_ap, ss_cons, ss_nil, s_asg, s_ret, s_ite, s_ex, s_for, s_whl, e_non, e_bl, e_int, e_str, e_var, e_bin, e_neg, e_cmp, e_not, e_tup, e_lst, e_dic0, e_sub, e_call, e_bi, e_mt, kindG_same, e_isi, e_inv, e_lrg, e_lc, e_dc, wipeP, new, evEs, evT, evTs, evP, evI, evG, bnd_ok, sbnd_ok, seq_nx, seq_rt, to_nx, go_nx, go_ct, rt_rt, ok_ok, slot, item0, item1, item2, item3, sub_t, i_int, i_abs, i_lenT, c_eqI, c_neI, c_eqS, c_neS, c_lt, c_le, c_gt, c_ge, asB_bl, iteC_t, iteC_f, iteC_d, b_add, b_sub, b_mul, b_mod, List.getElem?_cons_succ, List.getElem?_cons_zero, List.set_cons_succ, List.set_cons_zero] at this
        exact this
end
end MP

set_option Elab.async false
set_option linter.all false
set_option maxRecDepth 100000
set_option maxHeartbeats 4000000
namespace MP
open PySem
open Out (ok bad)
/-- all but the draw's place and one more are kept -/
structure Fr2 (R : Nat) (h h' : PH) : Prop where
  dw : DW h'
  len : h.length ≤ h'.length
  keep : ∀ i, i < h.length → i ≠ 1 → i ≠ R → h'[i]? = h[i]?
theorem Fr.two {R : Nat} {h h' : PH} (f : Fr h h') : Fr2 R h h' := ⟨f.dw, f.len, fun i a b _ => f.keep i a b⟩
theorem Fr2.trans {R : Nat} {a b c : PH} (x : Fr2 R a b) (y : Fr2 R b c) : Fr2 R a c := ⟨y.dw, Nat.le_trans x.len y.len, fun i hi h1 h2 => (y.keep i (Nat.lt_of_lt_of_le hi x.len) h1 h2).trans (x.keep i hi h1 h2)⟩
theorem Fr2.at {R : Nat} {h h' : PH} {l : Nat} {o : PO} (x : Fr2 R h h') (e : h[l]? = some o) (n : l ≠ 1) (n2 : l ≠ R) : h'[l]? = some o := (x.keep l (lt_of_some e) n n2).trans e
theorem Fr2.set {R : Nat} {h : PH} {o : PO} (d : DW h) (hR : 2 ≤ R) : Fr2 R h (h.set R o) := by
  refine ⟨?_, by rw [List.length_set]; exact Nat.le_refl _, fun i _ _ n => by rw [List.getElem?_set_ne (Ne.symm n)]⟩
  obtain ⟨cs, p, e1, e2, e3⟩ := d
  exact ⟨cs, p, by rw [List.getElem?_set_ne (by omega)]; exact e1, by rw [List.getElem?_set_ne (by omega)]; exact e2, e3⟩
theorem append_at {l : Nat} {xs : List PV} {x : PV} {h : PH} (e : h[l]? = some (.lst xs)) (hz : xs.length < sizeLine) : mtF .append (.ref l) [x] h = ok .non (h.set l (.lst (xs ++ [x]))) := by simp only [mtF, e, lstM, hz, if_true]
theorem kind_at {l : Nat} {xs : List PV} {h : PH} (e : h[l]? = some (.lst xs)) : kind (.ref l) h = 1 := by simp only [kind, e]
theorem tuple_at {l : Nat} {xs : List PV} {h : PH} (e : h[l]? = some (.lst xs)) : biF .tuple [.ref l] h = ok (.tup xs) h := by simp only [biF, e]
section
variable {T : Str → Option Df} {h h' : PH} {m w : Int} {k P V : Nat} {vars : List Int}
def QB (w M : Int) (vars Ls : List Int) (l : Int) (R : Nat) (bs : List Bk) (h : PH) (s : Option PV → Option PV → Option PV → Option PV → Option PV → Option PV → PSt) (s' : PSt) (h' : PH) : Prop :=
  ∃ (b : Bk) (x1 x2 x3 x4 x5 x6 : Option PV), s' = s x1 x2 x3 x4 x5 x6 ∧ b.l = l ∧ b.good w vars Ls M ∧ h'[R]? = some (.lst ((bs ++ [b]).map Bk.pv)) ∧ Fr2 R h h'
theorem body_fn (G : Gen T) (hk : 7 ≤ k) {B M np c : Int} {z : PV} {L R i : Nat} {Ls : List Int} {l : Int} {bs : List Bk} {x1 x2 x3 x4 x5 x6 : Option PV} (g : GP h P V w vars) (Lb : Lbl h L Ls c) (hR : h[R]? = some (.lst (bs.map Bk.pv))) (hR2 : 2 ≤ R) (hb : bs.length < 64)
    (hl : Ls[i]? = some l) (hc : c ≤ 60) (hM : 0 ≤ M) (hM2 : M ≤ 60) :
    (evSs (evCall T k) fnBody [some (.ref 1), some (.int B), some (.int M), some (.int w), some (.int np), some z, some (.ref P), some (.int c), some (.ref L), some (.ref R), some (.int i), x1, x2, x3, x4, x5, x6] h).Go
      (QB w M vars Ls l R bs h fun x1 x2 x3 x4 x5 x6 => [some (.ref 1), some (.int B), some (.int M), some (.int w), some (.int np), some z, some (.ref P), some (.int c), some (.ref L), some (.ref R), some (.int i), x1, x2, x3, x4, x5, x6]) := by
  have hS : (64 : Nat) ≤ sizeLine := by decide
  have q3 : 3 ≤ sizeLine := by omega
  have hi := lt_of_some hl
  show (evSs (evCall T k) (.cons _ (.cons _ (.cons _ (.cons endS _)))) _ _).Go _
  simp only [ss_cons, s_asg, e_lc, evI, evEs, e_call, e_bin, e_var, e_int, slot, wipeP, bnd_bnd, bnd_ok, bnd_sbnd, sbnd_seq, b_add, List.getElem?_cons_succ, List.getElem?_cons_zero, List.set_cons_succ, List.set_cons_zero]
  refine Out.Ok.go (gen_take' G (by omega) g.dw (by omega) (by omega)) fun v h1 ⟨⟨r, ev, r0, r1⟩, f1⟩ => ?_
  subst ev
  have g1 := g.fr f1
  have sr : small r = true := decide_eq_true ⟨by omega, by omega⟩
  simp only [sr, if_true, bnd_ok, sbnd_ok]
  refine Out.Ok.go (each_vals (fun j acc h' => Fr h1 h' ∧ ∃ ss : List Sm, acc = ss.map Sm.pv ∧ ss.length = j ∧ ∀ s ∈ ss, s.good w vars) ⟨Fr.refl g1.dw, [], rfl, rfl, by simp⟩ fun j x acc h2 hx ⟨f2, ss, ea, ej, hg⟩ => ?_) fun acc h2 ⟨f2, ss, ea, ej, hg⟩ => ?_
  · obtain ⟨hj, rfl⟩ := rng_at hx
    subst ea
    have g2 := g1.fr f2
    unfold lcC
    simp only [bnd_bnd, bnd_sbnd, sbnd_seq, seq_seq, seqC_ap, ss_cons, ss_nil, s_asg, s_ret, s_ite, s_ex, s_for, s_whl, e_non, e_bl, e_int, e_str, e_var, e_bin, e_neg, e_cmp, e_not, e_tup, e_lst, e_dic0, e_sub, e_call, e_bi, e_mt, kindG_same, e_isi, e_inv, e_lrg, e_lc, e_dc, wipeP, new, evEs, evT, evTs, evP, evI, evG, bnd_ok, sbnd_ok, seq_nx, seq_rt, to_nx, go_nx, go_ct, rt_rt, ok_ok, slot, item0, item1, item2, item3, sub_t, i_int, i_abs, i_lenT, c_eqI, c_neI, c_eqS, c_neS, c_lt, c_le, c_gt, c_ge, asB_bl, iteC_t, iteC_f, iteC_d, b_add, b_sub, b_mul, b_mod, List.getElem?_cons_succ, List.getElem?_cons_zero, List.set_cons_succ, List.set_cons_zero, if_true]
    refine Out.Ok.bnd (gen_stmt G (by omega) g2) fun v h3 ⟨⟨s, ev, sg⟩, f3⟩ => ?_
    subst ev
    rw [if_pos (by rw [List.length_map]; omega), ok_ok]
    refine ⟨f2.trans f3, ss ++ [s], by simp, by rw [List.length_append, ej]; rfl, fun y hy => ?_⟩
    rcases List.mem_append.mp hy with q | q
    · exact hg y q
    · have : y = s := by simpa using q
      exact this ▸ sg
  · subst ea
    rw [rng_len] at ej
    have g2 := g1.fr f2
    have two2 := g2.dw.two
    have n2 := Fr.new g2.dw (.lst (ss.map Sm.pv))
    have g3 := g2.fr n2
    simp only [new, bnd_ok, sbnd_ok, evG, seq_nx, ss_cons, s_asg, evEs, e_call, e_int, e_var, slot, bnd_bnd, bnd_sbnd, sbnd_seq, List.getElem?_cons_succ, List.getElem?_cons_zero, List.set_cons_succ, List.set_cons_zero]
    refine Out.Ok.go (gen_take' G (by omega) g3.dw (by decide) (by decide)) fun v h4 ⟨⟨what, ev, t0, t1⟩, f4⟩ => ?_
    subst ev
    have g4 := g3.fr f4
    have F4 := ((f1.trans f2).trans n2).trans f4
    have L4 := Lb.fr F4
    have n4 := Fr.new g4.dw (.lst ((Ls.drop (i + 1)).map PV.int))
    simp only [sbnd_ok, seq_nx, ss_cons, s_asg, e_slice, evP, e_bin, e_var, e_int, slot, bnd_bnd, bnd_ok, bnd_sbnd, sbnd_seq, evG, b_add, List.getElem?_cons_succ, List.getElem?_cons_zero, List.set_cons_succ, List.set_cons_zero, slc_l L4.at_, cut_from (α := PV) (show (0 : Int) ≤ (i : Int) + 1 by omega)]
    rw [show ((Ls.map PV.int).drop ((i : Int) + 1).toNat) = (Ls.drop (i + 1)).map PV.int from by rw [List.map_drop]; rfl]
    have g5 := g4.fr n4
    have two4 := g4.dw.two
    refine SO.To.go (end_ok G (by omega) (i := i) g5 (L4.fr n4) at_new (by omega) hi hc) fun s5 h5 ⟨en, a15, es, eg, f5⟩ => ?_
    subst es
    have F5 := (F4.trans n4).trans f5
    have L5 := Lb.fr F5
    have eR := F5.at hR (by omega)
    have eD : h5[h2.length]? = some (.lst (ss.map Sm.pv)) := f5.at (n4.at (f4.at at_new (by omega)) (by omega)) (by omega)
    have el : itemF (Ls.map PV.int) (.int i) = ok (.int l) := by
      funext hh
      exact itemF_at (by omega) (by rw [List.getElem?_map, show ((i : Int)).toNat = i by omega, hl]; rfl)
    simp only [bnd_bnd, bnd_sbnd, sbnd_seq, seq_seq, seqC_ap, ss_cons, ss_nil, s_asg, s_ret, s_ite, s_ex, s_for, s_whl, e_non, e_bl, e_int, e_str, e_var, e_bin, e_neg, e_cmp, e_not, e_tup, e_lst, e_dic0, e_sub, e_call, e_bi, e_mt, kindG_same, e_isi, e_inv, e_lrg, e_lc, e_dc, wipeP, new, evEs, evT, evTs, evP, evI, evG, bnd_ok, sbnd_ok, seq_nx, seq_rt, to_nx, go_nx, go_ct, rt_rt, ok_ok, slot, item0, item1, item2, item3, sub_t, i_int, i_abs, i_lenT, c_eqI, c_neI, c_eqS, c_neS, c_lt, c_le, c_gt, c_ge, asB_bl, iteC_t, iteC_f, iteC_d, b_add, b_sub, b_mul, b_mod, List.getElem?_cons_succ, List.getElem?_cons_zero, sub_l L5.at_, el, tuple_at eD, List.length_cons, List.length_nil, q3, if_true, kind_at eR, append_at eR (by rw [List.length_map]; omega)]
    exact ⟨⟨l, ss, en⟩, _, _, _, _, _, _, rfl, rfl, ⟨by show (ss.length : Int) ≤ M; omega, hg, eg⟩, by rw [List.getElem?_set_self (lt_of_some eR), List.map_append]; rfl, F5.two.trans (Fr2.set F5.dw hR2)⟩
end
end MP

set_option Elab.async false
set_option linter.all false
set_option maxRecDepth 100000
set_option maxHeartbeats 4000000
namespace MP
open PySem
open Out (ok bad)
section
variable {T : Str → Option Df} {h h' : PH} {m w : Int} {k P V : Nat} {vars : List Int}
theorem GP.fr2 {R : Nat} (g : GP h P V w vars) (f : Fr2 R h h') (hP : P ≠ R) (hV : V ≠ R) : GP h' P V w vars := ⟨f.dw, f.at g.p g.p2 hP, f.at g.v g.v2 hV, g.p2, g.v2, g.w0, g.w1, g.ne, g.le⟩
theorem Lbl.fr2 {R L : Nat} {Ls : List Int} {c : Int} (x : Lbl h L Ls c) (f : Fr2 R h h') (hL : L ≠ R) : Lbl h' L Ls c := ⟨f.at x.at_ x.l1 hL, x.l1, x.len, x.nd, x.lo⟩
def fnTail : Ss := (.cons (.asg (.nm 9) (.lst .nil)) (.cons (.frr (.nm 10) (.rng (.cons (.var 7) .nil)) fnBody)
    (.cons (.ret (.tup (.cons (.var 3) (.cons (.var 4) (.cons (.bi .tuple (.cons (.var 9) .nil)) .nil))))) .nil)))
theorem gen_function (G : Gen T) (hk : 8 ≤ k) (d : DW h) {B M : Int} (hB : 1 ≤ B) (hB2 : B ≤ 60) (hM : 0 ≤ M) (hM2 : M ≤ 60) :
    (evCall T k "_law_function" [.ref 1, .int B, .int M] h).Ok fun v h' => (∃ (f : Fn) (vars : List Int), v = f.pv ∧ f.Good vars B M) ∧ Fr h h' := by
  obtain ⟨k, rfl⟩ : ∃ j, k = j + 1 := ⟨k - 1, by omega⟩
  have hS : (64 : Nat) ≤ sizeLine := by decide
  have q3 : 3 ≤ sizeLine := by omega
  refine call_ok G.function_ rfl (by decide) ?_
  show (evSs (evCall T k) (fnHead (fnLabels fnTail)) (some (.ref 1) :: some (.int B) :: some (.int M) :: List.replicate 14 none) h).Rt _
  refine fn_head G (by omega) d fun w np vars P V h1 z w1 w2 n0 n1 vok g1 f1 => ?_
  refine fn_labels G (by omega) g1 hB hB2 fun c L Ls h2 a10 c1 c2 Lb g2 f2 => ?_
  have two := g2.dw.two
  have nR := Fr.new g2.dw (.lst [])
  have lP := lt_of_some g2.p
  have lV := lt_of_some g2.v
  have lL := lt_of_some Lb.at_
  have sc : small c = true := decide_eq_true ⟨by omega, by omega⟩
  have hll := Lb.len
  unfold fnTail
  simp only [List.replicate, List.cons_append, List.nil_append]
  simp only [bnd_bnd, bnd_sbnd, sbnd_seq, seq_seq, seqC_ap, ss_cons, ss_nil, s_asg, s_ret, s_ite, s_ex, s_for, s_whl, e_non, e_bl, e_int, e_str, e_var, e_bin, e_neg, e_cmp, e_not, e_tup, e_lst, e_dic0, e_sub, e_call, e_bi, e_mt, kindG_same, e_isi, e_inv, e_lrg, e_lc, e_dc, wipeP, new, evEs, evT, evTs, evP, evI, evG, bnd_ok, sbnd_ok, seq_nx, seq_rt, to_nx, go_nx, go_ct, rt_rt, ok_ok, slot, item0, item1, item2, item3, sub_t, i_int, i_abs, i_lenT, c_eqI, c_neI, c_eqS, c_neS, c_lt, c_le, c_gt, c_ge, asB_bl, iteC_t, iteC_f, iteC_d, b_add, b_sub, b_mul, b_mod, List.length_nil, Nat.zero_le, List.getElem?_cons_succ, List.getElem?_cons_zero, List.set_cons_succ, List.set_cons_zero, sc, if_true]
  refine SO.To.rt (for_vals (fun i s' h' => ∃ (bs : List Bk) (x0 x1 x2 x3 x4 x5 x6 : Option PV), s' = [some (.ref 1), some (.int B), some (.int M), some (.int w), some (.int np), some z, some (.ref P), some (.int c), some (.ref L), some (.ref h2.length), x0, x1, x2, x3, x4, x5, x6] ∧
      bs.length = i ∧ bs.map Bk.l = Ls.take i ∧ (∀ b ∈ bs, b.good w vars Ls M) ∧ h'[h2.length]? = some (.lst (bs.map Bk.pv)) ∧ Fr2 h2.length (h2 ++ [.lst []]) h') ⟨[], _, _, _, _, _, _, _, rfl, rfl, rfl, by simp, at_new, (Fr.refl nR.dw).two⟩
    fun i x s' h3 hx ⟨bs, x0, x1, x2, x3, x4, x5, x6, es, e1, e2, e3, e4, F⟩ => ?_) fun s' h3 ⟨bs, x0, x1, x2, x3, x4, x5, x6, es, e1, e2, e3, e4, F⟩ => ?_
  · subst es
    obtain ⟨hi, rfl⟩ := rng_at hx
    have g3 := (g2.fr nR).fr2 F (by omega) (by omega)
    have L3 := (Lb.fr nR).fr2 F (by omega)
    obtain ⟨l, hl⟩ : ∃ l, Ls[i]? = some l := ⟨Ls[i]'(by omega), List.getElem?_eq_getElem (by omega)⟩
    simp only [evG, sbnd_ok, List.set_cons_succ, List.set_cons_zero, Int.zero_add]
    have := body_fn (B := B) (np := np) (z := z) (x1 := x1) (x2 := x2) (x3 := x3) (x4 := x4) (x5 := x5) (x6 := x6) G (show 7 ≤ k by omega) g3 L3 e4 (by omega) (by omega) hl (by omega) hM hM2
    cases eb : evSs (evCall T k) fnBody [some (.ref 1), some (.int B), some (.int M), some (.int w), some (.int np), some z, some (.ref P), some (.int c), some (.ref L), some (.ref h2.length), some (.int i), x1, x2, x3, x4, x5, x6] h3 with
    | nx s4 h4 =>
      rw [eb] at this
      obtain ⟨b, y1, y2, y3, y4, y5, y6, es, bl, bg, b3, F4⟩ := this
      refine ⟨bs ++ [b], _, y1, y2, y3, y4, y5, y6, es, by rw [List.length_append, e1]; rfl, ?_, fun y hy => ?_, b3, F.trans F4⟩
      · rw [List.take_add_one, hl, List.map_append, e2]
        simp [bl]
      · rcases List.mem_append.mp hy with q | q
        · exact e3 y q
        · have : y = b := by simpa using q
          exact this ▸ bg
    | ct s4 h4 =>
      rw [eb] at this
      obtain ⟨b, y1, y2, y3, y4, y5, y6, es, bl, bg, b3, F4⟩ := this
      refine ⟨bs ++ [b], _, y1, y2, y3, y4, y5, y6, es, by rw [List.length_append, e1]; rfl, ?_, fun y hy => ?_, b3, F.trans F4⟩
      · rw [List.take_add_one, hl, List.map_append, e2]
        simp [bl]
      · rcases List.mem_append.mp hy with q | q
        · exact e3 y q
        · have : y = b := by simpa using q
          exact this ▸ bg
    | bk _ _ => rw [eb] at this; exact this.elim
    | rt _ _ => rw [eb] at this; exact this.elim
    | exc _ _ => rw [eb] at this; exact this.elim
    | bad => rw [eb] at this; exact this.elim
  · subst es
    rw [rng_len] at e1 e2
    rw [List.take_of_length_le (by omega)] at e2
    simp only [bnd_bnd, bnd_sbnd, sbnd_seq, seq_seq, seqC_ap, ss_cons, ss_nil, s_asg, s_ret, s_ite, s_ex, s_for, s_whl, e_non, e_bl, e_int, e_str, e_var, e_bin, e_neg, e_cmp, e_not, e_tup, e_lst, e_dic0, e_sub, e_call, e_bi, e_mt, kindG_same, e_isi, e_inv, e_lrg, e_lc, e_dc, wipeP, new, evEs, evT, evTs, evP, evI, evG, bnd_ok, sbnd_ok, seq_nx, seq_rt, to_nx, go_nx, go_ct, rt_rt, ok_ok, slot, item0, item1, item2, item3, sub_t, i_int, i_abs, i_lenT, c_eqI, c_neI, c_eqS, c_neS, c_lt, c_le, c_gt, c_ge, asB_bl, iteC_t, iteC_f, iteC_d, b_add, b_sub, b_mul, b_mod, List.getElem?_cons_succ, List.getElem?_cons_zero, tuple_at e4, List.length_cons, List.length_nil, q3, if_true]
    refine ⟨⟨⟨w, np, bs⟩, vars, rfl, w1, w2, n0, n1, ?_, ?_, ?_, ?_, ?_, vok.1, vok.2.1, vok.2.2⟩, ?_⟩
    · show (bs.map Bk.l).Nodup
      rw [e2]; exact Lb.nd
    · show ∀ l ∈ bs.map Bk.l, 3 ≤ l
      rw [e2]; exact Lb.lo
    · show 1 ≤ bs.length
      omega
    · show (bs.length : Int) ≤ B
      omega
    · show ∀ b ∈ bs, b.good w vars (bs.map Bk.l) M
      rw [e2]; exact e3
    · have F1 := (f1.trans f2).trans nR
      have l1 := (f1.trans f2).len
      refine ⟨F.dw, Nat.le_trans F1.len F.len, fun i hi hn => ?_⟩
      rw [F.keep i (by rw [List.length_append]; omega) hn (by omega)]
      exact F1.keep i hi hn
end
end MP

set_option Elab.async false
set_option linter.all false
set_option maxRecDepth 100000
set_option maxHeartbeats 4000000
namespace MP
open PySem
open Out (ok bad)
/-! ### loops that may hand back -/
def SO.Nr (o : SO) (N : PSt → PH → Prop) (R : PV → PH → Prop) : Prop :=
  match o with
  | .nx s h => N s h
  | .ct s h => N s h
  | .rt v h => R v h
  | _ => False
def SO.Nx (o : SO) (N : PSt → PH → Prop) (R : PV → PH → Prop) : Prop :=
  match o with
  | .nx s h => N s h
  | .rt v h => R v h
  | _ => False
theorem nr_nx {s : PSt} {h : PH} {N : PSt → PH → Prop} {R : PV → PH → Prop} : (SO.nx s h).Nr N R = N s h := rfl
theorem nr_ct {s : PSt} {h : PH} {N : PSt → PH → Prop} {R : PV → PH → Prop} : (SO.ct s h).Nr N R = N s h := rfl
theorem nr_rt {v : PV} {h : PH} {N : PSt → PH → Prop} {R : PV → PH → Prop} : (SO.rt v h).Nr N R = R v h := rfl
theorem SO.Nx.rt {o : SO} {N : PSt → PH → Prop} {R : PV → PH → Prop} {f : PSt → PH → SO} (e : o.Nx N R) (k : ∀ s h, N s h → (f s h).Rt R) : (o.seq f).Rt R := by
  cases o <;> first | exact k _ _ e | exact e | exact e.elim
theorem Out.Ok.nr {α : Type} {o : Out α} {Q : α → PH → Prop} {f : α → PH → SO} {N : PSt → PH → Prop} {R : PV → PH → Prop} (e : o.Ok Q) (k : ∀ v h, Q v h → (f v h).Nr N R) : (o.sbnd f).Nr N R := by
  obtain ⟨v, h, rfl, q⟩ := e.ex; exact k v h q
theorem SO.To.nr {o : SO} {Q : PSt → PH → Prop} {f : PSt → PH → SO} {N : PSt → PH → Prop} {R : PV → PH → Prop} (e : o.To Q) (k : ∀ s h, Q s h → (f s h).Nr N R) : (o.seq f).Nr N R := by
  obtain ⟨v, h, rfl, q⟩ := e.ex; exact k v h q
theorem forI_nr {g : PV → PSt → PH → Out PSt} {b : PSt → PH → SO} {it : Itr} {xs : List PV} (P : Nat → PSt → PH → Prop) (R : PV → PH → Prop) (hit : ∀ i s h, P i s h → itStep it i h = some xs[i]?)
    (step : ∀ i x s h, xs[i]? = some x → P i s h → ((g x s h).sbnd b).Nr (P (i + 1)) R) :
    ∀ (m n i : Nat) (s : PSt) (h : PH), xs.length - i = m → i ≤ xs.length → m < n → P i s h → (forI g b it n i s h).Nx (P xs.length) R := by
  intro m
  induction m with
  | zero =>
    intro n i s h e1 e2 e3 p
    obtain ⟨n, rfl⟩ : ∃ k, n = k + 1 := ⟨n - 1, by omega⟩
    have : xs[i]? = none := List.getElem?_eq_none (by omega)
    unfold forI
    rw [hit i s h p, this]
    show P xs.length s h
    rw [show xs.length = i by omega]; exact p
  | succ m ih =>
    intro n i s h e1 e2 e3 p
    obtain ⟨n, rfl⟩ : ∃ k, n = k + 1 := ⟨n - 1, by omega⟩
    have hx : xs[i]? = some xs[i] := List.getElem?_eq_getElem (by omega)
    have e := step i xs[i] s h hx p
    unfold forI
    rw [hit i s h p, hx]
    cases eg : g xs[i] s h with
    | ok s0 h0 =>
      rw [eg] at e
      have e : (b s0 h0).Nr (P (i + 1)) R := e
      cases eb : b s0 h0 with
      | nx s1 h1 => rw [eb] at e; simp only [eg, Out.sbnd, eb]; exact ih n (i + 1) s1 h1 (by omega) (by omega) (by omega) e
      | ct s1 h1 => rw [eb] at e; simp only [eg, Out.sbnd, eb]; exact ih n (i + 1) s1 h1 (by omega) (by omega) (by omega) e
      | rt v1 h1 => rw [eb] at e; simp only [eg, Out.sbnd, eb]; exact e
      | bk _ _ => rw [eb] at e; exact e.elim
      | exc _ _ => rw [eb] at e; exact e.elim
      | bad => rw [eb] at e; exact e.elim
    | exc _ _ => rw [eg] at e; exact e.elim
    | bad => rw [eg] at e; exact e.elim
theorem for_vals_nr {C : Str → List PV → PH → Out PV} {t : Tg} {b : Ss} {xs : List PV} {s : PSt} {h : PH} (P : Nat → PSt → PH → Prop) (R : PV → PH → Prop)
    (p : P 0 s h) (step : ∀ i x s h, xs[i]? = some x → P i s h → ((evG C t x s h).sbnd (evSs C b)).Nr (P (i + 1)) R) : (forC C t b s (.vals xs) h).Nx (P xs.length) R :=
  forI_nr P R (fun _ _ _ _ => rfl) step _ _ 0 s h rfl (Nat.zero_le _) (by show _ < xs.length + 1; omega) p
/-- all old places are kept -/
structure Fk (h h' : PH) : Prop where
  len : h.length ≤ h'.length
  keep : ∀ i, i < h.length → h'[i]? = h[i]?
theorem Fk.refl {h : PH} : Fk h h := ⟨Nat.le_refl _, fun _ _ => rfl⟩
theorem Fk.trans {a b c : PH} (x : Fk a b) (y : Fk b c) : Fk a c := ⟨Nat.le_trans x.len y.len, fun i hi => (y.keep i (Nat.lt_of_lt_of_le hi x.len)).trans (x.keep i hi)⟩
theorem Fk.new {h : PH} {o : PO} : Fk h (h ++ [o]) := ⟨by simp, fun i hi => List.getElem?_append_left hi⟩
theorem Fk.at {h h' : PH} {l : Nat} {o : PO} (x : Fk h h') (e : h[l]? = some o) : h'[l]? = some o := (x.keep l (lt_of_some e)).trans e
end MP
namespace K04
open PySem MP
open Out (ok bad)
def names : X → List Int
  | .int _ => []
  | .var v => [v]
  | .load e => names e
  | .un _ e => names e
  | .bin _ a b => names a ++ names b
theorem names_len : ∀ e : X, (names e).length ≤ 2 ^ (e.deep - 1)
  | .int _ => by simp [names]
  | .var _ => by simp [names, X.deep]
  | .load e => by
    have := names_len e
    have h2 : 2 ^ (e.deep - 1) ≤ 2 ^ (e.deep + 1 - 1) := Nat.pow_le_pow_right (by decide) (by omega)
    simp only [names, X.deep]; omega
  | .un _ e => by
    have := names_len e
    have h2 : 2 ^ (e.deep - 1) ≤ 2 ^ (e.deep + 1 - 1) := Nat.pow_le_pow_right (by decide) (by omega)
    simp only [names, X.deep]; omega
  | .bin _ a b => by
    have h1 := names_len a
    have h2 := names_len b
    have p : ∀ e : X, 1 ≤ e.deep := fun e => by cases e <;> simp [X.deep]
    have pa := p a
    have pb := p b
    have h3 : 2 ^ (a.deep - 1) ≤ 2 ^ (max a.deep b.deep - 1) := Nat.pow_le_pow_right (by decide) (by omega)
    have h4 : 2 ^ (b.deep - 1) ≤ 2 ^ (max a.deep b.deep - 1) := Nat.pow_le_pow_right (by decide) (by omega)
    have h5 : 2 ^ (max a.deep b.deep + 1 - 1) = 2 ^ (max a.deep b.deep - 1) + 2 ^ (max a.deep b.deep - 1) := by
      rw [show max a.deep b.deep + 1 - 1 = (max a.deep b.deep - 1) + 1 by omega, Nat.pow_succ]; omega
    simp only [names, X.deep, List.length_append]
    omega
theorem add_l {a b : Nat} {xs ys : List PV} {h : PH} (e1 : h[a]? = some (.lst xs)) (e2 : h[b]? = some (.lst ys)) (hz : xs.length + ys.length ≤ sizeLine) : binF .Add (.ref a) (.ref b) h = ok (.ref h.length) (h ++ [.lst (xs ++ ys)]) := by
  simp only [binF, e1, e2, hz, if_true, new]
section
variable {h : PH} {w : Int} {vars : List Int} {k : Nat}
/-- the parts of an expression that are tuples -/
def parts : X → List X
  | .int _ => []
  | .var _ => []
  | .load e => [e]
  | .un _ e => [e]
  | .bin _ a b => [a, b]
theorem isi_tup {xs : List PV} {h : PH} : isiF .tuple (.tup xs) h = ok (.bl true) h := by
  have : L2.kitB "tuple" "tuple" = some true := by decide +kernel
  simp only [isiF, tyP, Bi.ty, this]
theorem isi_int {i : Int} {h : PH} : isiF .tuple (.int i) h = ok (.bl false) h := by
  have : L2.kitB "int" "tuple" = some false := by decide +kernel
  simp only [isiF, tyP, Bi.ty, this]
theorem X.isTup : ∀ e : X, ∃ xs, e.pv = .tup xs
  | .int _ => ⟨_, rfl⟩
  | .var _ => ⟨_, rfl⟩
  | .load _ => ⟨_, rfl⟩
  | .un _ _ => ⟨_, rfl⟩
  | .bin _ _ _ => ⟨_, rfl⟩
end
end K04

set_option Elab.async false
set_option linter.all false
set_option maxRecDepth 100000
set_option maxHeartbeats 4000000
namespace K04
open PySem MP
open Out (ok bad)
def argPv : Int ⊕ X → PV
  | .inl n => .int n
  | .inr e => e.pv
def namesA : Int ⊕ X → List Int
  | .inl _ => []
  | .inr e => names e
def opS : X → Str
  | .int _ => "int"
  | .var _ => "var"
  | .load _ => "load"
  | .un o _ => o
  | .bin o _ _ => o
def args : X → List (Int ⊕ X)
  | .int n => [.inl n]
  | .var v => [.inl v]
  | .load e => [.inr e]
  | .un _ e => [.inr e]
  | .bin _ a b => [.inr a, .inr b]
theorem pv_eq : ∀ e : X, e.pv = .tup (.str (opS e) :: (args e).map argPv)
  | .int _ => rfl
  | .var _ => rfl
  | .load _ => rfl
  | .un _ _ => rfl
  | .bin _ _ _ => rfl
theorem names_eq : ∀ e : X, opS e ≠ "var" → names e = (args e).flatMap namesA
  | .int _, _ => rfl
  | .var _, h => absurd rfl h
  | .load e, _ => by simp [names, args, namesA]
  | .un _ e, _ => by simp [names, args, namesA]
  | .bin _ a b, _ => by simp [names, args, namesA]
/-- the words are words of operators -/
def Ops : X → Prop
  | .int _ => True
  | .var _ => True
  | .load e => Ops e
  | .un o e => (o ≠ "var" ∧ o ≠ "int") ∧ Ops e
  | .bin o a b => (o ≠ "var" ∧ o ≠ "int") ∧ Ops a ∧ Ops b
theorem ops_of {w : Int} {vars : List Int} : ∀ e : X, e.good w vars → Ops e
  | .int _, _ => trivial
  | .var _, _ => trivial
  | .load e, h => ops_of e h
  | .un o e, h => ⟨by
      have := h.1
      simp only [List.mem_cons, List.not_mem_nil, or_false] at this
      rcases this with rfl | rfl <;> exact ⟨by decide, by decide⟩, ops_of e h.2⟩
  | .bin o a b, h => ⟨by
      have := h.1
      simp only [pairs, List.mem_cons, List.not_mem_nil, or_false] at this
      rcases this with rfl | rfl | rfl | rfl | rfl | rfl | rfl | rfl | rfl | rfl <;> exact ⟨by decide, by decide⟩, ops_of a h.2.1, ops_of b h.2.2⟩
theorem op_var : ∀ e : X, Ops e → opS e = "var" → ∃ v, e = .var v
  | .int _, _, h => absurd h (show ("int" : Str) ≠ "var" by decide)
  | .var v, _, _ => ⟨v, rfl⟩
  | .load _, _, h => absurd h (show ("load" : Str) ≠ "var" by decide)
  | .un _ _, q, h => absurd h q.1.1
  | .bin _ _ _, q, h => absurd h q.1.1
theorem op_int : ∀ e : X, Ops e → opS e = "int" → ∃ v, e = .int v
  | .int n, _, _ => ⟨n, rfl⟩
  | .var v, _, h => absurd h (show ("var" : Str) ≠ "int" by decide)
  | .load _, _, h => absurd h (show ("load" : Str) ≠ "int" by decide)
  | .un _ _, q, h => absurd h q.1.2
  | .bin _ _ _, q, h => absurd h q.1.2
theorem arg_deep : ∀ (e a : X), .inr a ∈ args e → a.deep < e.deep ∧ (Ops e → Ops a)
  | .int _, a, h => by simp [args] at h
  | .var _, a, h => by simp [args] at h
  | .load e, a, h => by simp [args] at h; subst h; exact ⟨by simp [X.deep], fun q => q⟩
  | .un _ e, a, h => by simp [args] at h; subst h; exact ⟨by simp [X.deep], fun q => q.2⟩
  | .bin _ x y, a, h => by
    simp [args] at h
    rcases h with rfl | rfl
    · exact ⟨by simp only [X.deep]; omega, fun q => q.2.1⟩
    · exact ⟨by simp only [X.deep]; omega, fun q => q.2.2⟩
theorem arg_len (e : X) : (args e).length ≤ 2 := by cases e <;> simp [args]
/-- the names of an expression -/
theorem names_ok : ∀ (n : Nat) (e : X) (k : Nat) (h : PH), e.deep ≤ n → n ≤ k → n ≤ 5 → Ops e → (evCall Lw.T k "_law_names" [e.pv] h).Ok fun v h' => ∃ l, v = .ref l ∧ h.length ≤ l ∧ h'[l]? = some (.lst ((names e).map PV.int)) ∧ Fk h h' := by
  intro n
  induction n with
  | zero => intro e k h hd; exact absurd hd (by cases e <;> simp [X.deep])
  | succ n ih =>
  intro e k h hd hk hn ho
  obtain ⟨k, rfl⟩ : ∃ j, k = j + 1 := ⟨k - 1, by omega⟩
  have hS : (64 : Nat) ≤ sizeLine := by decide
  have q1 : 1 ≤ sizeLine := by omega
  have q0 : 0 ≤ sizeLine := Nat.zero_le _
  refine call_ok Lw.T__law_names rfl (by decide) ?_
  show (evSs (evCall Lw.T k) Lw.b__law_names [some e.pv, none, none] h).Rt _
  rw [pv_eq e]
  unfold Lw.b__law_names
  simp only [bnd_bnd, bnd_sbnd, sbnd_seq, seq_seq, seqC_ap, ss_cons, ss_nil, s_asg, s_ret, s_ite, s_ex, s_for, s_whl, e_non, e_bl, e_int, e_str, e_var, e_bin, e_neg, e_cmp, e_not, e_tup, e_lst, e_dic0, e_sub, e_call, e_bi, e_mt, kindG_same, e_isi, e_inv, e_lrg, e_lc, e_dc, wipeP, new, evEs, evT, evTs, evP, evI, evG, bnd_ok, sbnd_ok, seq_nx, seq_rt, to_nx, go_nx, go_ct, rt_rt, ok_ok, slot, item0, item1, item2, item3, sub_t, i_int, i_abs, i_lenT, c_eqI, c_neI, c_eqS, c_neS, c_lt, c_le, c_gt, c_ge, asB_bl, iteC_t, iteC_f, iteC_d, b_add, b_sub, b_mul, b_mod, List.getElem?_cons_succ, List.getElem?_cons_zero, List.set_cons_succ, List.set_cons_zero]
  by_cases c1 : opS e = "var"
  · obtain ⟨v, rfl⟩ := op_var e ho c1
    rw [if_pos c1]
    simp only [bnd_bnd, bnd_sbnd, sbnd_seq, seq_seq, seqC_ap, ss_cons, ss_nil, s_asg, s_ret, s_ite, s_ex, s_for, s_whl, e_non, e_bl, e_int, e_str, e_var, e_bin, e_neg, e_cmp, e_not, e_tup, e_lst, e_dic0, e_sub, e_call, e_bi, e_mt, kindG_same, e_isi, e_inv, e_lrg, e_lc, e_dc, wipeP, new, evEs, evT, evTs, evP, evI, evG, bnd_ok, sbnd_ok, seq_nx, seq_rt, to_nx, go_nx, go_ct, rt_rt, ok_ok, slot, item0, item1, item2, item3, sub_t, i_int, i_abs, i_lenT, c_eqI, c_neI, c_eqS, c_neS, c_lt, c_le, c_gt, c_ge, asB_bl, iteC_t, iteC_f, iteC_d, b_add, b_sub, b_mul, b_mod, args, List.map_cons, List.map_nil, argPv, List.length_cons, List.length_nil, q1, if_true, List.getElem?_cons_succ, List.getElem?_cons_zero]
    exact ⟨h.length, rfl, Nat.le_refl _, at_new, Fk.new⟩
  · rw [if_neg c1]
    simp only [bnd_bnd, bnd_sbnd, sbnd_seq, seq_seq, seqC_ap, ss_cons, ss_nil, s_asg, s_ret, s_ite, s_ex, s_for, s_whl, e_non, e_bl, e_int, e_str, e_var, e_bin, e_neg, e_cmp, e_not, e_tup, e_lst, e_dic0, e_sub, e_call, e_bi, e_mt, kindG_same, e_isi, e_inv, e_lrg, e_lc, e_dc, wipeP, new, evEs, evT, evTs, evP, evI, evG, bnd_ok, sbnd_ok, seq_nx, seq_rt, to_nx, go_nx, go_ct, rt_rt, ok_ok, slot, item0, item1, item2, item3, sub_t, i_int, i_abs, i_lenT, c_eqI, c_neI, c_eqS, c_neS, c_lt, c_le, c_gt, c_ge, asB_bl, iteC_t, iteC_f, iteC_d, b_add, b_sub, b_mul, b_mod, e_slice, slcF, cut_from (α := PV) (show (0 : Int) ≤ 1 by decide), show (1 : Int).toNat = 1 from rfl, List.drop_succ_cons, List.drop_zero, List.length_nil, q0, if_true, List.getElem?_cons_succ, List.getElem?_cons_zero, List.set_cons_succ, List.set_cons_zero]
    refine SO.To.rt (for_vals (fun i s' h' => ∃ (l : Nat) (z : Option PV), s' = [some (.tup (.str (opS e) :: (args e).map argPv)), some (.ref l), z] ∧ h.length ≤ l ∧ h'[l]? = some (.lst ((((args e).take i).flatMap namesA).map PV.int)) ∧ Fk h h')
      ⟨h.length, none, rfl, Nat.le_refl _, at_new, Fk.new⟩ fun i x s' h1 hx ⟨l, z, es, hl, el, F⟩ => ?_) fun s' h1 ⟨l, z, es, hl, el, F⟩ => ?_
    · subst es
      rw [List.getElem?_map, Option.map_eq_some_iff] at hx
      obtain ⟨a, ha, rfl⟩ := hx
      have etk : (args e).take (i + 1) = (args e).take i ++ [a] := by rw [List.take_add_one, ha]; rfl
      have ham : a ∈ args e := List.mem_of_getElem? ha
      simp only [evG, sbnd_ok, List.set_cons_succ, List.set_cons_zero]
      cases a with
      | inl m =>
        simp only [argPv, bnd_bnd, bnd_sbnd, sbnd_seq, seq_seq, seqC_ap, ss_cons, ss_nil, s_asg, s_ret, s_ite, s_ex, s_for, s_whl, e_non, e_bl, e_int, e_str, e_var, e_bin, e_neg, e_cmp, e_not, e_tup, e_lst, e_dic0, e_sub, e_call, e_bi, e_mt, kindG_same, e_isi, e_inv, e_lrg, e_lc, e_dc, wipeP, new, evEs, evT, evTs, evP, evI, evG, bnd_ok, sbnd_ok, seq_nx, seq_rt, to_nx, go_nx, go_ct, rt_rt, ok_ok, slot, item0, item1, item2, item3, sub_t, i_int, i_abs, i_lenT, c_eqI, c_neI, c_eqS, c_neS, c_lt, c_le, c_gt, c_ge, asB_bl, iteC_t, iteC_f, iteC_d, b_add, b_sub, b_mul, b_mod, List.getElem?_cons_succ, List.getElem?_cons_zero, isi_int, truth]
        refine ⟨l, _, rfl, hl, ?_, F⟩
        rw [etk, List.flatMap_append]
        simpa [namesA] using el
      | inr a =>
        obtain ⟨d1, d2⟩ := arg_deep e a ham
        obtain ⟨xs, hxs⟩ := X.isTup a
        have eis : isiF .tuple a.pv h1 = ok (.bl true) h1 := by rw [hxs]; exact isi_tup
        simp only [argPv, bnd_bnd, bnd_sbnd, sbnd_seq, seq_seq, seqC_ap, ss_cons, ss_nil, s_asg, s_ret, s_ite, s_ex, s_for, s_whl, e_non, e_bl, e_int, e_str, e_var, e_bin, e_neg, e_cmp, e_not, e_tup, e_lst, e_dic0, e_sub, e_call, e_bi, e_mt, kindG_same, e_isi, e_inv, e_lrg, e_lc, e_dc, wipeP, new, evEs, evT, evTs, evP, evI, evG, bnd_ok, sbnd_ok, seq_nx, seq_rt, to_nx, go_nx, go_ct, rt_rt, ok_ok, slot, item0, item1, item2, item3, sub_t, i_int, i_abs, i_lenT, c_eqI, c_neI, c_eqS, c_neS, c_lt, c_le, c_gt, c_ge, asB_bl, iteC_t, iteC_f, iteC_d, b_add, b_sub, b_mul, b_mod, List.getElem?_cons_succ, List.getElem?_cons_zero, eis, truth]
        refine Out.Ok.go (ih a k h1 (by omega) (by omega) (by omega) (d2 ho)) fun v h2 ⟨l2, ev, hl2, el2, F2⟩ => ?_
        subst ev
        have hlen : (((((args e).take i).flatMap namesA).map PV.int).length + ((names a).map PV.int).length) ≤ sizeLine := by
          rw [List.length_map, List.length_map]
          have b1 := names_len e
          rw [names_eq e c1] at b1
          have b2 : 2 ^ (e.deep - 1) ≤ 2 ^ 4 := Nat.pow_le_pow_right (by decide) (by omega)
          have b3 : ((args e).take i).flatMap namesA ++ names a = ((args e).take (i + 1)).flatMap namesA := by rw [etk, List.flatMap_append]; simp [namesA]
          have b4 : (((args e).take (i + 1)).flatMap namesA).length ≤ ((args e).flatMap namesA).length := by
            conv => rhs; rw [← List.take_append_drop (i + 1) (args e), List.flatMap_append, List.length_append]
            omega
          rw [← b3, List.length_append] at b4
          omega
        simp only [add_l (F2.at el) el2 hlen, bnd_ok, sbnd_ok, bnd_bnd, bnd_sbnd, sbnd_seq, seq_seq, seqC_ap, ss_cons, ss_nil, s_asg, s_ret, s_ite, s_ex, s_for, s_whl, e_non, e_bl, e_int, e_str, e_var, e_bin, e_neg, e_cmp, e_not, e_tup, e_lst, e_dic0, e_sub, e_call, e_bi, e_mt, kindG_same, e_isi, e_inv, e_lrg, e_lc, e_dc, wipeP, new, evEs, evT, evTs, evP, evI, evG, bnd_ok, sbnd_ok, seq_nx, seq_rt, to_nx, go_nx, go_ct, rt_rt, ok_ok, slot, item0, item1, item2, item3, sub_t, i_int, i_abs, i_lenT, c_eqI, c_neI, c_eqS, c_neS, c_lt, c_le, c_gt, c_ge, asB_bl, iteC_t, iteC_f, iteC_d, b_add, b_sub, b_mul, b_mod, List.set_cons_succ, List.set_cons_zero]
        refine ⟨h2.length, _, rfl, Nat.le_trans F.len F2.len, ?_, (F.trans F2).trans Fk.new⟩
        rw [at_new, etk, List.flatMap_append, ← List.map_append]
        simp [namesA]
    · subst es
      simp only [bnd_bnd, bnd_sbnd, sbnd_seq, seq_seq, seqC_ap, ss_cons, ss_nil, s_asg, s_ret, s_ite, s_ex, s_for, s_whl, e_non, e_bl, e_int, e_str, e_var, e_bin, e_neg, e_cmp, e_not, e_tup, e_lst, e_dic0, e_sub, e_call, e_bi, e_mt, kindG_same, e_isi, e_inv, e_lrg, e_lc, e_dc, wipeP, new, evEs, evT, evTs, evP, evI, evG, bnd_ok, sbnd_ok, seq_nx, seq_rt, to_nx, go_nx, go_ct, rt_rt, ok_ok, slot, item0, item1, item2, item3, sub_t, i_int, i_abs, i_lenT, c_eqI, c_neI, c_eqS, c_neS, c_lt, c_le, c_gt, c_ge, asB_bl, iteC_t, iteC_f, iteC_d, b_add, b_sub, b_mul, b_mod, List.getElem?_cons_succ, List.getElem?_cons_zero]
      refine ⟨l, rfl, hl, ?_, F⟩
      rw [List.length_map, List.take_length] at el
      rw [names_eq e c1]
      exact el
end K04

set_option Elab.async false
set_option linter.all false
set_option maxRecDepth 100000
set_option maxHeartbeats 4000000
namespace K04
open PySem MP
open Out (ok bad)
/-! ### dicts that are sets of ints -/
def dB (S : List Int) : List (PV × PV) := S.map fun k => (.int k, .bl true)
def addS (S : List Int) (v : Int) : List Int := if v ∈ S then S else S ++ [v]
def addAll (S l : List Int) : List Int := l.foldl addS S
theorem any_dB {k : Int} {S : List Int} : ((dB S).any fun p => keyEq p.1 (.int k)) = decide (k ∈ S) := by
  unfold dB
  rw [List.any_map, Bool.eq_iff_iff, List.any_eq_true, decide_eq_true_eq]
  constructor
  · rintro ⟨x, hx, e⟩; simp [keyEq] at e; exact e ▸ hx
  · intro h; exact ⟨k, h, by simp [keyEq]⟩
theorem dPut_dB {k : Int} {S : List Int} : dPut (dB S) (.int k) (.bl true) = dB (addS S k) := by
  unfold dPut addS
  rw [any_dB]
  by_cases e : k ∈ S
  · simp only [e, decide_true, if_true]
    unfold dB
    rw [List.map_map]
    refine List.map_congr_left fun x _ => ?_
    by_cases q : x = k <;> simp [keyEq, q]
  · simp only [e, decide_false, Bool.false_eq_true, if_false]
    simp [dB]
theorem dGet_dB {k : Int} : ∀ {S : List Int}, (dGet (dB S) (.int k)).isSome = decide (k ∈ S)
  | [] => rfl
  | x :: r => by
    show (if keyEq (.int x) (.int k) = true then some (PV.bl true) else dGet (dB r) (.int k)).isSome = decide (k ∈ x :: r)
    by_cases e : x = k
    · simp [keyEq, e]
    · simp only [keyEq, e, decide_false, Bool.false_eq_true, if_false]
      rw [dGet_dB]
      simp [Ne.symm e]
theorem mem_addS {S : List Int} {v x : Int} : x ∈ addS S v ↔ x ∈ S ∨ x = v := by
  unfold addS
  by_cases e : v ∈ S
  · rw [if_pos e]
    exact ⟨.inl, fun h => h.elim id fun z => z ▸ e⟩
  · rw [if_neg e]; simp
theorem nd_addS {S : List Int} {v : Int} (h : S.Nodup) : (addS S v).Nodup := by
  unfold addS
  by_cases e : v ∈ S
  · rw [if_pos e]; exact h
  · rw [if_neg e]
    exact List.nodup_append.mpr ⟨h, by simp, fun a ha b hb z => by
      have : b = v := by simpa using hb
      exact e (this ▸ z ▸ ha)⟩
theorem len_addS {S : List Int} {v : Int} : (addS S v).length ≤ S.length + 1 := by
  unfold addS; split <;> simp
theorem mem_addAll {x : Int} : ∀ {l S : List Int}, x ∈ addAll S l ↔ x ∈ S ∨ x ∈ l
  | [], S => by simp [addAll]
  | v :: l, S => by
    show x ∈ addAll (addS S v) l ↔ _
    rw [mem_addAll, mem_addS, List.mem_cons]
    constructor
    · rintro ((h | h) | h)
      · exact .inl h
      · exact .inr (.inl h)
      · exact .inr (.inr h)
    · rintro (h | h | h)
      · exact .inl (.inl h)
      · exact .inl (.inr h)
      · exact .inr h
theorem nd_addAll : ∀ (l S : List Int), S.Nodup → (addAll S l).Nodup
  | [], _, h => h
  | v :: l, S, h => nd_addAll l (addS S v) (nd_addS h)
theorem len_addAll : ∀ {l S : List Int}, (addAll S l).length ≤ S.length + l.length
  | [], S => by simp [addAll]
  | v :: l, S => by
    have h1 := len_addAll (l := l) (S := addS S v)
    have h2 := len_addS (S := S) (v := v)
    show (addAll (addS S v) l).length ≤ _
    simp only [List.length_cons]
    omega
theorem addAll_append {S a b : List Int} : addAll S (a ++ b) = addAll (addAll S a) b := by unfold addAll; rw [List.foldl_append]
theorem ints_map (l : List Int) : intsOf (l.map PV.int) = some l := by
  induction l with
  | nil => rfl
  | cons x r ih => simp [intsOf, ih]
theorem set_dB {D : Nat} {S : List Int} {v : Int} {h : PH} (e : h[D]? = some (.dic (dB S))) (hz : S.length < 64) : setF (.ref D) (.int v) (.bl true) h = ok () (h.set D (.dic (dB (addS S v)))) := by
  have hS : (64 : Nat) ≤ sizeLine := by decide
  have : (dB S).length < sizeLine := by simp [dB]; omega
  simp only [setF, e, isKey, this, true_and, if_true, dPut_dB]
theorem collect_ok : ∀ (n : Nat) (e : X) (k : Nat) (h : PH) (D : Nat) (S : List Int), e.deep ≤ n → n ≤ k → Ops e → h[D]? = some (.dic (dB S)) → S.length + (names e).length ≤ 60 →
    (evCall Lw.T k "collect" [e.pv, .ref D] h).Ok fun _ h' => h' = h.set D (.dic (dB (addAll S (names e)))) := by
  intro n
  induction n with
  | zero => intro e k h D S hd; exact absurd hd (by cases e <;> simp [X.deep])
  | succ n ih =>
  intro e k h D S hd hk ho hD hz
  obtain ⟨k, rfl⟩ : ∃ j, k = j + 1 := ⟨k - 1, by omega⟩
  have lD := lt_of_some hD
  have self : h.set D (.dic (dB S)) = h := by
    have : h[D] = .dic (dB S) := (List.getElem?_eq_some_iff.mp hD).2
    rw [← this]
    exact List.set_getElem_self lD
  have body : (evSs (evCall Lw.T k) Lw.b_collect [some e.pv, some (.ref D), none] h).To fun _ h' => h' = h.set D (.dic (dB (addAll S (names e)))) := by
    rw [pv_eq e]
    unfold Lw.b_collect
    simp only [bnd_bnd, bnd_sbnd, sbnd_seq, seq_seq, seqC_ap, ss_cons, ss_nil, s_asg, s_ret, s_ite, s_ex, s_for, s_whl, e_non, e_bl, e_int, e_str, e_var, e_bin, e_neg, e_cmp, e_not, e_tup, e_lst, e_dic0, e_sub, e_call, e_bi, e_mt, kindG_same, e_isi, e_inv, e_lrg, e_lc, e_dc, wipeP, new, evEs, evT, evTs, evP, evI, evG, bnd_ok, sbnd_ok, seq_nx, seq_rt, to_nx, go_nx, go_ct, rt_rt, ok_ok, slot, item0, item1, item2, item3, sub_t, i_int, i_abs, i_lenT, c_eqI, c_neI, c_eqS, c_neS, c_lt, c_le, c_gt, c_ge, asB_bl, iteC_t, iteC_f, iteC_d, b_add, b_sub, b_mul, b_mod, List.getElem?_cons_succ, List.getElem?_cons_zero, List.set_cons_succ, List.set_cons_zero]
    by_cases c1 : opS e = "var"
    · obtain ⟨v, rfl⟩ := op_var e ho c1
      rw [if_pos c1]
      simp only [bnd_bnd, bnd_sbnd, sbnd_seq, seq_seq, seqC_ap, ss_cons, ss_nil, s_asg, s_ret, s_ite, s_ex, s_for, s_whl, e_non, e_bl, e_int, e_str, e_var, e_bin, e_neg, e_cmp, e_not, e_tup, e_lst, e_dic0, e_sub, e_call, e_bi, e_mt, kindG_same, e_isi, e_inv, e_lrg, e_lc, e_dc, wipeP, new, evEs, evT, evTs, evP, evI, evG, bnd_ok, sbnd_ok, seq_nx, seq_rt, to_nx, go_nx, go_ct, rt_rt, ok_ok, slot, item0, item1, item2, item3, sub_t, i_int, i_abs, i_lenT, c_eqI, c_neI, c_eqS, c_neS, c_lt, c_le, c_gt, c_ge, asB_bl, iteC_t, iteC_f, iteC_d, b_add, b_sub, b_mul, b_mod, args, List.map_cons, List.map_nil, argPv, List.getElem?_cons_succ, List.getElem?_cons_zero, set_dB hD (by omega)]
      rfl
    · rw [if_neg c1]
      simp only [bnd_bnd, bnd_sbnd, sbnd_seq, seq_seq, seqC_ap, ss_cons, ss_nil, s_asg, s_ret, s_ite, s_ex, s_for, s_whl, e_non, e_bl, e_int, e_str, e_var, e_bin, e_neg, e_cmp, e_not, e_tup, e_lst, e_dic0, e_sub, e_call, e_bi, e_mt, kindG_same, e_isi, e_inv, e_lrg, e_lc, e_dc, wipeP, new, evEs, evT, evTs, evP, evI, evG, bnd_ok, sbnd_ok, seq_nx, seq_rt, to_nx, go_nx, go_ct, rt_rt, ok_ok, slot, item0, item1, item2, item3, sub_t, i_int, i_abs, i_lenT, c_eqI, c_neI, c_eqS, c_neS, c_lt, c_le, c_gt, c_ge, asB_bl, iteC_t, iteC_f, iteC_d, b_add, b_sub, b_mul, b_mod, List.getElem?_cons_succ, List.getElem?_cons_zero]
      by_cases c2 : opS e = "int"
      · obtain ⟨v, rfl⟩ := op_int e ho c2
        rw [show (!decide (opS (X.int v) = "int")) = false from by simp [opS]]
        simp only [bnd_bnd, bnd_sbnd, sbnd_seq, seq_seq, seqC_ap, ss_cons, ss_nil, s_asg, s_ret, s_ite, s_ex, s_for, s_whl, e_non, e_bl, e_int, e_str, e_var, e_bin, e_neg, e_cmp, e_not, e_tup, e_lst, e_dic0, e_sub, e_call, e_bi, e_mt, kindG_same, e_isi, e_inv, e_lrg, e_lc, e_dc, wipeP, new, evEs, evT, evTs, evP, evI, evG, bnd_ok, sbnd_ok, seq_nx, seq_rt, to_nx, go_nx, go_ct, rt_rt, ok_ok, slot, item0, item1, item2, item3, sub_t, i_int, i_abs, i_lenT, c_eqI, c_neI, c_eqS, c_neS, c_lt, c_le, c_gt, c_ge, asB_bl, iteC_t, iteC_f, iteC_d, b_add, b_sub, b_mul, b_mod]
        exact self.symm
      · rw [show (!decide (opS e = "int")) = true from by simp [c2]]
        simp only [bnd_bnd, bnd_sbnd, sbnd_seq, seq_seq, seqC_ap, ss_cons, ss_nil, s_asg, s_ret, s_ite, s_ex, s_for, s_whl, e_non, e_bl, e_int, e_str, e_var, e_bin, e_neg, e_cmp, e_not, e_tup, e_lst, e_dic0, e_sub, e_call, e_bi, e_mt, kindG_same, e_isi, e_inv, e_lrg, e_lc, e_dc, wipeP, new, evEs, evT, evTs, evP, evI, evG, bnd_ok, sbnd_ok, seq_nx, seq_rt, to_nx, go_nx, go_ct, rt_rt, ok_ok, slot, item0, item1, item2, item3, sub_t, i_int, i_abs, i_lenT, c_eqI, c_neI, c_eqS, c_neS, c_lt, c_le, c_gt, c_ge, asB_bl, iteC_t, iteC_f, iteC_d, b_add, b_sub, b_mul, b_mod, e_slice, slcF, cut_from (α := PV) (show (0 : Int) ≤ 1 by decide), show (1 : Int).toNat = 1 from rfl, List.drop_succ_cons, List.drop_zero, List.getElem?_cons_succ, List.getElem?_cons_zero, List.set_cons_succ, List.set_cons_zero]
        refine SO.To.to (for_vals (fun i s' h' => ∃ z, s' = [some (.tup (.str (opS e) :: (args e).map argPv)), some (.ref D), z] ∧ h' = h.set D (.dic (dB (addAll S (((args e).take i).flatMap namesA))))) ⟨none, rfl, self.symm⟩ fun i x s' h1 hx ⟨z, es, eh⟩ => ?_) fun s' h1 ⟨z, es, eh⟩ => ?_
        · subst es eh
          rw [List.getElem?_map, Option.map_eq_some_iff] at hx
          obtain ⟨a, ha, rfl⟩ := hx
          have etk : (args e).take (i + 1) = (args e).take i ++ [a] := by rw [List.take_add_one, ha]; rfl
          have ham : a ∈ args e := List.mem_of_getElem? ha
          have nint : ∃ x, a = .inr x := by
            cases e <;> simp [args] at ham <;> first | exact absurd rfl c2 | exact absurd rfl c1 | exact ⟨_, ham⟩ | (rcases ham with h | h <;> exact ⟨_, h⟩)
          obtain ⟨a, rfl⟩ := nint
          obtain ⟨d1, d2⟩ := arg_deep e a ham
          have b3 : ((args e).take i).flatMap namesA ++ names a = ((args e).take (i + 1)).flatMap namesA := by rw [etk, List.flatMap_append]; simp [namesA]
          have b4 : (((args e).take (i + 1)).flatMap namesA).length ≤ (names e).length := by
            rw [names_eq e c1]
            conv => rhs; rw [← List.take_append_drop (i + 1) (args e), List.flatMap_append, List.length_append]
            omega
          rw [← b3, List.length_append] at b4
          have hlen := len_addAll (l := ((args e).take i).flatMap namesA) (S := S)
          simp only [evG, sbnd_ok, List.set_cons_succ, List.set_cons_zero, argPv, bnd_bnd, bnd_sbnd, sbnd_seq, seq_seq, seqC_ap, ss_cons, ss_nil, s_asg, s_ret, s_ite, s_ex, s_for, s_whl, e_non, e_bl, e_int, e_str, e_var, e_bin, e_neg, e_cmp, e_not, e_tup, e_lst, e_dic0, e_sub, e_call, e_bi, e_mt, kindG_same, e_isi, e_inv, e_lrg, e_lc, e_dc, wipeP, new, evEs, evT, evTs, evP, evI, evG, bnd_ok, sbnd_ok, seq_nx, seq_rt, to_nx, go_nx, go_ct, rt_rt, ok_ok, slot, item0, item1, item2, item3, sub_t, i_int, i_abs, i_lenT, c_eqI, c_neI, c_eqS, c_neS, c_lt, c_le, c_gt, c_ge, asB_bl, iteC_t, iteC_f, iteC_d, b_add, b_sub, b_mul, b_mod, List.getElem?_cons_succ, List.getElem?_cons_zero]
          refine Out.Ok.go (ih a k _ D _ (by omega) (by omega) (d2 ho) (List.getElem?_set_self lD) (by omega)) fun v h2 eh => ?_
          subst eh
          simp only [bnd_bnd, bnd_sbnd, sbnd_seq, seq_seq, seqC_ap, ss_cons, ss_nil, s_asg, s_ret, s_ite, s_ex, s_for, s_whl, e_non, e_bl, e_int, e_str, e_var, e_bin, e_neg, e_cmp, e_not, e_tup, e_lst, e_dic0, e_sub, e_call, e_bi, e_mt, kindG_same, e_isi, e_inv, e_lrg, e_lc, e_dc, wipeP, new, evEs, evT, evTs, evP, evI, evG, bnd_ok, sbnd_ok, seq_nx, seq_rt, to_nx, go_nx, go_ct, rt_rt, ok_ok, slot, item0, item1, item2, item3, sub_t, i_int, i_abs, i_lenT, c_eqI, c_neI, c_eqS, c_neS, c_lt, c_le, c_gt, c_ge, asB_bl, iteC_t, iteC_f, iteC_d, b_add, b_sub, b_mul, b_mod]
          refine ⟨_, rfl, ?_⟩
          rw [List.set_set, ← addAll_append, b3]
        · subst es eh
          simp only [bnd_bnd, bnd_sbnd, sbnd_seq, seq_seq, seqC_ap, ss_cons, ss_nil, s_asg, s_ret, s_ite, s_ex, s_for, s_whl, e_non, e_bl, e_int, e_str, e_var, e_bin, e_neg, e_cmp, e_not, e_tup, e_lst, e_dic0, e_sub, e_call, e_bi, e_mt, kindG_same, e_isi, e_inv, e_lrg, e_lc, e_dc, wipeP, new, evEs, evT, evTs, evP, evI, evG, bnd_ok, sbnd_ok, seq_nx, seq_rt, to_nx, go_nx, go_ct, rt_rt, ok_ok, slot, item0, item1, item2, item3, sub_t, i_int, i_abs, i_lenT, c_eqI, c_neI, c_eqS, c_neS, c_lt, c_le, c_gt, c_ge, asB_bl, iteC_t, iteC_f, iteC_d, b_add, b_sub, b_mul, b_mod]
          rw [List.length_map, List.take_length, names_eq e c1]
  obtain ⟨s', h', e1, eh⟩ := body.ex
  have : evCall Lw.T (k + 1) "collect" [e.pv, .ref D] h = ok .non h' := by
    simp only [evCall, Lw.T_collect]
    have e1 : evSs (evCall Lw.T k) Lw.d_collect.body ([e.pv, PV.ref D].map some ++ List.replicate (Lw.d_collect.ns - Lw.d_collect.np) none) h = .nx s' h' := e1
    rw [if_pos ⟨rfl, by decide⟩, e1]
  rw [this]
  exact eh
theorem uses_ok {e : X} {k : Nat} {h : PH} (hd : e.deep ≤ 5) (hk : 6 ≤ k) (ho : Ops e) : (evCall Lw.T k "uses" [e.pv] h).Ok fun v h' => v = .tup ((sortI (addAll [] (names e))).map PV.int) ∧ Fk h h' := by
  obtain ⟨k, rfl⟩ : ∃ j, k = j + 1 := ⟨k - 1, by omega⟩
  refine call_ok Lw.T_uses rfl (by decide) ?_
  have nl := names_len e
  have b2 : 2 ^ (e.deep - 1) ≤ 2 ^ 4 := Nat.pow_le_pow_right (by decide) (by omega)
  show (evSs (evCall Lw.T k) Lw.b_uses [some e.pv, none] h).Rt _
  unfold Lw.b_uses
  simp only [bnd_bnd, bnd_sbnd, sbnd_seq, seq_seq, seqC_ap, ss_cons, ss_nil, s_asg, s_ret, s_ite, s_ex, s_for, s_whl, e_non, e_bl, e_int, e_str, e_var, e_bin, e_neg, e_cmp, e_not, e_tup, e_lst, e_dic0, e_sub, e_call, e_bi, e_mt, kindG_same, e_isi, e_inv, e_lrg, e_lc, e_dc, wipeP, new, evEs, evT, evTs, evP, evI, evG, bnd_ok, sbnd_ok, seq_nx, seq_rt, to_nx, go_nx, go_ct, rt_rt, ok_ok, slot, item0, item1, item2, item3, sub_t, i_int, i_abs, i_lenT, c_eqI, c_neI, c_eqS, c_neS, c_lt, c_le, c_gt, c_ge, asB_bl, iteC_t, iteC_f, iteC_d, b_add, b_sub, b_mul, b_mod, List.getElem?_cons_succ, List.getElem?_cons_zero, List.set_cons_succ, List.set_cons_zero]
  refine Out.Ok.rt (collect_ok 5 e k _ h.length [] hd (by omega) ho at_new (by simp; omega)) fun v h1 eh => ?_
  subst eh
  have ll := len_addAll (l := names e) (S := [])
  have es : biF .sorted [.ref h.length] ((h ++ [PO.dic []]).set h.length (.dic (dB (addAll [] (names e))))) = ok (.ref (h.length + 1)) ((h ++ [PO.dic []]).set h.length (.dic (dB (addAll [] (names e)))) ++ [.lst ((sortI (addAll [] (names e))).map PV.int)]) := by
    have e0 : ((h ++ [PO.dic []]).set h.length (.dic (dB (addAll [] (names e)))))[h.length]? = some (.dic (dB (addAll [] (names e)))) := List.getElem?_set_self (by simp)
    have e1 : (dB (addAll [] (names e))).map (·.1) = (addAll [] (names e)).map PV.int := by simp [dB]
    simp only [biF, lstAt, dicAt, e0, e1, Option.bind_none, Option.bind_some, ints_map, new]
    rw [if_pos (by simp at ll; omega)]
    simp
  simp only [bnd_bnd, bnd_sbnd, sbnd_seq, seq_seq, seqC_ap, ss_cons, ss_nil, s_asg, s_ret, s_ite, s_ex, s_for, s_whl, e_non, e_bl, e_int, e_str, e_var, e_bin, e_neg, e_cmp, e_not, e_tup, e_lst, e_dic0, e_sub, e_call, e_bi, e_mt, kindG_same, e_isi, e_inv, e_lrg, e_lc, e_dc, wipeP, new, evEs, evT, evTs, evP, evI, evG, bnd_ok, sbnd_ok, seq_nx, seq_rt, to_nx, go_nx, go_ct, rt_rt, ok_ok, slot, item0, item1, item2, item3, sub_t, i_int, i_abs, i_lenT, c_eqI, c_neI, c_eqS, c_neS, c_lt, c_le, c_gt, c_ge, asB_bl, iteC_t, iteC_f, iteC_d, b_add, b_sub, b_mul, b_mod, List.getElem?_cons_succ, List.getElem?_cons_zero, es]
  rw [tuple_at (show (((h ++ [PO.dic []]).set h.length (.dic (dB (addAll [] (names e))))) ++ [PO.lst ((sortI (addAll [] (names e))).map PV.int)])[h.length + 1]? = some (.lst ((sortI (addAll [] (names e))).map PV.int)) from by
    rw [List.getElem?_append_right (by simp)]; simp)]
  refine ⟨rfl, by simp, fun i hi => ?_⟩
  rw [List.getElem?_append_left (by simp; omega), List.getElem?_set_ne (by omega), List.getElem?_append_left hi]
end K04

set_option Elab.async false
set_option linter.all false
set_option maxRecDepth 100000
set_option maxHeartbeats 4000000
namespace K04
open PySem MP
open Out (ok bad)
/-! ### strictly sorted lists -/
theorem strict_eq : ∀ {a b : List Int}, a.Pairwise (· < ·) → b.Pairwise (· < ·) → (∀ x, x ∈ a ↔ x ∈ b) → a = b
  | [], [], _, _, _ => rfl
  | [], y :: b, _, _, h => by have := (h y).mpr (by simp); cases this
  | x :: a, [], _, _, h => by have := (h x).mp (by simp); cases this
  | x :: a, y :: b, ha, hb, h => by
    have ha' := List.pairwise_cons.mp ha
    have hb' := List.pairwise_cons.mp hb
    have e : x = y := by
      have h1 := (h x).mp (by simp)
      have h2 := (h y).mpr (by simp)
      rcases List.mem_cons.mp h1 with q1 | q1
      · exact q1
      · rcases List.mem_cons.mp h2 with q2 | q2
        · exact q2.symm
        · have := ha'.1 y q2
          have := hb'.1 x q1
          omega
    subst e
    rw [strict_eq ha'.2 hb'.2 fun z => ?_]
    constructor
    · intro hz
      have := ha'.1 z hz
      rcases List.mem_cons.mp ((h z).mp (List.mem_cons_of_mem _ hz)) with q | q
      · omega
      · exact q
    · intro hz
      have := hb'.1 z hz
      rcases List.mem_cons.mp ((h z).mpr (List.mem_cons_of_mem _ hz)) with q | q
      · omega
      · exact q
theorem strict_sort {l : List Int} (h : l.Nodup) : (sortI l).Pairwise (· < ·) := by
  have h1 := sortI_sorted l
  have h2 : (sortI l).Nodup := (sortI_perm l).nodup_iff.mpr h
  generalize sortI l = m at h1 h2
  induction m with
  | nil => exact .nil
  | cons x m ih =>
    have a := List.pairwise_cons.mp h1
    have b := List.nodup_cons.mp h2
    refine List.pairwise_cons.mpr ⟨fun y hy => ?_, ih a.2 b.2⟩
    have := a.1 y hy
    have : x ≠ y := fun z => b.1 (z ▸ hy)
    omega
/-- the first of each run -/
def sel (N : List Int) : Nat → List Int
  | 0 => []
  | i + 1 => match N[i]? with
    | some x => if i = 0 ∨ N[i - 1]? ≠ some x then sel N i ++ [x] else sel N i
    | none => sel N i
theorem mem_sel {N : List Int} {x : Int} : ∀ {i : Nat}, i ≤ N.length → (x ∈ sel N i ↔ x ∈ N.take i)
  | 0, _ => by simp [sel]
  | i + 1, hi => by
    have ih := mem_sel (N := N) (x := x) (i := i) (by omega)
    have e : N[i]? = some N[i] := List.getElem?_eq_getElem (by omega)
    rw [List.take_add_one, e]
    unfold sel
    simp only [e]
    by_cases c : i = 0 ∨ N[i - 1]? ≠ some N[i]
    · rw [if_pos c, List.mem_append, List.mem_append, ih]
      simp
    · rw [if_neg c, List.mem_append, ih]
      refine ⟨.inl, fun h => h.elim id fun h => ?_⟩
      have : x = N[i] := by simpa using h
      subst this
      have c := not_or.mp c
      have c2 := Classical.not_not.mp c.2
      refine List.mem_iff_getElem?.mpr ⟨i - 1, ?_⟩
      rw [List.getElem?_take_of_lt (by omega)]
      exact c2
theorem strict_sel {N : List Int} (hs : N.Pairwise (· ≤ ·)) : ∀ {i : Nat}, i ≤ N.length → (sel N i).Pairwise (· < ·)
  | 0, _ => .nil
  | i + 1, hi => by
    have ih := strict_sel hs (i := i) (by omega)
    have e : N[i]? = some N[i] := List.getElem?_eq_getElem (by omega)
    unfold sel
    simp only [e]
    by_cases c : i = 0 ∨ N[i - 1]? ≠ some N[i]
    · rw [if_pos c]
      refine List.pairwise_append.mpr ⟨ih, List.pairwise_singleton .., fun a ha b hb => ?_⟩
      have : b = N[i] := by simpa using hb
      subst this
      have ha := (mem_sel (by omega)).mp ha
      obtain ⟨j, hj⟩ := List.mem_iff_getElem?.mp ha
      have lj := (List.getElem?_eq_some_iff.mp hj).1
      rw [List.length_take] at lj
      rw [List.getElem?_take_of_lt (by omega)] at hj
      have hj2 := (List.getElem?_eq_some_iff.mp hj).2
      have hne : i ≠ 0 := by omega
      have c2 := c.resolve_left hne
      have e3 : N[i - 1]? = some N[i - 1] := List.getElem?_eq_getElem (by omega)
      rw [e3] at c2
      have c3 : N[i - 1] ≠ N[i] := fun z => c2 (by rw [z])
      have pw := List.pairwise_iff_getElem.mp hs
      have p1 := pw (i - 1) i (by omega) (by omega) (by omega)
      by_cases q : j = i - 1
      · subst q
        omega
      · have p2 := pw j (i - 1) (by omega) (by omega) (by omega)
        omega
    · rw [if_neg c]; exact ih
theorem sel_eq (l : List Int) : sel (sortI l) (sortI l).length = sortI (addAll [] l) := by
  refine strict_eq (strict_sel (sortI_sorted l) (Nat.le_refl _)) (strict_sort (nd_addAll l [] List.nodup_nil)) fun x => ?_
  rw [mem_sel (Nat.le_refl _), List.take_length, (sortI_perm l).mem_iff, (sortI_perm _).mem_iff, mem_addAll]
  simp
end K04

set_option Elab.async false
set_option linter.all false
set_option maxRecDepth 100000
set_option maxHeartbeats 4000000
namespace K04
open PySem MP
open Out (ok bad)
def endsOf : En → List Int
  | .ret _ => []
  | .go l => [l]
  | .br _ a b => if a = b then [a] else [a, b]
def rawOf : En → List Int
  | .ret _ => []
  | .go l => [l]
  | .br _ a b => [a, b]
section
variable {h : PH} {k : Nat}
theorem targets_ok (en : En) (hk : 1 ≤ k) : (evCall Lw.T k "targets" [en.pv] h).Ok fun v h' => v = .tup ((rawOf en).map PV.int) ∧ h' = h := by
  obtain ⟨k, rfl⟩ : ∃ j, k = j + 1 := ⟨k - 1, by omega⟩
  have hS : (64 : Nat) ≤ sizeLine := by decide
  have q2 : 2 ≤ sizeLine := by omega
  have q1 : 1 ≤ sizeLine := by omega
  refine call_ok Lw.T_targets rfl (by decide) ?_
  show (evSs (evCall Lw.T k) Lw.b_targets [some en.pv] h).Rt _
  unfold Lw.b_targets
  have n1 : ("return" : Str) ≠ "go" := by decide
  have n2 : ("return" : Str) ≠ "if" := by decide
  have n3 : ("if" : Str) ≠ "go" := by decide
  cases en with
  | ret e =>
    unfold En.pv
    simp [bnd_bnd, bnd_sbnd, sbnd_seq, seq_seq, seqC_ap, ss_cons, ss_nil, s_asg, s_ret, s_ite, s_ex, s_for, s_whl, e_non, e_bl, e_int, e_str, e_var, e_bin, e_neg, e_cmp, e_not, e_tup, e_lst, e_dic0, e_sub, e_call, e_bi, e_mt, kindG_same, e_isi, e_inv, e_lrg, e_lc, e_dc, wipeP, new, evEs, evT, evTs, evP, evI, evG, bnd_ok, sbnd_ok, seq_nx, seq_rt, to_nx, go_nx, go_ct, rt_rt, ok_ok, slot, item0, item1, item2, item3, sub_t, i_int, i_abs, i_lenT, c_eqI, c_neI, c_eqS, c_neS, c_lt, c_le, c_gt, c_ge, asB_bl, iteC_t, iteC_f, iteC_d, b_add, b_sub, b_mul, b_mod, n1, n2, rawOf]
  | go l =>
    unfold En.pv
    simp [bnd_bnd, bnd_sbnd, sbnd_seq, seq_seq, seqC_ap, ss_cons, ss_nil, s_asg, s_ret, s_ite, s_ex, s_for, s_whl, e_non, e_bl, e_int, e_str, e_var, e_bin, e_neg, e_cmp, e_not, e_tup, e_lst, e_dic0, e_sub, e_call, e_bi, e_mt, kindG_same, e_isi, e_inv, e_lrg, e_lc, e_dc, wipeP, new, evEs, evT, evTs, evP, evI, evG, bnd_ok, sbnd_ok, seq_nx, seq_rt, to_nx, go_nx, go_ct, rt_rt, ok_ok, slot, item0, item1, item2, item3, sub_t, i_int, i_abs, i_lenT, c_eqI, c_neI, c_eqS, c_neS, c_lt, c_le, c_gt, c_ge, asB_bl, iteC_t, iteC_f, iteC_d, b_add, b_sub, b_mul, b_mod, q1, rawOf]
  | br e a b =>
    unfold En.pv
    simp [bnd_bnd, bnd_sbnd, sbnd_seq, seq_seq, seqC_ap, ss_cons, ss_nil, s_asg, s_ret, s_ite, s_ex, s_for, s_whl, e_non, e_bl, e_int, e_str, e_var, e_bin, e_neg, e_cmp, e_not, e_tup, e_lst, e_dic0, e_sub, e_call, e_bi, e_mt, kindG_same, e_isi, e_inv, e_lrg, e_lc, e_dc, wipeP, new, evEs, evT, evTs, evP, evI, evG, bnd_ok, sbnd_ok, seq_nx, seq_rt, to_nx, go_nx, go_ct, rt_rt, ok_ok, slot, item0, item1, item2, item3, sub_t, i_int, i_abs, i_lenT, c_eqI, c_neI, c_eqS, c_neS, c_lt, c_le, c_gt, c_ge, asB_bl, iteC_t, iteC_f, iteC_d, b_add, b_sub, b_mul, b_mod, n3, q2, rawOf]
theorem succ_ok (b : Bk) (hk : 2 ≤ k) : (evCall Lw.T k "successors" [b.pv] h).Ok fun v h' => v = .tup ((endsOf b.en).map PV.int) ∧ h' = h := by
  obtain ⟨k, rfl⟩ : ∃ j, k = j + 1 := ⟨k - 1, by omega⟩
  refine call_ok Lw.T_successors rfl (by decide) ?_
  show (evSs (evCall Lw.T k) Lw.b_successors [some b.pv, none] h).Rt _
  unfold Lw.b_successors Bk.pv
  simp only [bnd_bnd, bnd_sbnd, sbnd_seq, seq_seq, seqC_ap, ss_cons, ss_nil, s_asg, s_ret, s_ite, s_ex, s_for, s_whl, e_non, e_bl, e_int, e_str, e_var, e_bin, e_neg, e_cmp, e_not, e_tup, e_lst, e_dic0, e_sub, e_call, e_bi, e_mt, kindG_same, e_isi, e_inv, e_lrg, e_lc, e_dc, wipeP, new, evEs, evT, evTs, evP, evI, evG, bnd_ok, sbnd_ok, seq_nx, seq_rt, to_nx, go_nx, go_ct, rt_rt, ok_ok, slot, item0, item1, item2, item3, sub_t, i_int, i_abs, i_lenT, c_eqI, c_neI, c_eqS, c_neS, c_lt, c_le, c_gt, c_ge, asB_bl, iteC_t, iteC_f, iteC_d, b_add, b_sub, b_mul, b_mod, List.getElem?_cons_succ, List.getElem?_cons_zero, List.set_cons_succ, List.set_cons_zero]
  refine Out.Ok.rt (targets_ok b.en (by omega)) fun v h1 ⟨ev, eh⟩ => ?_
  subst ev eh
  cases b.en with
  | ret e => simp [bnd_bnd, bnd_sbnd, sbnd_seq, seq_seq, seqC_ap, ss_cons, ss_nil, s_asg, s_ret, s_ite, s_ex, s_for, s_whl, e_non, e_bl, e_int, e_str, e_var, e_bin, e_neg, e_cmp, e_not, e_tup, e_lst, e_dic0, e_sub, e_call, e_bi, e_mt, kindG_same, e_isi, e_inv, e_lrg, e_lc, e_dc, wipeP, new, evEs, evT, evTs, evP, evI, evG, bnd_ok, sbnd_ok, seq_nx, seq_rt, to_nx, go_nx, go_ct, rt_rt, ok_ok, slot, item0, item1, item2, item3, sub_t, i_int, i_abs, i_lenT, c_eqI, c_neI, c_eqS, c_neS, c_lt, c_le, c_gt, c_ge, asB_bl, iteC_t, iteC_f, iteC_d, b_add, b_sub, b_mul, b_mod, rawOf, endsOf]
  | go l => simp [bnd_bnd, bnd_sbnd, sbnd_seq, seq_seq, seqC_ap, ss_cons, ss_nil, s_asg, s_ret, s_ite, s_ex, s_for, s_whl, e_non, e_bl, e_int, e_str, e_var, e_bin, e_neg, e_cmp, e_not, e_tup, e_lst, e_dic0, e_sub, e_call, e_bi, e_mt, kindG_same, e_isi, e_inv, e_lrg, e_lc, e_dc, wipeP, new, evEs, evT, evTs, evP, evI, evG, bnd_ok, sbnd_ok, seq_nx, seq_rt, to_nx, go_nx, go_ct, rt_rt, ok_ok, slot, item0, item1, item2, item3, sub_t, i_int, i_abs, i_lenT, c_eqI, c_neI, c_eqS, c_neS, c_lt, c_le, c_gt, c_ge, asB_bl, iteC_t, iteC_f, iteC_d, b_add, b_sub, b_mul, b_mod, rawOf, endsOf]
  | br e x y =>
    by_cases c : x = y
    · subst c
      simp [bnd_bnd, bnd_sbnd, sbnd_seq, seq_seq, seqC_ap, ss_cons, ss_nil, s_asg, s_ret, s_ite, s_ex, s_for, s_whl, e_non, e_bl, e_int, e_str, e_var, e_bin, e_neg, e_cmp, e_not, e_tup, e_lst, e_dic0, e_sub, e_call, e_bi, e_mt, kindG_same, e_isi, e_inv, e_lrg, e_lc, e_dc, wipeP, new, evEs, evT, evTs, evP, evI, evG, bnd_ok, sbnd_ok, seq_nx, seq_rt, to_nx, go_nx, go_ct, rt_rt, ok_ok, slot, item0, item1, item2, item3, sub_t, i_int, i_abs, i_lenT, c_eqI, c_neI, c_eqS, c_neS, c_lt, c_le, c_gt, c_ge, asB_bl, iteC_t, iteC_f, iteC_d, b_add, b_sub, b_mul, b_mod, rawOf, endsOf, e_slice, slcF, cut_to (α := PV) (show (0 : Int) ≤ 1 by decide)]
    · simp [bnd_bnd, bnd_sbnd, sbnd_seq, seq_seq, seqC_ap, ss_cons, ss_nil, s_asg, s_ret, s_ite, s_ex, s_for, s_whl, e_non, e_bl, e_int, e_str, e_var, e_bin, e_neg, e_cmp, e_not, e_tup, e_lst, e_dic0, e_sub, e_call, e_bi, e_mt, kindG_same, e_isi, e_inv, e_lrg, e_lc, e_dc, wipeP, new, evEs, evT, evTs, evP, evI, evG, bnd_ok, sbnd_ok, seq_nx, seq_rt, to_nx, go_nx, go_ct, rt_rt, ok_ok, slot, item0, item1, item2, item3, sub_t, i_int, i_abs, i_lenT, c_eqI, c_neI, c_eqS, c_neS, c_lt, c_le, c_gt, c_ge, asB_bl, iteC_t, iteC_f, iteC_d, b_add, b_sub, b_mul, b_mod, rawOf, endsOf, c]
theorem ends_ok (b : Bk) (hk : 1 ≤ k) : (evCall Lw.T k "_law_ends" [b.pv] h).Ok fun v h' => ∃ l, v = .ref l ∧ h.length ≤ l ∧ h'[l]? = some (.lst ((endsOf b.en).map PV.int)) ∧ Fk h h' := by
  obtain ⟨k, rfl⟩ : ∃ j, k = j + 1 := ⟨k - 1, by omega⟩
  have hS : (64 : Nat) ≤ sizeLine := by decide
  have q2 : 2 ≤ sizeLine := by omega
  have q1 : 1 ≤ sizeLine := by omega
  have n1 : ("return" : Str) ≠ "go" := by decide
  have n2 : ("return" : Str) ≠ "if" := by decide
  have n3 : ("if" : Str) ≠ "go" := by decide
  refine call_ok Lw.T__law_ends rfl (by decide) ?_
  show (evSs (evCall Lw.T k) Lw.b__law_ends [some b.pv, none, none] h).Rt _
  unfold Lw.b__law_ends Bk.pv
  cases b.en with
  | ret e =>
    unfold En.pv
    simp [bnd_bnd, bnd_sbnd, sbnd_seq, seq_seq, seqC_ap, ss_cons, ss_nil, s_asg, s_ret, s_ite, s_ex, s_for, s_whl, e_non, e_bl, e_int, e_str, e_var, e_bin, e_neg, e_cmp, e_not, e_tup, e_lst, e_dic0, e_sub, e_call, e_bi, e_mt, kindG_same, e_isi, e_inv, e_lrg, e_lc, e_dc, wipeP, new, evEs, evT, evTs, evP, evI, evG, bnd_ok, sbnd_ok, seq_nx, seq_rt, to_nx, go_nx, go_ct, rt_rt, ok_ok, slot, item0, item1, item2, item3, sub_t, i_int, i_abs, i_lenT, c_eqI, c_neI, c_eqS, c_neS, c_lt, c_le, c_gt, c_ge, asB_bl, iteC_t, iteC_f, iteC_d, b_add, b_sub, b_mul, b_mod, e_ite, n1, n2, endsOf, i_lenL at_new]
    exact Fk.new
  | go l =>
    unfold En.pv
    simp [bnd_bnd, bnd_sbnd, sbnd_seq, seq_seq, seqC_ap, ss_cons, ss_nil, s_asg, s_ret, s_ite, s_ex, s_for, s_whl, e_non, e_bl, e_int, e_str, e_var, e_bin, e_neg, e_cmp, e_not, e_tup, e_lst, e_dic0, e_sub, e_call, e_bi, e_mt, kindG_same, e_isi, e_inv, e_lrg, e_lc, e_dc, wipeP, new, evEs, evT, evTs, evP, evI, evG, bnd_ok, sbnd_ok, seq_nx, seq_rt, to_nx, go_nx, go_ct, rt_rt, ok_ok, slot, item0, item1, item2, item3, sub_t, i_int, i_abs, i_lenT, c_eqI, c_neI, c_eqS, c_neS, c_lt, c_le, c_gt, c_ge, asB_bl, iteC_t, iteC_f, iteC_d, b_add, b_sub, b_mul, b_mod, e_ite, q1, endsOf, i_lenL at_new]
    exact Fk.new
  | br e x y =>
    unfold En.pv
    have sl := sub_l (at_new (h := h) (o := .lst [.int x, .int y]))
    by_cases c : x = y
    · subst c
      simp [bnd_bnd, bnd_sbnd, sbnd_seq, seq_seq, seqC_ap, ss_cons, ss_nil, s_asg, s_ret, s_ite, s_ex, s_for, s_whl, e_non, e_bl, e_int, e_str, e_var, e_bin, e_neg, e_cmp, e_not, e_tup, e_lst, e_dic0, e_sub, e_call, e_bi, e_mt, kindG_same, e_isi, e_inv, e_lrg, e_lc, e_dc, wipeP, new, evEs, evT, evTs, evP, evI, evG, bnd_ok, sbnd_ok, seq_nx, seq_rt, to_nx, go_nx, go_ct, rt_rt, ok_ok, slot, item0, item1, item2, item3, sub_t, i_int, i_abs, i_lenT, c_eqI, c_neI, c_eqS, c_neS, c_lt, c_le, c_gt, c_ge, asB_bl, iteC_t, iteC_f, iteC_d, b_add, b_sub, b_mul, b_mod, e_ite, n3, q2, endsOf, i_lenL at_new, sl, e_slice, slc_l at_new, cut_to (α := PV) (show (0 : Int) ≤ 1 by decide)]
      exact ⟨by simp, fun i hi => List.getElem?_append_left hi⟩
    · simp [bnd_bnd, bnd_sbnd, sbnd_seq, seq_seq, seqC_ap, ss_cons, ss_nil, s_asg, s_ret, s_ite, s_ex, s_for, s_whl, e_non, e_bl, e_int, e_str, e_var, e_bin, e_neg, e_cmp, e_not, e_tup, e_lst, e_dic0, e_sub, e_call, e_bi, e_mt, kindG_same, e_isi, e_inv, e_lrg, e_lc, e_dc, wipeP, new, evEs, evT, evTs, evP, evI, evG, bnd_ok, sbnd_ok, seq_nx, seq_rt, to_nx, go_nx, go_ct, rt_rt, ok_ok, slot, item0, item1, item2, item3, sub_t, i_int, i_abs, i_lenT, c_eqI, c_neI, c_eqS, c_neS, c_lt, c_le, c_gt, c_ge, asB_bl, iteC_t, iteC_f, iteC_d, b_add, b_sub, b_mul, b_mod, e_ite, n3, q2, endsOf, i_lenL at_new, sl, c]
      exact Fk.new
end
end K04

set_option Elab.async false
set_option linter.all false
set_option maxRecDepth 100000
set_option maxHeartbeats 4000000
namespace K04
open PySem MP
open Out (ok bad)
/-- what a statement reads -/
def partsS : Sm → List X
  | .set _ e => [e]
  | .write e => [e]
  | .store a b => [a, b]
def setS : Sm → List Int
  | .set v _ => [v]
  | _ => []
def partsE : En → List X
  | .ret e => [e]
  | .go _ => []
  | .br e _ _ => [e]
/-- read v, and not set before -/
def useIn (U D : List Int) (e : X) : List Int := addAll U ((sortI (addAll [] (names e))).filter fun v => decide (v ∉ D))
def stepS (p : List Int × List Int) (s : Sm) : List Int × List Int := ((partsS s).foldl (fun U e => useIn U p.2 e) p.1, addAll p.2 (setS s))
def useD (b : Bk) : List Int × List Int :=
  let p := b.ss.foldl stepS ([], [])
  ((partsE b.en).foldl (fun U e => useIn U p.2 e) p.1, p.2)
/-- what a block does with a name first: 0 it reads it, 1 it sets it, 2 nothing -/
def firstS (v : Int) : List Sm → En → Nat
  | [], en => if ∃ e ∈ partsE en, v ∈ names e then 0 else 2
  | s :: r, en => if ∃ e ∈ partsS s, v ∈ names e then 0 else if v ∈ setS s then 1 else firstS v r en
theorem firstS_nil {v : Int} {en : En} : firstS v [] en = if ∃ e ∈ partsE en, v ∈ names e then 0 else 2 := rfl
theorem firstS_cons {v : Int} {s : Sm} {r : List Sm} {en : En} : firstS v (s :: r) en = if ∃ e ∈ partsS s, v ∈ names e then 0 else if v ∈ setS s then 1 else firstS v r en := rfl
theorem mem_useIn {U D : List Int} {e : X} {v : Int} : v ∈ useIn U D e ↔ v ∈ U ∨ (v ∈ names e ∧ v ∉ D) := by
  unfold useIn
  rw [mem_addAll, List.mem_filter, (sortI_perm _).mem_iff, mem_addAll]
  simp
theorem mem_fold {D : List Int} {v : Int} : ∀ {l : List X} {U : List Int}, v ∈ l.foldl (fun U e => useIn U D e) U ↔ v ∈ U ∨ ((∃ e ∈ l, v ∈ names e) ∧ v ∉ D)
  | [], U => by simp
  | e :: l, U => by
    rw [List.foldl_cons, mem_fold, mem_useIn]
    constructor
    · rintro ((h | h) | h)
      · exact .inl h
      · exact .inr ⟨⟨e, by simp, h.1⟩, h.2⟩
      · obtain ⟨⟨x, hx, hv⟩, hd⟩ := h
        exact .inr ⟨⟨x, List.mem_cons_of_mem _ hx, hv⟩, hd⟩
    · rintro (h | ⟨⟨x, hx, hv⟩, hd⟩)
      · exact .inl (.inl h)
      · rcases List.mem_cons.mp hx with q | q
        · exact .inl (.inr ⟨q ▸ hv, hd⟩)
        · exact .inr ⟨⟨x, q, hv⟩, hd⟩
/-- a name's fate from some point of a block on -/
theorem first_fold {v : Int} {en : En} : ∀ (ss : List Sm) (p : List Int × List Int),
    let q := ss.foldl stepS p
    let U := (partsE en).foldl (fun U e => useIn U q.2 e) q.1
    (v ∈ U ↔ v ∈ p.1 ∨ (v ∉ p.2 ∧ firstS v ss en = 0)) ∧ (v ∈ q.2 → v ∈ p.2 ∨ firstS v ss en ≠ 2) ∧ (v ∈ p.2 → v ∈ q.2) ∧ (firstS v ss en = 1 → v ∈ q.2)
  | [], p => by
    refine ⟨?_, fun h => .inl h, fun h => h, fun h => ?_⟩
    · show v ∈ (partsE en).foldl (fun U e => useIn U p.2 e) p.1 ↔ _
      rw [mem_fold]
      rw [firstS_nil]
      by_cases c : ∃ e ∈ partsE en, v ∈ names e
      · rw [if_pos c]
        exact ⟨fun h => h.imp id fun z => ⟨z.2, rfl⟩, fun h => h.imp id fun z => ⟨c, z.1⟩⟩
      · rw [if_neg c]
        exact ⟨fun h => h.imp id fun z => absurd z.1 c, fun h => h.imp id fun z => absurd z.2 (by decide)⟩
    · rw [firstS_nil] at h
      split at h <;> cases h
  | s :: r, p => by
    obtain ⟨i1, i2, i3, i4⟩ := first_fold (v := v) (en := en) r (stepS p s)
    have m1 : v ∈ (stepS p s).1 ↔ v ∈ p.1 ∨ ((∃ e ∈ partsS s, v ∈ names e) ∧ v ∉ p.2) := mem_fold
    have m2 : v ∈ (stepS p s).2 ↔ v ∈ p.2 ∨ v ∈ setS s := mem_addAll
    refine ⟨?_, fun h => ?_, fun h => i3 (m2.mpr (.inl h)), fun h => ?_⟩
    · show v ∈ (partsE en).foldl (fun U e => useIn U (r.foldl stepS (stepS p s)).2 e) (r.foldl stepS (stepS p s)).1 ↔ _
      rw [i1, m1, m2]
      rw [firstS_cons]
      by_cases c : ∃ e ∈ partsS s, v ∈ names e
      · rw [if_pos c]
        constructor
        · rintro ((h | h) | h)
          · exact .inl h
          · exact .inr ⟨h.2, rfl⟩
          · exact .inr ⟨fun z => h.1 (.inl z), rfl⟩
        · rintro (h | h)
          · exact .inl (.inl h)
          · exact .inl (.inr ⟨c, h.1⟩)
      · rw [if_neg c]
        by_cases c2 : v ∈ setS s
        · rw [if_pos c2]
          constructor
          · rintro ((h | h) | h)
            · exact .inl h
            · exact absurd h.1 c
            · exact absurd (.inr c2) h.1
          · rintro (h | h)
            · exact .inl (.inl h)
            · exact absurd h.2 (by decide)
        · rw [if_neg c2]
          constructor
          · rintro ((h | h) | h)
            · exact .inl h
            · exact absurd h.1 c
            · exact .inr ⟨fun z => h.1 (.inl z), h.2⟩
          · rintro (h | h)
            · exact .inl (.inl h)
            · exact .inr ⟨fun z => z.elim h.1 c2, h.2⟩
    · rw [firstS_cons]
      by_cases c : ∃ e ∈ partsS s, v ∈ names e
      · rw [if_pos c]; exact .inr (by decide)
      · rw [if_neg c]
        by_cases c2 : v ∈ setS s
        · rw [if_pos c2]; exact .inr (by decide)
        · rw [if_neg c2]
          rcases i2 h with q | q
          · rcases m2.mp q with q | q
            · exact .inl q
            · exact absurd q c2
          · exact .inr q
    · rw [firstS_cons] at h
      split at h
      · cases h
      · split at h
        · rename_i c2
          exact i3 (m2.mpr (.inr c2))
        · exact i4 h
theorem use_iff {b : Bk} {v : Int} : v ∈ (useD b).1 ↔ firstS v b.ss b.en = 0 := by
  have := (first_fold (v := v) (en := b.en) b.ss ([], [])).1
  simp only [List.not_mem_nil, not_false_eq_true, true_and, false_or] at this
  exact this
theorem set_iff {b : Bk} {v : Int} (h : v ∉ (useD b).1) : v ∈ (useD b).2 ↔ firstS v b.ss b.en = 1 := by
  obtain ⟨i1, i2, i3, i4⟩ := first_fold (v := v) (en := b.en) b.ss ([], [])
  rw [use_iff] at h
  constructor
  · intro q
    have := (i2 q).resolve_left (by simp)
    have l : ∀ ss : List Sm, firstS v ss b.en ≤ 2 := by
      intro ss
      induction ss with
      | nil => rw [firstS_nil]; split <;> omega
      | cons s r ih =>
        rw [firstS_cons]
        split
        · omega
        · split <;> omega
    have := l b.ss
    have h : firstS v b.ss b.en ≠ 0 := h
    omega
  · exact i4
end K04

set_option Elab.async false
set_option linter.all false
set_option maxRecDepth 100000
set_option maxHeartbeats 4000000
namespace K04
open PySem MP
open Out (ok bad)
/-- all old places but two are kept -/
structure Fu (p q : Nat) (h h' : PH) : Prop where
  len : h.length ≤ h'.length
  keep : ∀ i, i < h.length → i ≠ p → i ≠ q → h'[i]? = h[i]?
theorem Fu.refl {p q : Nat} {h : PH} : Fu p q h h := ⟨Nat.le_refl _, fun _ _ _ _ => rfl⟩
theorem Fu.trans {p q : Nat} {a b c : PH} (x : Fu p q a b) (y : Fu p q b c) : Fu p q a c := ⟨Nat.le_trans x.len y.len, fun i hi h1 h2 => (y.keep i (Nat.lt_of_lt_of_le hi x.len) h1 h2).trans (x.keep i hi h1 h2)⟩
theorem Fk.fu {p q : Nat} {a b : PH} (x : Fk a b) : Fu p q a b := ⟨x.len, fun i hi _ _ => x.keep i hi⟩
theorem Fu.set1 {p q : Nat} {h : PH} {o : PO} : Fu p q h (h.set p o) := ⟨by rw [List.length_set]; exact Nat.le_refl _, fun i _ h1 _ => by rw [List.getElem?_set_ne (Ne.symm h1)]⟩
theorem Fu.set2 {p q : Nat} {h : PH} {o : PO} : Fu p q h (h.set q o) := ⟨by rw [List.length_set]; exact Nat.le_refl _, fun i _ _ h2 => by rw [List.getElem?_set_ne (Ne.symm h2)]⟩
section
variable {C : Str → List PV → PH → Out PV} {h : PH} {k p q : Nat} {U D : List Int} {a0 a3 a4 a5 a6 : Option PV} {vars : List Int} {w : Int}
def bodyV : Ss := .cons (.ite (.cmp .NotIn (.var 6) (.var 2)) (.cons (.asg (.sub (.var 1) (.var 6)) (.bl true)) .nil) .nil) .nil
theorem in_dB {l : Nat} {k : Int} {S : List Int} {h : PH} (e : h[l]? = some (.dic (dB S))) : inB (.int k) (.ref l) h = ok (decide (k ∈ S)) h := by
  simp only [inB, e, isKey, if_true, dGet_dB]
theorem cIn {x y : PV} {b : Bool} {h : PH} (e : inB x y h = ok b h) : cmpF .In x y h = ok (.bl b) h := by simp only [cmpF, e, bnd_ok]
theorem cNotIn {x y : PV} {b : Bool} {h : PH} (e : inB x y h = ok b h) : cmpF .NotIn x y h = ok (.bl (!b)) h := by simp only [cmpF, e, bnd_ok]
theorem inner_ok {l : List Int} (hp : h[p]? = some (.dic (dB U))) (hq : h[q]? = some (.dic (dB D))) (ne : p ≠ q) (hz : U.length + l.length < 60) :
    (forC C (.nm 6) bodyV [a0, some (.ref p), some (.ref q), a3, a4, a5, a6] (.vals (l.map PV.int)) h).To fun s' h' => ∃ a6, s' = [a0, some (.ref p), some (.ref q), a3, a4, a5, a6] ∧ h' = h.set p (.dic (dB (addAll U (l.filter fun v => decide (v ∉ D))))) := by
  have lp := lt_of_some hp
  have self : h.set p (.dic (dB U)) = h := by
    have : h[p] = .dic (dB U) := (List.getElem?_eq_some_iff.mp hp).2
    rw [← this]
    exact List.set_getElem_self lp
  have := for_vals (C := C) (t := .nm 6) (b := bodyV) (xs := l.map PV.int) (s := [a0, some (.ref p), some (.ref q), a3, a4, a5, a6]) (h := h) (fun i s' h' => ∃ a6, s' = [a0, some (.ref p), some (.ref q), a3, a4, a5, a6] ∧ h' = h.set p (.dic (dB (addAll U ((l.take i).filter fun v => decide (v ∉ D)))))) ⟨a6, rfl, self.symm⟩
    fun i x s' h' hx ⟨a6, es, eh⟩ => ?_
  · rw [List.length_map, List.take_length] at this; exact this
  · subst es eh
    rw [List.getElem?_map, Option.map_eq_some_iff] at hx
    obtain ⟨v, hv, rfl⟩ := hx
    have hp' : (h.set p (.dic (dB (addAll U ((l.take i).filter fun v => decide (v ∉ D))))))[p]? = some (.dic (dB (addAll U ((l.take i).filter fun v => decide (v ∉ D))))) := List.getElem?_set_self lp
    have hq' : (h.set p (.dic (dB (addAll U ((l.take i).filter fun v => decide (v ∉ D))))))[q]? = some (.dic (dB D)) := by rw [List.getElem?_set_ne ne]; exact hq
    have b1 := len_addAll (l := (l.take i).filter fun v => decide (v ∉ D)) (S := U)
    have b2 := List.length_filter_le (fun v => decide (v ∉ D)) (l.take i)
    have b3 := List.length_take_le i l
    have b4 := lt_of_some hv
    have etk : l.take (i + 1) = l.take i ++ [v] := by rw [List.take_add_one, hv]; rfl
    have cn := cNotIn (in_dB (k := v) hq')
    have st := set_dB (v := v) hp' (by omega)
    simp only [evG, sbnd_ok, List.set_cons_succ, List.set_cons_zero]
    unfold bodyV
    by_cases c : v ∈ D
    · simp only [bnd_bnd, bnd_sbnd, sbnd_seq, seq_seq, seqC_ap, ss_cons, ss_nil, s_asg, s_ret, s_ite, s_ex, s_for, s_whl, e_non, e_bl, e_int, e_str, e_var, e_bin, e_neg, e_cmp, e_not, e_tup, e_lst, e_dic0, e_sub, e_call, e_bi, e_mt, kindG_same, e_isi, e_inv, e_lrg, e_lc, e_dc, wipeP, new, evEs, evT, evTs, evP, evI, evG, bnd_ok, sbnd_ok, seq_nx, seq_rt, to_nx, go_nx, go_ct, rt_rt, ok_ok, slot, item0, item1, item2, item3, sub_t, i_int, i_abs, i_lenT, c_eqI, c_neI, c_eqS, c_neS, c_lt, c_le, c_gt, c_ge, asB_bl, iteC_t, iteC_f, iteC_d, b_add, b_sub, b_mul, b_mod, List.getElem?_cons_succ, List.getElem?_cons_zero, cn, show decide (v ∈ D) = true from decide_eq_true c, Bool.not_true]
      refine ⟨_, rfl, ?_⟩
      rw [etk, List.filter_append, List.filter_cons_of_neg (by simpa using c)]
      simp
    · simp only [bnd_bnd, bnd_sbnd, sbnd_seq, seq_seq, seqC_ap, ss_cons, ss_nil, s_asg, s_ret, s_ite, s_ex, s_for, s_whl, e_non, e_bl, e_int, e_str, e_var, e_bin, e_neg, e_cmp, e_not, e_tup, e_lst, e_dic0, e_sub, e_call, e_bi, e_mt, kindG_same, e_isi, e_inv, e_lrg, e_lc, e_dc, wipeP, new, evEs, evT, evTs, evP, evI, evG, bnd_ok, sbnd_ok, seq_nx, seq_rt, to_nx, go_nx, go_ct, rt_rt, ok_ok, slot, item0, item1, item2, item3, sub_t, i_int, i_abs, i_lenT, c_eqI, c_neI, c_eqS, c_neS, c_lt, c_le, c_gt, c_ge, asB_bl, iteC_t, iteC_f, iteC_d, b_add, b_sub, b_mul, b_mod, List.getElem?_cons_succ, List.getElem?_cons_zero, cn, show decide (v ∈ D) = false from decide_eq_false c, Bool.not_false, st]
      refine ⟨_, rfl, ?_⟩
      rw [etk, List.filter_append, List.filter_cons_of_pos (by simpa using c), List.set_set, addAll_append]
      rfl
end
end K04

set_option Elab.async false
set_option linter.all false
set_option maxRecDepth 100000
set_option maxHeartbeats 4000000
namespace K04
open PySem MP
open Out (ok bad)
theorem names_vars {w : Int} {vars : List Int} : ∀ (e : X), e.good w vars → ∀ v ∈ names e, v ∈ vars
  | .int _, _, v, h => by simp [names] at h
  | .var x, g, v, h => by simp [names] at h; subst h; exact g
  | .load e, g, v, h => names_vars e g v h
  | .un _ e, g, v, h => names_vars e g.2 v h
  | .bin _ a b, g, v, h => by
    rcases List.mem_append.mp (show v ∈ names a ++ names b from h) with q | q
    · exact names_vars a g.2.1 v q
    · exact names_vars b g.2.2 v q
/-- an expression that a walk may take -/
def Fine (vars : List Int) (e : X) : Prop := e.deep ≤ 3 ∧ Ops e ∧ ∀ v ∈ names e, v ∈ vars
structure In (vars : List Int) (U : List Int) : Prop where
  nd : U.Nodup
  sub : ∀ x ∈ U, x ∈ vars
theorem In.len {vars U : List Int} (i : In vars U) : U.length ≤ vars.length := by
  have : ∀ {l m : List Int}, l.Nodup → (∀ x ∈ l, x ∈ m) → l.length ≤ m.length := by
    intro l
    induction l with
    | nil => exact fun _ _ => Nat.zero_le _
    | cons x l ih =>
      intro m h s
      have hx := s x (by simp)
      have h1 := ih (m := m.erase x) (List.nodup_cons.mp h).2 fun y hy => by
        have ne : y ≠ x := fun e => (List.nodup_cons.mp h).1 (e ▸ hy)
        exact (List.mem_erase_of_ne ne).mpr (s y (List.mem_cons_of_mem _ hy))
      have h2 := List.length_erase_of_mem hx
      have h3 := List.length_pos_of_mem hx
      simp only [List.length_cons]
      omega
  exact this i.nd i.sub
theorem In.use {vars U D : List Int} {e : X} (i : In vars U) (f : ∀ v ∈ names e, v ∈ vars) : In vars (useIn U D e) :=
  ⟨nd_addAll _ _ i.nd, fun x hx => (mem_useIn.mp hx).elim (i.sub x) fun h => f x h.1⟩
theorem In.all {vars U l : List Int} (i : In vars U) (f : ∀ v ∈ l, v ∈ vars) : In vars (addAll U l) :=
  ⟨nd_addAll _ _ i.nd, fun x hx => (mem_addAll.mp hx).elim (i.sub x) (f x)⟩
section
variable {h : PH} {k p q : Nat} {U D : List Int} {a0 a3 a4 a5 a6 : Option PV} {vars : List Int} {w : Int}
theorem fu_of {p q : Nat} {a b : PH} (x : Fk a b) : Fu p q a b := ⟨x.len, fun i hi _ _ => x.keep i hi⟩
def bodyQ : Ss := .cons (.frr (.nm 6) (.ex (.call "uses" (.cons (.var 5) .nil))) bodyV) .nil
theorem one_ok {e : X} (hk : 6 ≤ k) (hp : h[p]? = some (.dic (dB U))) (hq : h[q]? = some (.dic (dB D))) (ne : p ≠ q) (i : In vars U) (hv : vars.length ≤ 7) (f : Fine vars e) :
    (evS (evCall Lw.T k) (.frr (.nm 6) (.ex (.call "uses" (.cons (.var 5) .nil))) bodyV) [a0, some (.ref p), some (.ref q), a3, a4, some e.pv, a6] h).To fun s' h' => ∃ a6, s' = [a0, some (.ref p), some (.ref q), a3, a4, some e.pv, a6] ∧ h'[p]? = some (.dic (dB (useIn U D e))) ∧ h'[q]? = some (.dic (dB D)) ∧ Fu p q h h' := by
  simp only [bnd_bnd, bnd_sbnd, sbnd_seq, seq_seq, seqC_ap, ss_cons, ss_nil, s_asg, s_ret, s_ite, s_ex, s_for, s_whl, e_non, e_bl, e_int, e_str, e_var, e_bin, e_neg, e_cmp, e_not, e_tup, e_lst, e_dic0, e_sub, e_call, e_bi, e_mt, kindG_same, e_isi, e_inv, e_lrg, e_lc, e_dc, wipeP, new, evEs, evT, evTs, evP, evI, evG, bnd_ok, sbnd_ok, seq_nx, seq_rt, to_nx, go_nx, go_ct, rt_rt, ok_ok, slot, item0, item1, item2, item3, sub_t, i_int, i_abs, i_lenT, c_eqI, c_neI, c_eqS, c_neS, c_lt, c_le, c_gt, c_ge, asB_bl, iteC_t, iteC_f, iteC_d, b_add, b_sub, b_mul, b_mod, List.getElem?_cons_succ, List.getElem?_cons_zero]
  refine Out.Ok.to (uses_ok (by have := f.1; omega) hk f.2.1) fun v h1 ⟨ev, F⟩ => ?_
  subst ev
  have nl := names_len e
  have b2 : 2 ^ (e.deep - 1) ≤ 2 ^ 2 := Nat.pow_le_pow_right (by decide) (by have := f.1; omega)
  have ll := len_addAll (l := names e) (S := [])
  have ls := (sortI_perm (addAll [] (names e))).length_eq
  have iu := i.len
  simp only [sbnd_ok]
  refine (inner_ok (F.at hp) (F.at hq) ne (by simp at ll; omega)).mono fun s' h' ⟨a6, es, eh⟩ => ⟨a6, es, ?_, ?_, ?_⟩
  · rw [eh, List.getElem?_set_self (lt_of_some (F.at hp))]; rfl
  · rw [eh, List.getElem?_set_ne ne]; exact F.at hq
  · rw [eh]; exact (fu_of F).trans Fu.set1
theorem parts_ok {es : List X} (hk : 6 ≤ k) (hp : h[p]? = some (.dic (dB U))) (hq : h[q]? = some (.dic (dB D))) (ne : p ≠ q) (i : In vars U) (hv : vars.length ≤ 7) (f : ∀ e ∈ es, Fine vars e) :
    (forC (evCall Lw.T k) (.nm 5) bodyQ [a0, some (.ref p), some (.ref q), a3, a4, a5, a6] (.vals (es.map X.pv)) h).To fun s' h' => ∃ a5 a6, s' = [a0, some (.ref p), some (.ref q), a3, a4, a5, a6] ∧ h'[p]? = some (.dic (dB (es.foldl (fun U e => useIn U D e) U))) ∧ h'[q]? = some (.dic (dB D)) ∧ Fu p q h h' ∧ In vars (es.foldl (fun U e => useIn U D e) U) := by
  have := for_vals (C := evCall Lw.T k) (t := .nm 5) (b := bodyQ) (xs := es.map X.pv) (s := [a0, some (.ref p), some (.ref q), a3, a4, a5, a6]) (h := h) (fun j s' h' => ∃ a5 a6, s' = [a0, some (.ref p), some (.ref q), a3, a4, a5, a6] ∧ h'[p]? = some (.dic (dB ((es.take j).foldl (fun U e => useIn U D e) U))) ∧ h'[q]? = some (.dic (dB D)) ∧ Fu p q h h' ∧ In vars ((es.take j).foldl (fun U e => useIn U D e) U)) ⟨a5, a6, rfl, hp, hq, Fu.refl, i⟩
    fun j x s' h' hx ⟨a5, a6, es', hp', hq', F, i'⟩ => ?_
  · rw [List.length_map, List.take_length] at this; exact this
  · subst es'
    rw [List.getElem?_map, Option.map_eq_some_iff] at hx
    obtain ⟨e, he, rfl⟩ := hx
    have etk : es.take (j + 1) = es.take j ++ [e] := by rw [List.take_add_one, he]; rfl
    have fe := f e (List.mem_of_getElem? he)
    simp only [evG, sbnd_ok, List.set_cons_succ, List.set_cons_zero]
    unfold bodyQ
    rw [ss_cons]
    refine SO.To.go (one_ok (a0 := a0) (a3 := a3) (a4 := a4) (a6 := a6) hk hp' hq' ne i' hv fe) fun s2 h2 ⟨b6, es2, p2, q2, F2⟩ => ?_
    subst es2
    rw [ss_nil, go_nx, etk, List.foldl_append]
    exact ⟨_, b6, rfl, p2, q2, F.trans F2, i'.use fe.2.2⟩
end
end K04

set_option Elab.async false
set_option linter.all false
set_option maxRecDepth 100000
set_option maxHeartbeats 4000000
namespace K04
open PySem MP
open Out (ok bad)
section
variable {h : PH} {k p q : Nat} {U D : List Int} {a0 a3 a4 a5 a6 : Option PV} {vars : List Int} {w : Int}
def bodyT : Ss := .cons (.asg (.nm 4) (.ite (.cmp .Eq (.sub (.var 3) (.int 0)) (.str "set")) (.slc (.var 3) (.some (.int 2)) .none) (.slc (.var 3) (.some (.int 1)) .none)))
    (.cons (.frr (.nm 5) (.ex (.var 4)) bodyQ)
    (.cons (.ite (.cmp .Eq (.sub (.var 3) (.int 0)) (.str "set")) (.cons (.asg (.sub (.var 2) (.sub (.var 3) (.int 1))) (.bl true)) .nil) .nil) .nil))
theorem stmt_ok {s : Sm} (hk : 6 ≤ k) (hp : h[p]? = some (.dic (dB U))) (hq : h[q]? = some (.dic (dB D))) (ne : p ≠ q) (i : In vars U) (iD : In vars D) (hv : vars.length ≤ 7) (f : ∀ e ∈ partsS s, Fine vars e) (g : ∀ v ∈ setS s, v ∈ vars) :
    (evSs (evCall Lw.T k) bodyT [a0, some (.ref p), some (.ref q), some s.pv, a4, a5, a6] h).To fun s' h' => ∃ a3 a4 a5 a6, s' = [a0, some (.ref p), some (.ref q), a3, a4, a5, a6] ∧ h'[p]? = some (.dic (dB (stepS (U, D) s).1)) ∧ h'[q]? = some (.dic (dB (stepS (U, D) s).2)) ∧ Fu p q h h' ∧ In vars (stepS (U, D) s).1 ∧ In vars (stepS (U, D) s).2 := by
  have n1 : ("write" : Str) ≠ "set" := by decide
  have n2 : ("store" : Str) ≠ "set" := by decide
  have c2 : ∀ xs : List PV, cutP xs (some 2) none = xs.drop 2 := fun xs => cut_from (α := PV) (show (0 : Int) ≤ 2 by decide)
  have c1 : ∀ xs : List PV, cutP xs (some 1) none = xs.drop 1 := fun xs => cut_from (α := PV) (show (0 : Int) ≤ 1 by decide)
  unfold bodyT
  rw [ss_cons]
  have pp := fun (a4 : Option PV) => parts_ok (a0 := a0) (a3 := some s.pv) (a4 := a4) (a5 := a5) (a6 := a6) hk hp hq ne i hv f
  cases s with
  | set v e =>
    have e4 : evS (evCall Lw.T k) (.asg (.nm 4) (.ite (.cmp .Eq (.sub (.var 3) (.int 0)) (.str "set")) (.slc (.var 3) (.some (.int 2)) .none) (.slc (.var 3) (.some (.int 1)) .none))) [a0, some (.ref p), some (.ref q), some (Sm.pv (.set v e)), a4, a5, a6] h = .nx [a0, some (.ref p), some (.ref q), some (Sm.pv (.set v e)), some (.tup ((partsS (.set v e)).map X.pv)), a5, a6] h := by
      unfold Sm.pv
      simp [bnd_bnd, bnd_sbnd, sbnd_seq, seq_seq, seqC_ap, ss_cons, ss_nil, s_asg, s_ret, s_ite, s_ex, s_for, s_whl, e_non, e_bl, e_int, e_str, e_var, e_bin, e_neg, e_cmp, e_not, e_tup, e_lst, e_dic0, e_sub, e_call, e_bi, e_mt, kindG_same, e_isi, e_inv, e_lrg, e_lc, e_dc, wipeP, new, evEs, evT, evTs, evP, evI, evG, bnd_ok, sbnd_ok, seq_nx, seq_rt, to_nx, go_nx, go_ct, rt_rt, ok_ok, slot, item0, item1, item2, item3, sub_t, i_int, i_abs, i_lenT, c_eqI, c_neI, c_eqS, c_neS, c_lt, c_le, c_gt, c_ge, asB_bl, iteC_t, iteC_f, iteC_d, b_add, b_sub, b_mul, b_mod, e_ite, e_slice, slcF, c2, partsS]
    rw [e4, seq_nx, ss_cons, s_for]
    simp only [evI, e_var, slot, List.getElem?_cons_succ, List.getElem?_cons_zero, bnd_ok, sbnd_ok]
    refine SO.To.to (pp _) fun s2 h2 ⟨b5, b6, es, p2, q2, F, i2⟩ => ?_
    subst es
    have st := set_dB (v := v) q2 (by have := iD.len; omega)
    unfold Sm.pv
    simp only [bnd_bnd, bnd_sbnd, sbnd_seq, seq_seq, seqC_ap, ss_cons, ss_nil, s_asg, s_ret, s_ite, s_ex, s_for, s_whl, e_non, e_bl, e_int, e_str, e_var, e_bin, e_neg, e_cmp, e_not, e_tup, e_lst, e_dic0, e_sub, e_call, e_bi, e_mt, kindG_same, e_isi, e_inv, e_lrg, e_lc, e_dc, wipeP, new, evEs, evT, evTs, evP, evI, evG, bnd_ok, sbnd_ok, seq_nx, seq_rt, to_nx, go_nx, go_ct, rt_rt, ok_ok, slot, item0, item1, item2, item3, sub_t, i_int, i_abs, i_lenT, c_eqI, c_neI, c_eqS, c_neS, c_lt, c_le, c_gt, c_ge, asB_bl, iteC_t, iteC_f, iteC_d, b_add, b_sub, b_mul, b_mod, List.getElem?_cons_succ, List.getElem?_cons_zero, decide_true, st]
    refine ⟨_, _, _, _, rfl, ?_, ?_, F.trans Fu.set2, i2, iD.all g⟩
    · rw [List.getElem?_set_ne (Ne.symm ne)]; exact p2
    · rw [List.getElem?_set_self (lt_of_some q2)]; rfl
  | write e =>
    have e4 : evS (evCall Lw.T k) (.asg (.nm 4) (.ite (.cmp .Eq (.sub (.var 3) (.int 0)) (.str "set")) (.slc (.var 3) (.some (.int 2)) .none) (.slc (.var 3) (.some (.int 1)) .none))) [a0, some (.ref p), some (.ref q), some (Sm.pv (.write e)), a4, a5, a6] h = .nx [a0, some (.ref p), some (.ref q), some (Sm.pv (.write e)), some (.tup ((partsS (.write e)).map X.pv)), a5, a6] h := by
      unfold Sm.pv
      simp [bnd_bnd, bnd_sbnd, sbnd_seq, seq_seq, seqC_ap, ss_cons, ss_nil, s_asg, s_ret, s_ite, s_ex, s_for, s_whl, e_non, e_bl, e_int, e_str, e_var, e_bin, e_neg, e_cmp, e_not, e_tup, e_lst, e_dic0, e_sub, e_call, e_bi, e_mt, kindG_same, e_isi, e_inv, e_lrg, e_lc, e_dc, wipeP, new, evEs, evT, evTs, evP, evI, evG, bnd_ok, sbnd_ok, seq_nx, seq_rt, to_nx, go_nx, go_ct, rt_rt, ok_ok, slot, item0, item1, item2, item3, sub_t, i_int, i_abs, i_lenT, c_eqI, c_neI, c_eqS, c_neS, c_lt, c_le, c_gt, c_ge, asB_bl, iteC_t, iteC_f, iteC_d, b_add, b_sub, b_mul, b_mod, e_ite, e_slice, slcF, c1, partsS, n1]
    rw [e4, seq_nx, ss_cons, s_for]
    simp only [evI, e_var, slot, List.getElem?_cons_succ, List.getElem?_cons_zero, bnd_ok, sbnd_ok]
    refine SO.To.to (pp _) fun s2 h2 ⟨b5, b6, es, p2, q2, F, i2⟩ => ?_
    subst es
    unfold Sm.pv
    simp only [bnd_bnd, bnd_sbnd, sbnd_seq, seq_seq, seqC_ap, ss_cons, ss_nil, s_asg, s_ret, s_ite, s_ex, s_for, s_whl, e_non, e_bl, e_int, e_str, e_var, e_bin, e_neg, e_cmp, e_not, e_tup, e_lst, e_dic0, e_sub, e_call, e_bi, e_mt, kindG_same, e_isi, e_inv, e_lrg, e_lc, e_dc, wipeP, new, evEs, evT, evTs, evP, evI, evG, bnd_ok, sbnd_ok, seq_nx, seq_rt, to_nx, go_nx, go_ct, rt_rt, ok_ok, slot, item0, item1, item2, item3, sub_t, i_int, i_abs, i_lenT, c_eqI, c_neI, c_eqS, c_neS, c_lt, c_le, c_gt, c_ge, asB_bl, iteC_t, iteC_f, iteC_d, b_add, b_sub, b_mul, b_mod, List.getElem?_cons_succ, List.getElem?_cons_zero, show decide (("write" : Str) = "set") = false from decide_eq_false n1, n1, if_false]
    exact ⟨_, _, _, _, rfl, p2, q2, F, i2, iD⟩
  | store a b =>
    have e4 : evS (evCall Lw.T k) (.asg (.nm 4) (.ite (.cmp .Eq (.sub (.var 3) (.int 0)) (.str "set")) (.slc (.var 3) (.some (.int 2)) .none) (.slc (.var 3) (.some (.int 1)) .none))) [a0, some (.ref p), some (.ref q), some (Sm.pv (.store a b)), a4, a5, a6] h = .nx [a0, some (.ref p), some (.ref q), some (Sm.pv (.store a b)), some (.tup ((partsS (.store a b)).map X.pv)), a5, a6] h := by
      unfold Sm.pv
      simp [bnd_bnd, bnd_sbnd, sbnd_seq, seq_seq, seqC_ap, ss_cons, ss_nil, s_asg, s_ret, s_ite, s_ex, s_for, s_whl, e_non, e_bl, e_int, e_str, e_var, e_bin, e_neg, e_cmp, e_not, e_tup, e_lst, e_dic0, e_sub, e_call, e_bi, e_mt, kindG_same, e_isi, e_inv, e_lrg, e_lc, e_dc, wipeP, new, evEs, evT, evTs, evP, evI, evG, bnd_ok, sbnd_ok, seq_nx, seq_rt, to_nx, go_nx, go_ct, rt_rt, ok_ok, slot, item0, item1, item2, item3, sub_t, i_int, i_abs, i_lenT, c_eqI, c_neI, c_eqS, c_neS, c_lt, c_le, c_gt, c_ge, asB_bl, iteC_t, iteC_f, iteC_d, b_add, b_sub, b_mul, b_mod, e_ite, e_slice, slcF, c1, partsS, n2]
    rw [e4, seq_nx, ss_cons, s_for]
    simp only [evI, e_var, slot, List.getElem?_cons_succ, List.getElem?_cons_zero, bnd_ok, sbnd_ok]
    refine SO.To.to (pp _) fun s2 h2 ⟨b5, b6, es, p2, q2, F, i2⟩ => ?_
    subst es
    unfold Sm.pv
    simp only [bnd_bnd, bnd_sbnd, sbnd_seq, seq_seq, seqC_ap, ss_cons, ss_nil, s_asg, s_ret, s_ite, s_ex, s_for, s_whl, e_non, e_bl, e_int, e_str, e_var, e_bin, e_neg, e_cmp, e_not, e_tup, e_lst, e_dic0, e_sub, e_call, e_bi, e_mt, kindG_same, e_isi, e_inv, e_lrg, e_lc, e_dc, wipeP, new, evEs, evT, evTs, evP, evI, evG, bnd_ok, sbnd_ok, seq_nx, seq_rt, to_nx, go_nx, go_ct, rt_rt, ok_ok, slot, item0, item1, item2, item3, sub_t, i_int, i_abs, i_lenT, c_eqI, c_neI, c_eqS, c_neS, c_lt, c_le, c_gt, c_ge, asB_bl, iteC_t, iteC_f, iteC_d, b_add, b_sub, b_mul, b_mod, List.getElem?_cons_succ, List.getElem?_cons_zero, show decide (("store" : Str) = "set") = false from decide_eq_false n2, n2, if_false]
    exact ⟨_, _, _, _, rfl, p2, q2, F, i2, iD⟩
end
end K04

set_option Elab.async false
set_option linter.all false
set_option maxRecDepth 100000
set_option maxHeartbeats 4000000
namespace K04
open PySem MP
open Out (ok bad)
/-- a block that a walk may take -/
structure FineB (vars : List Int) (b : Bk) : Prop where
  ss : ∀ s ∈ b.ss, (∀ e ∈ partsS s, Fine vars e) ∧ ∀ v ∈ setS s, v ∈ vars
  en : ∀ e ∈ partsE b.en, Fine vars e
theorem fine_of {w : Int} {vars : List Int} {e : X} (g : e.good w vars) (d : e.deep ≤ 3) : Fine vars e := ⟨d, ops_of e g, names_vars e g⟩
theorem fineB_of {w M : Int} {vars Ls : List Int} {b : Bk} (g : b.good w vars Ls M) : FineB vars b := by
  refine ⟨fun s hs => ?_, fun e he => ?_⟩
  · have := g.2.1 s hs
    cases s with
    | set v e => exact ⟨fun x hx => by simp [partsS] at hx; subst hx; exact fine_of this.2.1 this.2.2, fun x hx => by simp [setS] at hx; subst hx; exact this.1⟩
    | write e => exact ⟨fun x hx => by simp [partsS] at hx; subst hx; exact fine_of this.1 this.2, fun x hx => by simp [setS] at hx⟩
    | store a b => exact ⟨fun x hx => by
        simp [partsS] at hx
        rcases hx with rfl | rfl
        · exact fine_of this.1.1 this.1.2
        · exact fine_of this.2.1 this.2.2, fun x hx => by simp [setS] at hx⟩
  · have := g.2.2
    revert this he
    cases b.en with
    | ret x => intro he this; simp [partsE] at he; subst he; exact fine_of this.1 this.2
    | go l => intro he; simp [partsE] at he
    | br x a b => intro he this; simp [partsE] at he; subst he; exact fine_of this.1.1 this.1.2

theorem stepS_fold {vars : List Int} : ∀ (ss : List Sm) (p : List Int × List Int), True := fun _ _ => trivial
theorem usedset_ok {b : Bk} {vars : List Int} {k : Nat} {h : PH} (hk : 7 ≤ k) (fb : FineB vars b) (hv : vars.length ≤ 7) :
    (evCall Lw.T k "used_and_set" [b.pv] h).Ok fun v h' => v = .tup [.ref h.length, .ref (h.length + 1)] ∧ h'[h.length]? = some (.dic (dB (useD b).1)) ∧ h'[h.length + 1]? = some (.dic (dB (useD b).2)) ∧ Fk h h' ∧ In vars (useD b).1 ∧ In vars (useD b).2 := by
  obtain ⟨k, rfl⟩ : ∃ j, k = j + 1 := ⟨k - 1, by omega⟩
  have hS : (64 : Nat) ≤ sizeLine := by decide
  have q2 : 2 ≤ sizeLine := by omega
  refine call_ok Lw.T_used_and_set rfl (by decide) ?_
  show (evSs (evCall Lw.T k) Lw.b_used_and_set [some b.pv, none, none, none, none, none, none] h).Rt _
  have hb : b.pv = .tup [.int b.l, .tup (b.ss.map Sm.pv), b.en.pv] := rfl
  unfold Lw.b_used_and_set
  rw [ss_cons, ss_cons.symm]
  simp only [bnd_bnd, bnd_sbnd, sbnd_seq, seq_seq, seqC_ap, ss_cons, ss_nil, s_asg, s_ret, s_ite, s_ex, s_for, s_whl, e_non, e_bl, e_int, e_str, e_var, e_bin, e_neg, e_cmp, e_not, e_tup, e_lst, e_dic0, e_sub, e_call, e_bi, e_mt, kindG_same, e_isi, e_inv, e_lrg, e_lc, e_dc, wipeP, new, evEs, evT, evTs, evP, evI, evG, bnd_ok, sbnd_ok, seq_nx, seq_rt, to_nx, go_nx, go_ct, rt_rt, ok_ok, slot, item0, item1, item2, item3, sub_t, i_int, i_abs, i_lenT, c_eqI, c_neI, c_eqS, c_neS, c_lt, c_le, c_gt, c_ge, asB_bl, iteC_t, iteC_f, iteC_d, b_add, b_sub, b_mul, b_mod, List.getElem?_cons_succ, List.getElem?_cons_zero, List.set_cons_succ, List.set_cons_zero, hb]
  have p0 : (h ++ [PO.dic []] ++ [PO.dic []])[h.length]? = some (.dic (dB [])) := by simp [dB]
  have q0 : (h ++ [PO.dic []] ++ [PO.dic []])[h.length + 1]? = some (.dic (dB [])) := by simp [dB]
  have l1 : (h ++ [PO.dic []]).length = h.length + 1 := by simp
  rw [l1]
  refine SO.To.rt (for_vals (fun i s' h' => ∃ a3 a4 a5 a6, s' = [some b.pv, some (.ref h.length), some (.ref (h.length + 1)), a3, a4, a5, a6] ∧ h'[h.length]? = some (.dic (dB ((b.ss.take i).foldl stepS ([], [])).1)) ∧ h'[h.length + 1]? = some (.dic (dB ((b.ss.take i).foldl stepS ([], [])).2)) ∧ Fu h.length (h.length + 1) (h ++ [PO.dic []] ++ [PO.dic []]) h' ∧ In vars ((b.ss.take i).foldl stepS ([], [])).1 ∧ In vars ((b.ss.take i).foldl stepS ([], [])).2)
    ⟨none, none, none, none, rfl, p0, q0, Fu.refl, ⟨List.nodup_nil, by simp⟩, ⟨List.nodup_nil, by simp⟩⟩ fun i x s' h1 hx ⟨a3, a4, a5, a6, es, p1, q1, F, i1, i2⟩ => ?_) fun s' h1 ⟨a3, a4, a5, a6, es, p1, q1, F, i1, i2⟩ => ?_
  · subst es
    rw [List.getElem?_map, Option.map_eq_some_iff] at hx
    obtain ⟨s, hs, rfl⟩ := hx
    have etk : b.ss.take (i + 1) = b.ss.take i ++ [s] := by rw [List.take_add_one, hs]; rfl
    have fs := fb.ss s (List.mem_of_getElem? hs)
    simp only [evG, sbnd_ok, List.set_cons_succ, List.set_cons_zero]
    obtain ⟨s2, h2, e2, b3, b4, b5, b6, es2, p2, q2', F2, j1, j2⟩ := (stmt_ok (a0 := some b.pv) (a4 := a4) (a5 := a5) (a6 := a6) (show 6 ≤ k by omega) p1 q1 (by omega) i1 i2 hv fs.1 fs.2).ex
    show (evSs (evCall Lw.T k) bodyT _ _).Go _
    rw [e2, go_nx, etk, List.foldl_append]
    exact ⟨b3, b4, b5, b6, es2, p2, q2', F.trans F2, j1, j2⟩
  · subst es
    rw [List.length_map, List.take_length] at p1 q1 i1 i2
    have in1 : inB (.str "return") (.tup [.str "if", .str "return"]) h1 = ok true h1 := rfl
    have in2 : inB (.str "if") (.tup [.str "if", .str "return"]) h1 = ok true h1 := rfl
    have in3 : inB (.str "go") (.tup [.str "if", .str "return"]) h1 = ok false h1 := rfl
    have Fe : ∀ h2, Fu h.length (h.length + 1) (h ++ [PO.dic []] ++ [PO.dic []]) h2 → Fk h h2 := fun h2 F => ⟨by have := F.len; simp at this; omega, fun i hi => by
      rw [F.keep i (by simp; omega) (by omega) (by omega), List.append_assoc, List.getElem?_append_left hi]⟩
    have one : ∀ e, Fine vars e → (evCall Lw.T k "uses" [e.pv] h1).Ok fun v h2 => ∃ l : List Int, v = .tup (l.map PV.int) ∧ (forC (evCall Lw.T k) (.nm 6) bodyV [some b.pv, some (.ref h.length), some (.ref (h.length + 1)), a3, a4, a5, a6] (.vals (l.map PV.int)) h2).To fun s' h' => ∃ a6, s' = [some b.pv, some (.ref h.length), some (.ref (h.length + 1)), a3, a4, a5, a6] ∧ h'[h.length]? = some (.dic (dB (useIn (b.ss.foldl stepS ([], [])).1 (b.ss.foldl stepS ([], [])).2 e))) ∧ h'[h.length + 1]? = some (.dic (dB (b.ss.foldl stepS ([], [])).2)) ∧ Fk h h' := by
      intro e f
      refine (uses_ok (by have := f.1; omega) (by omega) f.2.1).mono fun v h2 ⟨ev, F2⟩ => ⟨_, ev, ?_⟩
      have nl := names_len e
      have b2 : 2 ^ (e.deep - 1) ≤ 2 ^ 2 := Nat.pow_le_pow_right (by decide) (by have := f.1; omega)
      have ll := len_addAll (l := names e) (S := [])
      have ls := (sortI_perm (addAll [] (names e))).length_eq
      have iu := i1.len
      refine (inner_ok (F2.at p1) (F2.at q1) (by omega) (by simp at ll; omega)).mono fun s' h' ⟨a6, es, eh⟩ => ⟨a6, es, ?_, ?_, ?_⟩
      · rw [eh, List.getElem?_set_self (lt_of_some (F2.at p1))]; rfl
      · rw [eh, List.getElem?_set_ne (by omega)]; exact F2.at q1
      · rw [eh]; exact Fe _ ((F.trans (fu_of F2)).trans Fu.set1)
    rw [hb] at *
    have fe := fb.en
    unfold useD
    cases hen : b.en with
    | ret e =>
      rw [hen] at fe
      have f1 := fe e (by simp [partsE])
      unfold En.pv
      simp only [bnd_bnd, bnd_sbnd, sbnd_seq, seq_seq, seqC_ap, ss_cons, ss_nil, s_asg, s_ret, s_ite, s_ex, s_for, s_whl, e_non, e_bl, e_int, e_str, e_var, e_bin, e_neg, e_cmp, e_not, e_tup, e_lst, e_dic0, e_sub, e_call, e_bi, e_mt, kindG_same, e_isi, e_inv, e_lrg, e_lc, e_dc, wipeP, new, evEs, evT, evTs, evP, evI, evG, bnd_ok, sbnd_ok, seq_nx, seq_rt, to_nx, go_nx, go_ct, rt_rt, ok_ok, slot, item0, item1, item2, item3, sub_t, i_int, i_abs, i_lenT, c_eqI, c_neI, c_eqS, c_neS, c_lt, c_le, c_gt, c_ge, asB_bl, iteC_t, iteC_f, iteC_d, b_add, b_sub, b_mul, b_mod, hen, List.getElem?_cons_succ, List.getElem?_cons_zero, List.length_cons, List.length_nil, q2, if_true, cIn in1]
      refine Out.Ok.rt (one e f1) fun v h2 ⟨l, ev, t⟩ => ?_
      subst ev
      simp only [sbnd_ok]
      simp only [hen, En.pv] at t
      refine SO.To.rt t fun s3 h3 ⟨a6, es, z1, z2, z3⟩ => ?_
      subst es
      simp only [bnd_bnd, bnd_sbnd, sbnd_seq, seq_seq, seqC_ap, ss_cons, ss_nil, s_asg, s_ret, s_ite, s_ex, s_for, s_whl, e_non, e_bl, e_int, e_str, e_var, e_bin, e_neg, e_cmp, e_not, e_tup, e_lst, e_dic0, e_sub, e_call, e_bi, e_mt, kindG_same, e_isi, e_inv, e_lrg, e_lc, e_dc, wipeP, new, evEs, evT, evTs, evP, evI, evG, bnd_ok, sbnd_ok, seq_nx, seq_rt, to_nx, go_nx, go_ct, rt_rt, ok_ok, slot, item0, item1, item2, item3, sub_t, i_int, i_abs, i_lenT, c_eqI, c_neI, c_eqS, c_neS, c_lt, c_le, c_gt, c_ge, asB_bl, iteC_t, iteC_f, iteC_d, b_add, b_sub, b_mul, b_mod, List.getElem?_cons_succ, List.getElem?_cons_zero, List.length_cons, List.length_nil, q2, if_true]
      exact ⟨trivial, z1, z2, z3, i1.use f1.2.2, i2⟩
    | go l =>
      unfold En.pv
      simp only [bnd_bnd, bnd_sbnd, sbnd_seq, seq_seq, seqC_ap, ss_cons, ss_nil, s_asg, s_ret, s_ite, s_ex, s_for, s_whl, e_non, e_bl, e_int, e_str, e_var, e_bin, e_neg, e_cmp, e_not, e_tup, e_lst, e_dic0, e_sub, e_call, e_bi, e_mt, kindG_same, e_isi, e_inv, e_lrg, e_lc, e_dc, wipeP, new, evEs, evT, evTs, evP, evI, evG, bnd_ok, sbnd_ok, seq_nx, seq_rt, to_nx, go_nx, go_ct, rt_rt, ok_ok, slot, item0, item1, item2, item3, sub_t, i_int, i_abs, i_lenT, c_eqI, c_neI, c_eqS, c_neS, c_lt, c_le, c_gt, c_ge, asB_bl, iteC_t, iteC_f, iteC_d, b_add, b_sub, b_mul, b_mod, hen, List.getElem?_cons_succ, List.getElem?_cons_zero, List.length_cons, List.length_nil, q2, if_true, cIn in3]
      exact ⟨trivial, p1, q1, Fe _ F, i1, i2⟩
    | br e x y =>
      rw [hen] at fe
      have f1 := fe e (by simp [partsE])
      unfold En.pv
      simp only [bnd_bnd, bnd_sbnd, sbnd_seq, seq_seq, seqC_ap, ss_cons, ss_nil, s_asg, s_ret, s_ite, s_ex, s_for, s_whl, e_non, e_bl, e_int, e_str, e_var, e_bin, e_neg, e_cmp, e_not, e_tup, e_lst, e_dic0, e_sub, e_call, e_bi, e_mt, kindG_same, e_isi, e_inv, e_lrg, e_lc, e_dc, wipeP, new, evEs, evT, evTs, evP, evI, evG, bnd_ok, sbnd_ok, seq_nx, seq_rt, to_nx, go_nx, go_ct, rt_rt, ok_ok, slot, item0, item1, item2, item3, sub_t, i_int, i_abs, i_lenT, c_eqI, c_neI, c_eqS, c_neS, c_lt, c_le, c_gt, c_ge, asB_bl, iteC_t, iteC_f, iteC_d, b_add, b_sub, b_mul, b_mod, hen, List.getElem?_cons_succ, List.getElem?_cons_zero, List.length_cons, List.length_nil, q2, if_true, cIn in2]
      refine Out.Ok.rt (one e f1) fun v h2 ⟨l, ev, t⟩ => ?_
      subst ev
      simp only [sbnd_ok]
      simp only [hen, En.pv] at t
      refine SO.To.rt t fun s3 h3 ⟨a6, es, z1, z2, z3⟩ => ?_
      subst es
      simp only [bnd_bnd, bnd_sbnd, sbnd_seq, seq_seq, seqC_ap, ss_cons, ss_nil, s_asg, s_ret, s_ite, s_ex, s_for, s_whl, e_non, e_bl, e_int, e_str, e_var, e_bin, e_neg, e_cmp, e_not, e_tup, e_lst, e_dic0, e_sub, e_call, e_bi, e_mt, kindG_same, e_isi, e_inv, e_lrg, e_lc, e_dc, wipeP, new, evEs, evT, evTs, evP, evI, evG, bnd_ok, sbnd_ok, seq_nx, seq_rt, to_nx, go_nx, go_ct, rt_rt, ok_ok, slot, item0, item1, item2, item3, sub_t, i_int, i_abs, i_lenT, c_eqI, c_neI, c_eqS, c_neS, c_lt, c_le, c_gt, c_ge, asB_bl, iteC_t, iteC_f, iteC_d, b_add, b_sub, b_mul, b_mod, List.getElem?_cons_succ, List.getElem?_cons_zero, List.length_cons, List.length_nil, q2, if_true]
      exact ⟨trivial, z1, z2, z3, i1.use f1.2.2, i2⟩
end K04

set_option Elab.async false
set_option linter.all false
set_option maxRecDepth 100000
set_option maxHeartbeats 4000000
namespace K04
open PySem MP
open Out (ok bad)
/-! ### data of expressions -/
def xdat : X → PyData
  | .int n => .tuple [.str "int", .int n]
  | .var n => .tuple [.str "var", .int n]
  | .load e => .tuple [.str "load", xdat e]
  | .un o e => .tuple [.str o, xdat e]
  | .bin o a b => .tuple [.str o, xdat a, xdat b]
theorem x_datum {h : PH} : ∀ (e : X) (n : Nat), e.deep + 1 < n → datum h n e.pv = some (xdat e) := by
  intro e
  induction e with
  | int i => intro n hn; obtain ⟨n, rfl⟩ : ∃ m, n = m + 2 := ⟨n - 2, by simp [X.deep] at hn; omega⟩; exact d_tup (dl_cons d_str (dl_cons d_int dl_nil))
  | var i => intro n hn; obtain ⟨n, rfl⟩ : ∃ m, n = m + 2 := ⟨n - 2, by simp [X.deep] at hn; omega⟩; exact d_tup (dl_cons d_str (dl_cons d_int dl_nil))
  | load e ih =>
    intro n hn; simp only [X.deep] at hn
    obtain ⟨n, rfl⟩ : ∃ m, n = m + 2 := ⟨n - 2, by omega⟩
    exact d_tup (dl_cons d_str (dl_cons (ih _ (by omega)) dl_nil))
  | un o e ih =>
    intro n hn; simp only [X.deep] at hn
    obtain ⟨n, rfl⟩ : ∃ m, n = m + 2 := ⟨n - 2, by omega⟩
    exact d_tup (dl_cons d_str (dl_cons (ih _ (by omega)) dl_nil))
  | bin o a b ia ib =>
    intro n hn; simp only [X.deep] at hn
    obtain ⟨n, rfl⟩ : ∃ m, n = m + 2 := ⟨n - 2, by omega⟩
    exact d_tup (dl_cons d_str (dl_cons (ia _ (by omega)) (dl_cons (ib _ (by omega)) dl_nil)))
/-- the operators' words are plain -/
def Sk : X → Prop
  | .int _ => True
  | .var _ => True
  | .load e => Sk e
  | .un o e => PyData.strOk o = true ∧ Sk e
  | .bin o a b => PyData.strOk o = true ∧ Sk a ∧ Sk b
theorem sk_of {w : Int} {vars : List Int} : ∀ e : X, e.good w vars → Sk e
  | .int _, _ => trivial
  | .var _, _ => trivial
  | .load e, h => sk_of e h
  | .un o e, h => ⟨by
      have := h.1
      simp only [List.mem_cons, List.not_mem_nil, or_false] at this
      rcases this with rfl | rfl <;> decide +kernel, sk_of e h.2⟩
  | .bin o a b, h => ⟨by
      have := h.1
      simp only [pairs, List.mem_cons, List.not_mem_nil, or_false] at this
      rcases this with rfl | rfl | rfl | rfl | rfl | rfl | rfl | rfl | rfl | rfl <;> decide +kernel, sk_of a h.2.1, sk_of b h.2.2⟩
def SkB (b : Bk) : Prop := ∀ s ∈ b.ss, ∀ e ∈ partsS s, Sk e
theorem skB_of {w M : Int} {vars Ls : List Int} {b : Bk} (g : b.good w vars Ls M) : SkB b := by
  intro s hs e he
  have := g.2.1 s hs
  cases s with
  | set v x => simp [partsS] at he; subst he; exact sk_of _ this.2.1
  | write x => simp [partsS] at he; subst he; exact sk_of _ this.1
  | store a b =>
    simp [partsS] at he
    rcases he with rfl | rfl
    · exact sk_of _ this.1.1
    · exact sk_of _ this.2.1
theorem x_lay : ∀ e : X, Sk e → (xdat e).canLay0 = true := by
  have k1 : PyData.strOk "int" = true := by decide +kernel
  have k2 : PyData.strOk "var" = true := by decide +kernel
  have k3 : PyData.strOk "load" = true := by decide +kernel
  intro e
  induction e with
  | int i => intro _; simp [xdat, PyData.canLay0, PyData.canLayAll0, k1]
  | var i => intro _; simp [xdat, PyData.canLay0, PyData.canLayAll0, k2]
  | load e ih => intro h; simp [xdat, PyData.canLay0, PyData.canLayAll0, ih h, k3]
  | un o e ih => intro h; simp [xdat, PyData.canLay0, PyData.canLayAll0, ih h.2, h.1]
  | bin o a b ia ib => intro h; simp [xdat, PyData.canLay0, PyData.canLayAll0, ia h.2.1, ib h.2.2, h.1]
theorem x_depth : ∀ e : X, (xdat e).depth ≤ e.deep := by
  intro e
  induction e with
  | int i => simp [xdat, PyData.depth, PyData.depthAll, X.deep]
  | var i => simp [xdat, PyData.depth, PyData.depthAll, X.deep]
  | load e ih => simp [xdat, PyData.depth, PyData.depthAll, X.deep]; omega
  | un o e ih => simp [xdat, PyData.depth, PyData.depthAll, X.deep]; omega
  | bin o a b ia ib => simp [xdat, PyData.depth, PyData.depthAll, X.deep]; omega
theorem ne_nil {a b : Nat} {es : List X} {h : PH} (e1 : h[a]? = some (.lst (es.map X.pv))) (e2 : h[b]? = some (.lst [])) (f : ∀ e ∈ es, e.deep ≤ 3) (sk : ∀ e ∈ es, Sk e) : cmpF .NotEq (.ref a) (.ref b) h = ok (.bl (!decide (es = []))) h := by
  refine c_ne ?_
  have k : dataL (datum h 63) (es.map X.pv) = some (es.map xdat) := dl_map fun x hx => x_datum x _ (by have := f x hx; omega)
  rw [eq_data (.inl ⟨_, rfl⟩) (d_lst e1 k) (d_lst e2 dl_nil) (shaped_list (m := 3) (lay_all fun x hx => x_lay x (sk x hx)) (deep_all fun x hx => Nat.le_trans (x_depth x) (f x hx)) (by decide)) (shaped_list (m := 0) (by rfl) (by decide) (by decide)), eqv_list]
  congr 1
  cases es with
  | nil => rfl
  | cons x r => rfl
theorem in_ints {l : Nat} {ns : List Int} {v : Int} {h : PH} (e : h[l]? = some (.lst (ns.map PV.int))) : inB (.int v) (.ref l) h = ok (decide (v ∈ ns)) h := by
  have a : (ns.map PV.int).all flatP = true := by
    rw [List.all_map, List.all_eq_true]; exact fun _ _ => rfl
  have b : ((ns.map PV.int).any fun y => flatEq y (.int v)) = decide (v ∈ ns) := by
    rw [List.any_map, Bool.eq_iff_iff, List.any_eq_true, decide_eq_true_eq]
    constructor
    · rintro ⟨x, hx, q⟩
      have : x = v := by simpa [flatEq] using q
      exact this ▸ hx
    · intro q; exact ⟨v, q, by simp [flatEq]⟩
  simp only [inB, e, a, flatP, and_self, if_true, b]
def fstr (n : Nat) : Str := if n = 0 then "use" else if n = 1 then "set" else "nothing"
section
variable {h : PH} {k : Nat} {vars : List Int} {v : Int}
theorem parts_ev {C : Str → List PV → PH → Out PV} {i : Nat} {s : Sm} {st : PSt} {h : PH} (hs : st[i]? = some (some s.pv)) : evE C (.ite (.cmp .Eq (.sub (.var i) (.int 0)) (.str "set")) (.slc (.var i) (.some (.int 2)) .none) (.slc (.var i) (.some (.int 1)) .none)) st h = ok (.tup ((partsS s).map X.pv)) h := by
  have n1 : ("write" : Str) ≠ "set" := by decide
  have n2 : ("store" : Str) ≠ "set" := by decide
  have c2 : ∀ xs : List PV, cutP xs (some 2) none = xs.drop 2 := fun xs => cut_from (α := PV) (show (0 : Int) ≤ 2 by decide)
  have c1 : ∀ xs : List PV, cutP xs (some 1) none = xs.drop 1 := fun xs => cut_from (α := PV) (show (0 : Int) ≤ 1 by decide)
  cases s <;> simp only [Sm.pv] at hs <;> simp [bnd_bnd, bnd_sbnd, sbnd_seq, seq_seq, seqC_ap, ss_cons, ss_nil, s_asg, s_ret, s_ite, s_ex, s_for, s_whl, e_non, e_bl, e_int, e_str, e_var, e_bin, e_neg, e_cmp, e_not, e_tup, e_lst, e_dic0, e_sub, e_call, e_bi, e_mt, kindG_same, e_isi, e_inv, e_lrg, e_lc, e_dc, wipeP, new, evEs, evT, evTs, evP, evI, evG, bnd_ok, sbnd_ok, seq_nx, seq_rt, to_nx, go_nx, go_ct, rt_rt, ok_ok, slot, item0, item1, item2, item3, sub_t, i_int, i_abs, i_lenT, c_eqI, c_neI, c_eqS, c_neS, c_lt, c_le, c_gt, c_ge, asB_bl, iteC_t, iteC_f, iteC_d, b_add, b_sub, b_mul, b_mod, e_ite, e_slice, slcF, c1, c2, partsS, hs, n1, n2]
theorem any_ok {s : List X} {a0 a2 a3 a4 : Option PV} (hk : 3 ≤ k) (f : ∀ e ∈ s, Fine vars e) (sk : ∀ e ∈ s, Sk e) (hz : s.length ≤ 2) (hs : a3 = some (.tup (s.map X.pv))) :
    (evT (evCall Lw.T k) (.cmp .NotEq (.lc (.var 4) (.nm 4) (.ex (.var 3)) (.cons (.cmp .In (.var 1) (.call "_law_names" (.cons (.var 4) .nil))) .nil) [4]) (.lst .nil)) [a0, some (.int v), a2, a3, a4] h).Ok fun r h' => r = decide (∃ e ∈ s, v ∈ names e) ∧ Fk h h' := by
  have hS : (64 : Nat) ≤ sizeLine := by decide
  subst hs
  simp only [bnd_bnd, bnd_sbnd, sbnd_seq, seq_seq, seqC_ap, ss_cons, ss_nil, s_asg, s_ret, s_ite, s_ex, s_for, s_whl, e_non, e_bl, e_int, e_str, e_var, e_bin, e_neg, e_cmp, e_not, e_tup, e_lst, e_dic0, e_sub, e_call, e_bi, e_mt, kindG_same, e_isi, e_inv, e_lrg, e_lc, e_dc, wipeP, new, evEs, evT, evTs, evP, evI, evG, bnd_ok, sbnd_ok, seq_nx, seq_rt, to_nx, go_nx, go_ct, rt_rt, ok_ok, slot, item0, item1, item2, item3, sub_t, i_int, i_abs, i_lenT, c_eqI, c_neI, c_eqS, c_neS, c_lt, c_le, c_gt, c_ge, asB_bl, iteC_t, iteC_f, iteC_d, b_add, b_sub, b_mul, b_mod, List.getElem?_cons_succ, List.getElem?_cons_zero, List.set_cons_succ, List.set_cons_zero]
  refine Out.Ok.bnd (each_vals (fun i acc h' => acc = ((s.take i).filter fun e => decide (v ∈ names e)).map X.pv ∧ Fk h h') ⟨rfl, Fk.refl⟩ fun i x acc h1 hx ⟨ea, F⟩ => ?_) fun acc h1 ⟨ea, F⟩ => ?_
  · subst ea
    rw [List.getElem?_map, Option.map_eq_some_iff] at hx
    obtain ⟨e, he, rfl⟩ := hx
    have etk : s.take (i + 1) = s.take i ++ [e] := by rw [List.take_add_one, he]; rfl
    have fe := f e (List.mem_of_getElem? he)
    have b2 := List.length_filter_le (fun e => decide (v ∈ names e)) (s.take i)
    have b3 := List.length_take_le i s
    have b4 := lt_of_some he
    unfold lcC
    simp only [bnd_bnd, bnd_sbnd, sbnd_seq, seq_seq, seqC_ap, ss_cons, ss_nil, s_asg, s_ret, s_ite, s_ex, s_for, s_whl, e_non, e_bl, e_int, e_str, e_var, e_bin, e_neg, e_cmp, e_not, e_tup, e_lst, e_dic0, e_sub, e_call, e_bi, e_mt, kindG_same, e_isi, e_inv, e_lrg, e_lc, e_dc, wipeP, new, evEs, evT, evTs, evP, evI, evG, bnd_ok, sbnd_ok, seq_nx, seq_rt, to_nx, go_nx, go_ct, rt_rt, ok_ok, slot, item0, item1, item2, item3, sub_t, i_int, i_abs, i_lenT, c_eqI, c_neI, c_eqS, c_neS, c_lt, c_le, c_gt, c_ge, asB_bl, iteC_t, iteC_f, iteC_d, b_add, b_sub, b_mul, b_mod, List.getElem?_cons_succ, List.getElem?_cons_zero, List.set_cons_succ, List.set_cons_zero]
    refine Out.Ok.bnd (names_ok 3 e k h1 fe.1 hk (by decide) fe.2.1) fun r h2 ⟨l, er, hl, el, F2⟩ => ?_
    subst er
    simp only [cIn (in_ints el), bnd_bnd, bnd_sbnd, sbnd_seq, seq_seq, seqC_ap, ss_cons, ss_nil, s_asg, s_ret, s_ite, s_ex, s_for, s_whl, e_non, e_bl, e_int, e_str, e_var, e_bin, e_neg, e_cmp, e_not, e_tup, e_lst, e_dic0, e_sub, e_call, e_bi, e_mt, kindG_same, e_isi, e_inv, e_lrg, e_lc, e_dc, wipeP, new, evEs, evT, evTs, evP, evI, evG, bnd_ok, sbnd_ok, seq_nx, seq_rt, to_nx, go_nx, go_ct, rt_rt, ok_ok, slot, item0, item1, item2, item3, sub_t, i_int, i_abs, i_lenT, c_eqI, c_neI, c_eqS, c_neS, c_lt, c_le, c_gt, c_ge, asB_bl, iteC_t, iteC_f, iteC_d, b_add, b_sub, b_mul, b_mod]
    rw [etk, List.filter_append]
    by_cases c : v ∈ names e
    · rw [List.filter_cons_of_pos (by simpa using c)]
      simp only [c, decide_true, if_true, bnd_bnd, bnd_sbnd, sbnd_seq, seq_seq, seqC_ap, ss_cons, ss_nil, s_asg, s_ret, s_ite, s_ex, s_for, s_whl, e_non, e_bl, e_int, e_str, e_var, e_bin, e_neg, e_cmp, e_not, e_tup, e_lst, e_dic0, e_sub, e_call, e_bi, e_mt, kindG_same, e_isi, e_inv, e_lrg, e_lc, e_dc, wipeP, new, evEs, evT, evTs, evP, evI, evG, bnd_ok, sbnd_ok, seq_nx, seq_rt, to_nx, go_nx, go_ct, rt_rt, ok_ok, slot, item0, item1, item2, item3, sub_t, i_int, i_abs, i_lenT, c_eqI, c_neI, c_eqS, c_neS, c_lt, c_le, c_gt, c_ge, asB_bl, iteC_t, iteC_f, iteC_d, b_add, b_sub, b_mul, b_mod, List.getElem?_cons_succ, List.getElem?_cons_zero, List.length_map]
      rw [if_pos (by omega)]
      exact ⟨by simp, F.trans F2⟩
    · rw [List.filter_cons_of_neg (by simpa using c)]
      simp only [c, decide_false, Bool.false_eq_true, if_false, bnd_bnd, bnd_sbnd, sbnd_seq, seq_seq, seqC_ap, ss_cons, ss_nil, s_asg, s_ret, s_ite, s_ex, s_for, s_whl, e_non, e_bl, e_int, e_str, e_var, e_bin, e_neg, e_cmp, e_not, e_tup, e_lst, e_dic0, e_sub, e_call, e_bi, e_mt, kindG_same, e_isi, e_inv, e_lrg, e_lc, e_dc, wipeP, new, evEs, evT, evTs, evP, evI, evG, bnd_ok, sbnd_ok, seq_nx, seq_rt, to_nx, go_nx, go_ct, rt_rt, ok_ok, slot, item0, item1, item2, item3, sub_t, i_int, i_abs, i_lenT, c_eqI, c_neI, c_eqS, c_neS, c_lt, c_le, c_gt, c_ge, asB_bl, iteC_t, iteC_f, iteC_d, b_add, b_sub, b_mul, b_mod]
      exact ⟨by simp, F.trans F2⟩
  · subst ea
    rw [List.length_map, List.take_length]
    have q0 : 0 ≤ sizeLine := Nat.zero_le _
    simp only [bnd_bnd, bnd_sbnd, sbnd_seq, seq_seq, seqC_ap, ss_cons, ss_nil, s_asg, s_ret, s_ite, s_ex, s_for, s_whl, e_non, e_bl, e_int, e_str, e_var, e_bin, e_neg, e_cmp, e_not, e_tup, e_lst, e_dic0, e_sub, e_call, e_bi, e_mt, kindG_same, e_isi, e_inv, e_lrg, e_lc, e_dc, wipeP, new, evEs, evT, evTs, evP, evI, evG, bnd_ok, sbnd_ok, seq_nx, seq_rt, to_nx, go_nx, go_ct, rt_rt, ok_ok, slot, item0, item1, item2, item3, sub_t, i_int, i_abs, i_lenT, c_eqI, c_neI, c_eqS, c_neS, c_lt, c_le, c_gt, c_ge, asB_bl, iteC_t, iteC_f, iteC_d, b_add, b_sub, b_mul, b_mod, List.length_nil, q0, if_true]
    have e1 : (h1 ++ [PO.lst ((s.filter fun e => decide (v ∈ names e)).map X.pv)] ++ [PO.lst []])[h1.length]? = some (.lst ((s.filter fun e => decide (v ∈ names e)).map X.pv)) := by simp
    have e2 : (h1 ++ [PO.lst ((s.filter fun e => decide (v ∈ names e)).map X.pv)] ++ [PO.lst []])[(h1 ++ [PO.lst ((s.filter fun e => decide (v ∈ names e)).map X.pv)]).length]? = some (.lst []) := at_new
    rw [ne_nil e1 e2 (fun e he => (f e (List.mem_filter.mp he).1).1) (fun e he => sk e (List.mem_filter.mp he).1)]
    simp only [bnd_bnd, bnd_sbnd, sbnd_seq, seq_seq, seqC_ap, ss_cons, ss_nil, s_asg, s_ret, s_ite, s_ex, s_for, s_whl, e_non, e_bl, e_int, e_str, e_var, e_bin, e_neg, e_cmp, e_not, e_tup, e_lst, e_dic0, e_sub, e_call, e_bi, e_mt, kindG_same, e_isi, e_inv, e_lrg, e_lc, e_dc, wipeP, new, evEs, evT, evTs, evP, evI, evG, bnd_ok, sbnd_ok, seq_nx, seq_rt, to_nx, go_nx, go_ct, rt_rt, ok_ok, slot, item0, item1, item2, item3, sub_t, i_int, i_abs, i_lenT, c_eqI, c_neI, c_eqS, c_neS, c_lt, c_le, c_gt, c_ge, asB_bl, iteC_t, iteC_f, iteC_d, b_add, b_sub, b_mul, b_mod]
    refine ⟨?_, (F.trans Fk.new).trans Fk.new⟩
    rw [Bool.eq_iff_iff, decide_eq_true_eq, Bool.not_eq_true', decide_eq_false_iff_not, List.filter_eq_nil_iff]
    simp
theorem first_ok {b : Bk} (hk : 4 ≤ k) (fb : FineB vars b) (sk : SkB b) : (evCall Lw.T k "_law_first" [b.pv, .int v] h).Ok fun r h' => r = .str (fstr (firstS v b.ss b.en)) ∧ Fk h h' := by
  obtain ⟨k, rfl⟩ : ∃ j, k = j + 1 := ⟨k - 1, by omega⟩
  have hS : (64 : Nat) ≤ sizeLine := by decide
  have q2 : 2 ≤ sizeLine := by omega
  refine call_ok Lw.T__law_first rfl (by decide) ?_
  show (evSs (evCall Lw.T k) Lw.b__law_first [some b.pv, some (.int v), none, none, none] h).Rt _
  have hb : b.pv = .tup [.int b.l, .tup (b.ss.map Sm.pv), b.en.pv] := rfl
  unfold Lw.b__law_first
  rw [ss_cons, s_for]
  simp only [bnd_bnd, bnd_sbnd, sbnd_seq, seq_seq, seqC_ap, ss_cons, ss_nil, s_asg, s_ret, s_ite, s_ex, s_for, s_whl, e_non, e_bl, e_int, e_str, e_var, e_bin, e_neg, e_cmp, e_not, e_tup, e_lst, e_dic0, e_sub, e_call, e_bi, e_mt, kindG_same, e_isi, e_inv, e_lrg, e_lc, e_dc, wipeP, new, evEs, evT, evTs, evP, evI, evG, bnd_ok, sbnd_ok, seq_nx, seq_rt, to_nx, go_nx, go_ct, rt_rt, ok_ok, slot, item0, item1, item2, item3, sub_t, i_int, i_abs, i_lenT, c_eqI, c_neI, c_eqS, c_neS, c_lt, c_le, c_gt, c_ge, asB_bl, iteC_t, iteC_f, iteC_d, b_add, b_sub, b_mul, b_mod, List.getElem?_cons_succ, List.getElem?_cons_zero, hb]
  refine SO.Nx.rt (for_vals_nr (fun i s' h' => ∃ a2 a3 a4, s' = [some b.pv, some (.int v), a2, a3, a4] ∧ Fk h h' ∧ firstS v (b.ss.drop i) b.en = firstS v b.ss b.en)
    (fun r h' => r = .str (fstr (firstS v b.ss b.en)) ∧ Fk h h') ⟨none, none, none, rfl, Fk.refl, rfl⟩ fun i x s' h1 hx ⟨a2, a3, a4, es, F, ef⟩ => ?_) fun s' h1 ⟨a2, a3, a4, es, F, ef⟩ => ?_
  · subst es
    rw [List.getElem?_map, Option.map_eq_some_iff] at hx
    obtain ⟨s, hs, rfl⟩ := hx
    have fs := fb.ss s (List.mem_of_getElem? hs)
    have hd : b.ss.drop i = s :: b.ss.drop (i + 1) := by
      obtain ⟨hi, e⟩ := List.getElem?_eq_some_iff.mp hs
      rw [List.drop_eq_getElem_cons hi, e]
    rw [hd, firstS_cons] at ef
    simp only [evG, sbnd_ok, List.set_cons_succ, List.set_cons_zero]
    rw [ss_cons, s_asg, parts_ev (s := s) (by simp)]
    simp only [evG, sbnd_ok, List.set_cons_succ, List.set_cons_zero, seq_nx]
    have hp : (partsS s).length ≤ 2 := by cases s <;> simp [partsS]
    rw [ss_cons, s_ite]
    obtain ⟨r, h2, e2, er, F2⟩ := (any_ok (h := h1) (k := k) (v := v) (a0 := some b.pv) (a2 := some s.pv) (a4 := a4) (by omega) fs.1 (sk s (List.mem_of_getElem? hs)) hp rfl).ex
    rw [e2, sbnd_ok, er]
    by_cases c : ∃ e ∈ partsS s, v ∈ names e
    · rw [if_pos c] at ef
      simp only [c, decide_true, bnd_bnd, bnd_sbnd, sbnd_seq, seq_seq, seqC_ap, ss_cons, ss_nil, s_asg, s_ret, s_ite, s_ex, s_for, s_whl, e_non, e_bl, e_int, e_str, e_var, e_bin, e_neg, e_cmp, e_not, e_tup, e_lst, e_dic0, e_sub, e_call, e_bi, e_mt, kindG_same, e_isi, e_inv, e_lrg, e_lc, e_dc, wipeP, new, evEs, evT, evTs, evP, evI, evG, bnd_ok, sbnd_ok, seq_nx, seq_rt, to_nx, go_nx, go_ct, rt_rt, ok_ok, slot, item0, item1, item2, item3, sub_t, i_int, i_abs, i_lenT, c_eqI, c_neI, c_eqS, c_neS, c_lt, c_le, c_gt, c_ge, asB_bl, iteC_t, iteC_f, iteC_d, b_add, b_sub, b_mul, b_mod]
      show _ ∧ _
      rw [← ef]
      exact ⟨rfl, F.trans F2⟩
    · rw [if_neg c] at ef
      simp only [c, decide_false, bnd_bnd, bnd_sbnd, sbnd_seq, seq_seq, seqC_ap, ss_cons, ss_nil, s_asg, s_ret, s_ite, s_ex, s_for, s_whl, e_non, e_bl, e_int, e_str, e_var, e_bin, e_neg, e_cmp, e_not, e_tup, e_lst, e_dic0, e_sub, e_call, e_bi, e_mt, kindG_same, e_isi, e_inv, e_lrg, e_lc, e_dc, wipeP, new, evEs, evT, evTs, evP, evI, evG, bnd_ok, sbnd_ok, seq_nx, seq_rt, to_nx, go_nx, go_ct, rt_rt, ok_ok, slot, item0, item1, item2, item3, sub_t, i_int, i_abs, i_lenT, c_eqI, c_neI, c_eqS, c_neS, c_lt, c_le, c_gt, c_ge, asB_bl, iteC_t, iteC_f, iteC_d, b_add, b_sub, b_mul, b_mod]
      have n1 : ("write" : Str) ≠ "set" := by decide
      have n2 : ("store" : Str) ≠ "set" := by decide
      cases s with
      | set x e =>
        unfold Sm.pv
        simp only [bnd_bnd, bnd_sbnd, sbnd_seq, seq_seq, seqC_ap, ss_cons, ss_nil, s_asg, s_ret, s_ite, s_ex, s_for, s_whl, e_non, e_bl, e_int, e_str, e_var, e_bin, e_neg, e_cmp, e_not, e_tup, e_lst, e_dic0, e_sub, e_call, e_bi, e_mt, kindG_same, e_isi, e_inv, e_lrg, e_lc, e_dc, wipeP, new, evEs, evT, evTs, evP, evI, evG, bnd_ok, sbnd_ok, seq_nx, seq_rt, to_nx, go_nx, go_ct, rt_rt, ok_ok, slot, item0, item1, item2, item3, sub_t, i_int, i_abs, i_lenT, c_eqI, c_neI, c_eqS, c_neS, c_lt, c_le, c_gt, c_ge, asB_bl, iteC_t, iteC_f, iteC_d, b_add, b_sub, b_mul, b_mod, List.getElem?_cons_succ, List.getElem?_cons_zero, decide_true, if_true]
        by_cases cx : x = v
        · subst cx
          simp only [decide_true, bnd_bnd, bnd_sbnd, sbnd_seq, seq_seq, seqC_ap, ss_cons, ss_nil, s_asg, s_ret, s_ite, s_ex, s_for, s_whl, e_non, e_bl, e_int, e_str, e_var, e_bin, e_neg, e_cmp, e_not, e_tup, e_lst, e_dic0, e_sub, e_call, e_bi, e_mt, kindG_same, e_isi, e_inv, e_lrg, e_lc, e_dc, wipeP, new, evEs, evT, evTs, evP, evI, evG, bnd_ok, sbnd_ok, seq_nx, seq_rt, to_nx, go_nx, go_ct, rt_rt, ok_ok, slot, item0, item1, item2, item3, sub_t, i_int, i_abs, i_lenT, c_eqI, c_neI, c_eqS, c_neS, c_lt, c_le, c_gt, c_ge, asB_bl, iteC_t, iteC_f, iteC_d, b_add, b_sub, b_mul, b_mod]
          rw [if_pos (by simp [setS])] at ef
          show _ ∧ _
          rw [← ef]
          exact ⟨rfl, F.trans F2⟩
        · simp only [cx, decide_false, bnd_bnd, bnd_sbnd, sbnd_seq, seq_seq, seqC_ap, ss_cons, ss_nil, s_asg, s_ret, s_ite, s_ex, s_for, s_whl, e_non, e_bl, e_int, e_str, e_var, e_bin, e_neg, e_cmp, e_not, e_tup, e_lst, e_dic0, e_sub, e_call, e_bi, e_mt, kindG_same, e_isi, e_inv, e_lrg, e_lc, e_dc, wipeP, new, evEs, evT, evTs, evP, evI, evG, bnd_ok, sbnd_ok, seq_nx, seq_rt, to_nx, go_nx, go_ct, rt_rt, ok_ok, slot, item0, item1, item2, item3, sub_t, i_int, i_abs, i_lenT, c_eqI, c_neI, c_eqS, c_neS, c_lt, c_le, c_gt, c_ge, asB_bl, iteC_t, iteC_f, iteC_d, b_add, b_sub, b_mul, b_mod]
          rw [if_neg (by simp [setS]; exact fun z => cx z.symm)] at ef
          exact ⟨_, _, _, rfl, F.trans F2, ef⟩
      | write e =>
        unfold Sm.pv
        simp only [bnd_bnd, bnd_sbnd, sbnd_seq, seq_seq, seqC_ap, ss_cons, ss_nil, s_asg, s_ret, s_ite, s_ex, s_for, s_whl, e_non, e_bl, e_int, e_str, e_var, e_bin, e_neg, e_cmp, e_not, e_tup, e_lst, e_dic0, e_sub, e_call, e_bi, e_mt, kindG_same, e_isi, e_inv, e_lrg, e_lc, e_dc, wipeP, new, evEs, evT, evTs, evP, evI, evG, bnd_ok, sbnd_ok, seq_nx, seq_rt, to_nx, go_nx, go_ct, rt_rt, ok_ok, slot, item0, item1, item2, item3, sub_t, i_int, i_abs, i_lenT, c_eqI, c_neI, c_eqS, c_neS, c_lt, c_le, c_gt, c_ge, asB_bl, iteC_t, iteC_f, iteC_d, b_add, b_sub, b_mul, b_mod, List.getElem?_cons_succ, List.getElem?_cons_zero, n1, decide_false, if_false, Bool.false_eq_true]
        rw [if_neg (by simp [setS])] at ef
        exact ⟨_, _, _, rfl, F.trans F2, ef⟩
      | store e e2 =>
        unfold Sm.pv
        simp only [bnd_bnd, bnd_sbnd, sbnd_seq, seq_seq, seqC_ap, ss_cons, ss_nil, s_asg, s_ret, s_ite, s_ex, s_for, s_whl, e_non, e_bl, e_int, e_str, e_var, e_bin, e_neg, e_cmp, e_not, e_tup, e_lst, e_dic0, e_sub, e_call, e_bi, e_mt, kindG_same, e_isi, e_inv, e_lrg, e_lc, e_dc, wipeP, new, evEs, evT, evTs, evP, evI, evG, bnd_ok, sbnd_ok, seq_nx, seq_rt, to_nx, go_nx, go_ct, rt_rt, ok_ok, slot, item0, item1, item2, item3, sub_t, i_int, i_abs, i_lenT, c_eqI, c_neI, c_eqS, c_neS, c_lt, c_le, c_gt, c_ge, asB_bl, iteC_t, iteC_f, iteC_d, b_add, b_sub, b_mul, b_mod, List.getElem?_cons_succ, List.getElem?_cons_zero, n2, decide_false, if_false, Bool.false_eq_true]
        rw [if_neg (by simp [setS])] at ef
        exact ⟨_, _, _, rfl, F.trans F2, ef⟩
  · subst es
    rw [List.length_map, List.drop_length, firstS_nil] at ef
    have fe := fb.en
    rw [hb]
    have in1 : ∀ (h2 : PH) (l : Nat), h2[l]? = some (.lst [.str "if", .str "return"]) → inB (.str "return") (.ref l) h2 = ok true h2 := fun h2 l e => by simp only [inB, e]; rfl
    have in2 : ∀ (h2 : PH) (l : Nat), h2[l]? = some (.lst [.str "if", .str "return"]) → inB (.str "if") (.ref l) h2 = ok true h2 := fun h2 l e => by simp only [inB, e]; rfl
    have in3 : ∀ (h2 : PH) (l : Nat), h2[l]? = some (.lst [.str "if", .str "return"]) → inB (.str "go") (.ref l) h2 = ok false h2 := fun h2 l e => by simp only [inB, e]; rfl
    have one : ∀ e, Fine vars e → partsE b.en = [e] → ∀ h1, Fk h h1 → (evCall Lw.T k "_law_names" [e.pv] h1).Ok fun v' h' => ∃ l, v' = .ref l ∧ inB (.int v) (.ref l) h' = ok (decide (v ∈ names e)) h' ∧ Fk h h' := by
      intro e f _ h1 F
      exact (names_ok 3 e k h1 f.1 (by omega) (by decide) f.2.1).mono fun v' h' ⟨l, ev, hl, el, F2⟩ => ⟨l, ev, in_ints el, F.trans F2⟩
    have fin : ∀ e, partsE b.en = [e] → (firstS v b.ss b.en = if v ∈ names e then 0 else 2) := by
      intro e pe
      rw [← ef, pe]; simp
    cases hen : b.en with
    | ret e =>
      have pe : partsE b.en = [e] := by rw [hen]; rfl
      have f1 := fe e (by rw [pe]; simp)
      have fi := fin e pe
      unfold En.pv
      simp only [bnd_bnd, bnd_sbnd, sbnd_seq, seq_seq, seqC_ap, ss_cons, ss_nil, s_asg, s_ret, s_ite, s_ex, s_for, s_whl, e_non, e_bl, e_int, e_str, e_var, e_bin, e_neg, e_cmp, e_not, e_tup, e_lst, e_dic0, e_sub, e_call, e_bi, e_mt, kindG_same, e_isi, e_inv, e_lrg, e_lc, e_dc, wipeP, new, evEs, evT, evTs, evP, evI, evG, bnd_ok, sbnd_ok, seq_nx, seq_rt, to_nx, go_nx, go_ct, rt_rt, ok_ok, slot, item0, item1, item2, item3, sub_t, i_int, i_abs, i_lenT, c_eqI, c_neI, c_eqS, c_neS, c_lt, c_le, c_gt, c_ge, asB_bl, iteC_t, iteC_f, iteC_d, b_add, b_sub, b_mul, b_mod, List.getElem?_cons_succ, List.getElem?_cons_zero, List.length_cons, List.length_nil, q2, if_true, cIn (in1 _ _ at_new)]
      refine Out.Ok.rt (one e f1 pe _ (F.trans Fk.new)) fun v' h2 ⟨l, ev, ei, F2⟩ => ?_
      subst ev
      rw [hen] at fi
      simp only [cIn ei, bnd_bnd, bnd_sbnd, sbnd_seq, seq_seq, seqC_ap, ss_cons, ss_nil, s_asg, s_ret, s_ite, s_ex, s_for, s_whl, e_non, e_bl, e_int, e_str, e_var, e_bin, e_neg, e_cmp, e_not, e_tup, e_lst, e_dic0, e_sub, e_call, e_bi, e_mt, kindG_same, e_isi, e_inv, e_lrg, e_lc, e_dc, wipeP, new, evEs, evT, evTs, evP, evI, evG, bnd_ok, sbnd_ok, seq_nx, seq_rt, to_nx, go_nx, go_ct, rt_rt, ok_ok, slot, item0, item1, item2, item3, sub_t, i_int, i_abs, i_lenT, c_eqI, c_neI, c_eqS, c_neS, c_lt, c_le, c_gt, c_ge, asB_bl, iteC_t, iteC_f, iteC_d, b_add, b_sub, b_mul, b_mod]
      by_cases c : v ∈ names e
      · rw [if_pos c] at fi
        simp only [c, if_true, decide_true, bnd_bnd, bnd_sbnd, sbnd_seq, seq_seq, seqC_ap, ss_cons, ss_nil, s_asg, s_ret, s_ite, s_ex, s_for, s_whl, e_non, e_bl, e_int, e_str, e_var, e_bin, e_neg, e_cmp, e_not, e_tup, e_lst, e_dic0, e_sub, e_call, e_bi, e_mt, kindG_same, e_isi, e_inv, e_lrg, e_lc, e_dc, wipeP, new, evEs, evT, evTs, evP, evI, evG, bnd_ok, sbnd_ok, seq_nx, seq_rt, to_nx, go_nx, go_ct, rt_rt, ok_ok, slot, item0, item1, item2, item3, sub_t, i_int, i_abs, i_lenT, c_eqI, c_neI, c_eqS, c_neS, c_lt, c_le, c_gt, c_ge, asB_bl, iteC_t, iteC_f, iteC_d, b_add, b_sub, b_mul, b_mod]
        rw [fi]; exact ⟨rfl, F2⟩
      · rw [if_neg c] at fi
        simp only [c, if_false, decide_false, bnd_bnd, bnd_sbnd, sbnd_seq, seq_seq, seqC_ap, ss_cons, ss_nil, s_asg, s_ret, s_ite, s_ex, s_for, s_whl, e_non, e_bl, e_int, e_str, e_var, e_bin, e_neg, e_cmp, e_not, e_tup, e_lst, e_dic0, e_sub, e_call, e_bi, e_mt, kindG_same, e_isi, e_inv, e_lrg, e_lc, e_dc, wipeP, new, evEs, evT, evTs, evP, evI, evG, bnd_ok, sbnd_ok, seq_nx, seq_rt, to_nx, go_nx, go_ct, rt_rt, ok_ok, slot, item0, item1, item2, item3, sub_t, i_int, i_abs, i_lenT, c_eqI, c_neI, c_eqS, c_neS, c_lt, c_le, c_gt, c_ge, asB_bl, iteC_t, iteC_f, iteC_d, b_add, b_sub, b_mul, b_mod]
        rw [fi]; exact ⟨rfl, F2⟩
    | go l =>
      unfold En.pv
      simp only [bnd_bnd, bnd_sbnd, sbnd_seq, seq_seq, seqC_ap, ss_cons, ss_nil, s_asg, s_ret, s_ite, s_ex, s_for, s_whl, e_non, e_bl, e_int, e_str, e_var, e_bin, e_neg, e_cmp, e_not, e_tup, e_lst, e_dic0, e_sub, e_call, e_bi, e_mt, kindG_same, e_isi, e_inv, e_lrg, e_lc, e_dc, wipeP, new, evEs, evT, evTs, evP, evI, evG, bnd_ok, sbnd_ok, seq_nx, seq_rt, to_nx, go_nx, go_ct, rt_rt, ok_ok, slot, item0, item1, item2, item3, sub_t, i_int, i_abs, i_lenT, c_eqI, c_neI, c_eqS, c_neS, c_lt, c_le, c_gt, c_ge, asB_bl, iteC_t, iteC_f, iteC_d, b_add, b_sub, b_mul, b_mod, List.getElem?_cons_succ, List.getElem?_cons_zero, List.length_cons, List.length_nil, q2, if_true, cIn (in3 _ _ at_new), Bool.false_eq_true, if_false]
      rw [hen] at ef
      have : firstS v b.ss (.go l) = 2 := by rw [← ef]; simp [partsE]
      rw [this]
      exact ⟨rfl, F.trans Fk.new⟩
    | br e x y =>
      have pe : partsE b.en = [e] := by rw [hen]; rfl
      have f1 := fe e (by rw [pe]; simp)
      have fi := fin e pe
      unfold En.pv
      simp only [bnd_bnd, bnd_sbnd, sbnd_seq, seq_seq, seqC_ap, ss_cons, ss_nil, s_asg, s_ret, s_ite, s_ex, s_for, s_whl, e_non, e_bl, e_int, e_str, e_var, e_bin, e_neg, e_cmp, e_not, e_tup, e_lst, e_dic0, e_sub, e_call, e_bi, e_mt, kindG_same, e_isi, e_inv, e_lrg, e_lc, e_dc, wipeP, new, evEs, evT, evTs, evP, evI, evG, bnd_ok, sbnd_ok, seq_nx, seq_rt, to_nx, go_nx, go_ct, rt_rt, ok_ok, slot, item0, item1, item2, item3, sub_t, i_int, i_abs, i_lenT, c_eqI, c_neI, c_eqS, c_neS, c_lt, c_le, c_gt, c_ge, asB_bl, iteC_t, iteC_f, iteC_d, b_add, b_sub, b_mul, b_mod, List.getElem?_cons_succ, List.getElem?_cons_zero, List.length_cons, List.length_nil, q2, if_true, cIn (in2 _ _ at_new)]
      refine Out.Ok.rt (one e f1 pe _ (F.trans Fk.new)) fun v' h2 ⟨l, ev, ei, F2⟩ => ?_
      subst ev
      rw [hen] at fi
      simp only [cIn ei, bnd_bnd, bnd_sbnd, sbnd_seq, seq_seq, seqC_ap, ss_cons, ss_nil, s_asg, s_ret, s_ite, s_ex, s_for, s_whl, e_non, e_bl, e_int, e_str, e_var, e_bin, e_neg, e_cmp, e_not, e_tup, e_lst, e_dic0, e_sub, e_call, e_bi, e_mt, kindG_same, e_isi, e_inv, e_lrg, e_lc, e_dc, wipeP, new, evEs, evT, evTs, evP, evI, evG, bnd_ok, sbnd_ok, seq_nx, seq_rt, to_nx, go_nx, go_ct, rt_rt, ok_ok, slot, item0, item1, item2, item3, sub_t, i_int, i_abs, i_lenT, c_eqI, c_neI, c_eqS, c_neS, c_lt, c_le, c_gt, c_ge, asB_bl, iteC_t, iteC_f, iteC_d, b_add, b_sub, b_mul, b_mod]
      by_cases c : v ∈ names e
      · rw [if_pos c] at fi
        simp only [c, if_true, decide_true, bnd_bnd, bnd_sbnd, sbnd_seq, seq_seq, seqC_ap, ss_cons, ss_nil, s_asg, s_ret, s_ite, s_ex, s_for, s_whl, e_non, e_bl, e_int, e_str, e_var, e_bin, e_neg, e_cmp, e_not, e_tup, e_lst, e_dic0, e_sub, e_call, e_bi, e_mt, kindG_same, e_isi, e_inv, e_lrg, e_lc, e_dc, wipeP, new, evEs, evT, evTs, evP, evI, evG, bnd_ok, sbnd_ok, seq_nx, seq_rt, to_nx, go_nx, go_ct, rt_rt, ok_ok, slot, item0, item1, item2, item3, sub_t, i_int, i_abs, i_lenT, c_eqI, c_neI, c_eqS, c_neS, c_lt, c_le, c_gt, c_ge, asB_bl, iteC_t, iteC_f, iteC_d, b_add, b_sub, b_mul, b_mod]
        rw [fi]; exact ⟨rfl, F2⟩
      · rw [if_neg c] at fi
        simp only [c, if_false, decide_false, bnd_bnd, bnd_sbnd, sbnd_seq, seq_seq, seqC_ap, ss_cons, ss_nil, s_asg, s_ret, s_ite, s_ex, s_for, s_whl, e_non, e_bl, e_int, e_str, e_var, e_bin, e_neg, e_cmp, e_not, e_tup, e_lst, e_dic0, e_sub, e_call, e_bi, e_mt, kindG_same, e_isi, e_inv, e_lrg, e_lc, e_dc, wipeP, new, evEs, evT, evTs, evP, evI, evG, bnd_ok, sbnd_ok, seq_nx, seq_rt, to_nx, go_nx, go_ct, rt_rt, ok_ok, slot, item0, item1, item2, item3, sub_t, i_int, i_abs, i_lenT, c_eqI, c_neI, c_eqS, c_neS, c_lt, c_le, c_gt, c_ge, asB_bl, iteC_t, iteC_f, iteC_d, b_add, b_sub, b_mul, b_mod]
        rw [fi]; exact ⟨rfl, F2⟩
end
end K04

set_option Elab.async false
set_option linter.all false
set_option maxRecDepth 100000
set_option maxHeartbeats 4000000
namespace K04
open PySem MP
open Out (ok bad)
/-- live where a block begins -/
inductive Lv (bs : List Bk) (v : Int) : Int → Prop
  | use {b : Bk} : b ∈ bs → firstS v b.ss b.en = 0 → Lv bs v b.l
  | step {b : Bk} {l : Int} : b ∈ bs → firstS v b.ss b.en ≠ 1 → l ∈ endsOf b.en → Lv bs v l → Lv bs v b.l
def updF {α : Type} (S : Int → α) (l : Int) (W : α) : Int → α := fun x => if x = l then W else S x
theorem upd_at {α : Type} {S : Int → α} {l : Int} {W : α} : updF S l W l = W := if_pos rfl
theorem upd_ne {α : Type} {S : Int → α} {l x : Int} {W : α} (h : x ≠ l) : updF S l W x = S x := if_neg h
theorem bk_eq : ∀ {bs : List Bk}, (bs.map Bk.l).Nodup → ∀ {b c : Bk}, b ∈ bs → c ∈ bs → b.l = c.l → b = c
  | [], _, _, _, h, _, _ => by cases h
  | x :: r, nd, b, c, hb, hc, e => by
    have nd' := List.nodup_cons.mp (by simpa using nd : (x.l :: r.map Bk.l).Nodup)
    rcases List.mem_cons.mp hb with p1 | p1
    · rcases List.mem_cons.mp hc with p2 | p2
      · rw [p1, p2]
      · exact absurd (List.mem_map.mpr ⟨c, p2, by rw [← e, p1]⟩) nd'.1
    · rcases List.mem_cons.mp hc with p2 | p2
      · exact absurd (List.mem_map.mpr ⟨b, p1, by rw [e, p2]⟩) nd'.1
      · exact bk_eq nd'.2 p1 p2 e
structure Inv (bs : List Bk) (vars : List Int) (S : Int → List Int) : Prop where
  sub : ∀ b ∈ bs, In vars (S b.l)
  live : ∀ b ∈ bs, ∀ v ∈ S b.l, Lv bs v b.l
  use : ∀ b ∈ bs, ∀ v ∈ (useD b).1, v ∈ S b.l
def Cl (S : Int → List Int) (b : Bk) (l : Int) : Prop := ∀ v ∈ S l, v ∈ (useD b).2 ∨ v ∈ S b.l
def wS (S : Int → List Int) (b : Bk) (l : Int) : List Int := addAll (S b.l) ((S l).filter fun v => decide (v ∉ (useD b).2))
theorem first_set {b : Bk} {v : Int} (h : firstS v b.ss b.en = 1) : v ∈ (useD b).2 := by
  have : v ∉ (useD b).1 := fun z => by rw [use_iff] at z; omega
  exact (set_iff this).mpr h
section
variable {bs : List Bk} {vars : List Int} {S : Int → List Int} {b : Bk} {l v : Int}
theorem Inv.step (nd : (bs.map Bk.l).Nodup) (i : Inv bs vars S) (hb : b ∈ bs) (hl : l ∈ endsOf b.en) (hll : l ∈ bs.map Bk.l) : Inv bs vars (updF S b.l (wS S b l)) := by
  obtain ⟨c, hc, ec⟩ := List.mem_map.mp hll
  have key : ∀ x ∈ bs, (x = b ∧ updF S b.l (wS S b l) x.l = wS S b l) ∨ updF S b.l (wS S b l) x.l = S x.l := by
    intro x hx
    by_cases e : x.l = b.l
    · have := bk_eq nd hx hb e; subst this; exact .inl ⟨rfl, upd_at⟩
    · exact .inr (upd_ne e)
  have mw : ∀ v, v ∈ wS S b l ↔ v ∈ S b.l ∨ (v ∈ S l ∧ v ∉ (useD b).2) := by
    intro v
    unfold wS
    rw [mem_addAll, List.mem_filter]
    simp
  refine ⟨fun x hx => ?_, fun x hx v hv => ?_, fun x hx v hv => ?_⟩
  · rcases key x hx with ⟨rfl, e⟩ | e
    · rw [e]
      refine (i.sub x hx).all fun v hv => ?_
      have := (List.mem_filter.mp hv).1
      rw [← ec] at this
      exact (i.sub c hc).sub v this
    · rw [e]; exact i.sub x hx
  · rcases key x hx with ⟨rfl, e⟩ | e
    · rw [e, mw] at hv
      rcases hv with q | ⟨q1, q2⟩
      · exact i.live x hx v q
      · refine .step hx (fun z => q2 (first_set z)) hl ?_
        rw [← ec] at q1 ⊢
        exact i.live c hc v q1
    · rw [e] at hv; exact i.live x hx v hv
  · rcases key x hx with ⟨rfl, e⟩ | e
    · rw [e, mw]; exact .inl (i.use x hx v hv)
    · rw [e]; exact i.use x hx v hv
theorem Inv.all (i : Inv bs vars S) (cl : ∀ b ∈ bs, ∀ l ∈ endsOf b.en, Cl S b l) (h : Lv bs v l) : v ∈ S l := by
  induction h with
  | use hb h => exact i.use _ hb v (use_iff.mpr h)
  | @step b l hb h1 hl _ ih =>
    rcases cl b hb l hl v ih with q | q
    · by_cases u : v ∈ (useD b).1
      · exact i.use b hb v u
      · exact absurd ((set_iff u).mp q) h1
    · exact q
theorem le_addS {S : List Int} {v : Int} : S.length ≤ (addS S v).length := by unfold addS; split <;> simp
theorem le_addAll : ∀ {l S : List Int}, S.length ≤ (addAll S l).length
  | [], S => Nat.le_refl _
  | v :: l, S => Nat.le_trans le_addS (show (addS S v).length ≤ (addAll (addS S v) l).length from le_addAll)
theorem addAll_same : ∀ {l S : List Int}, (addAll S l).length ≤ S.length → addAll S l = S ∧ ∀ v ∈ l, v ∈ S
  | [], S, _ => ⟨rfl, by simp⟩
  | v :: l, S, h => by
    have e : addAll S (v :: l) = addAll (addS S v) l := rfl
    rw [e] at h ⊢
    have h1 := le_addAll (l := l) (S := addS S v)
    have hv : v ∈ S := by
      by_cases c : v ∈ S
      · exact c
      · exfalso
        unfold addS at h1 h
        rw [if_neg c, List.length_append] at h1
        rw [if_neg c] at h
        simp at h1
        omega
    have ea : addS S v = S := if_pos hv
    rw [ea] at h ⊢
    obtain ⟨a, b⟩ := addAll_same h
    exact ⟨a, fun x hx => (List.mem_cons.mp hx).elim (fun z => z ▸ hv) (b x)⟩
def tot (bs : List Bk) (S : Int → List Int) : Nat := (bs.map fun b => (S b.l).length).sum
theorem tot_mono {S S' : Int → List Int} : ∀ {bs : List Bk}, (∀ b ∈ bs, (S b.l).length ≤ (S' b.l).length) → tot bs S ≤ tot bs S'
  | [], _ => Nat.le_refl _
  | x :: r, h => by
    have h1 := h x (by simp)
    have h2 := tot_mono (bs := r) fun b hb => h b (List.mem_cons_of_mem _ hb)
    unfold tot at h2 ⊢
    simp only [List.map_cons, List.sum_cons]
    omega
theorem tot_lt {S S' : Int → List Int} : ∀ {bs : List Bk}, (∀ b ∈ bs, (S b.l).length ≤ (S' b.l).length) → b ∈ bs → (S b.l).length < (S' b.l).length → tot bs S < tot bs S'
  | [], _, hb, _ => by cases hb
  | x :: r, h, hb, lt => by
    have h1 := h x (by simp)
    have h0 : ∀ b ∈ r, (S b.l).length ≤ (S' b.l).length := fun b hb => h b (List.mem_cons_of_mem _ hb)
    have h2 := tot_mono h0
    rcases List.mem_cons.mp hb with rfl | hb
    · unfold tot at h2 ⊢
      simp only [List.map_cons, List.sum_cons]
      omega
    · have h3 := tot_lt h0 hb lt
      unfold tot at h3 ⊢
      simp only [List.map_cons, List.sum_cons]
      omega
theorem tot_le (hv : vars.length ≤ 7) : ∀ {bs : List Bk}, (∀ b ∈ bs, In vars (S b.l)) → tot bs S ≤ 7 * bs.length
  | [], _ => Nat.le_refl _
  | x :: r, h => by
    have h1 := (h x (by simp)).len
    have h2 := tot_le hv (bs := r) fun b hb => h b (List.mem_cons_of_mem _ hb)
    unfold tot at h2 ⊢
    simp only [List.map_cons, List.sum_cons, List.length_cons]
    omega
/-- how far a pass has come -/
structure Pass (bs : List Bk) (S0 S : Int → List Int) (ch : Bool) (dn : Bk → Int → Prop) : Prop where
  le : ∀ b ∈ bs, (S0 b.l).length ≤ (S b.l).length
  up : ch = true → tot bs S0 < tot bs S
  same : ch = false → ∀ b ∈ bs, S b.l = S0 b.l
  cl : ch = false → ∀ b ∈ bs, ∀ l ∈ endsOf b.en, dn b l → Cl S0 b l
theorem Pass.step {S0 : Int → List Int} {ch : Bool} {dn dn' : Bk → Int → Prop} (P : Pass bs S0 S ch dn) (nd : (bs.map Bk.l).Nodup) (hb : b ∈ bs) (hl : l ∈ endsOf b.en) (hll : l ∈ bs.map Bk.l)
    (hd : ∀ x ∈ bs, ∀ y ∈ endsOf x.en, dn' x y → dn x y ∨ (x = b ∧ y = l)) : Pass bs S0 (updF S b.l (wS S b l)) (ch || decide ((S b.l).length < (wS S b l).length)) dn' := by
  obtain ⟨c, hc, ec⟩ := List.mem_map.mp hll
  have lw : (S b.l).length ≤ (wS S b l).length := le_addAll
  have key : ∀ x ∈ bs, (S x.l).length ≤ (updF S b.l (wS S b l) x.l).length := by
    intro x hx
    by_cases e : x.l = b.l
    · rw [e, upd_at]; exact lw
    · rw [upd_ne e]; exact Nat.le_refl _
  refine ⟨fun x hx => Nat.le_trans (P.le x hx) (key x hx), fun h => ?_, fun h => ?_, fun h => ?_⟩
  · rcases (Bool.or_eq_true _ _).mp h with q | q
    · exact Nat.lt_of_lt_of_le (P.up q) (tot_mono key)
    · exact Nat.lt_of_le_of_lt (tot_mono P.le) (tot_lt key hb (by rw [upd_at]; exact of_decide_eq_true q))
  · obtain ⟨q1, q2⟩ := (Bool.or_eq_false_iff).mp h
    have q2 := of_decide_eq_false q2
    obtain ⟨e, _⟩ := addAll_same (show (addAll (S b.l) ((S l).filter fun v => decide (v ∉ (useD b).2))).length ≤ (S b.l).length from by unfold wS at q2; omega)
    intro x hx
    by_cases ex : x.l = b.l
    · rw [ex, upd_at]
      show addAll (S b.l) ((S l).filter fun v => decide (v ∉ (useD b).2)) = _
      rw [e]; exact P.same q1 b hb
    · rw [upd_ne ex]; exact P.same q1 x hx
  · obtain ⟨q1, q2⟩ := (Bool.or_eq_false_iff).mp h
    have q2 := of_decide_eq_false q2
    obtain ⟨_, e⟩ := addAll_same (show (addAll (S b.l) ((S l).filter fun v => decide (v ∉ (useD b).2))).length ≤ (S b.l).length from by unfold wS at q2; omega)
    intro x hx y hy hxy
    rcases hd x hx y hy hxy with q | ⟨rfl, rfl⟩
    · exact P.cl q1 x hx y hy q
    · intro v hv
      by_cases d : v ∈ (useD x).2
      · exact .inl d
      · refine .inr ?_
        rw [← P.same q1 x hb]
        refine e v (List.mem_filter.mpr ⟨?_, by simpa using d⟩)
        rw [← ec] at hv ⊢
        rw [P.same q1 c hc]; exact hv
end
end K04

set_option Elab.async false
set_option linter.all false
set_option maxRecDepth 100000
set_option maxHeartbeats 4000000
namespace K04
open PySem MP
open Out (ok bad)
theorem dGet_map {F : Bk → PV} : ∀ {bs : List Bk} {b : Bk}, (bs.map Bk.l).Nodup → b ∈ bs → dGet (bs.map fun b => (.int b.l, F b)) (.int b.l) = some (F b)
  | [], _, _, h => by cases h
  | x :: r, b, nd, hb => by
    have nd' := List.nodup_cons.mp (by simpa using nd : (x.l :: r.map Bk.l).Nodup)
    show (if keyEq (.int x.l) (.int b.l) = true then some (F x) else dGet (r.map fun b => (.int b.l, F b)) (.int b.l)) = some (F b)
    by_cases e : x.l = b.l
    · have : x = b := bk_eq nd (by simp) hb e
      subst this
      simp [keyEq]
    · rw [if_neg (by simpa [keyEq] using e)]
      rcases List.mem_cons.mp hb with p1 | p1
      · exact absurd (by rw [p1]) e
      · exact dGet_map nd'.2 p1
theorem dPut_new {F : Bk → PV} {bs : List Bk} {l : Int} {x : PV} (h : l ∉ bs.map Bk.l) : dPut (bs.map fun b => (.int b.l, F b)) (.int l) x = (bs.map fun b => (.int b.l, F b)) ++ [(.int l, x)] := by
  unfold dPut
  rw [if_neg]
  rw [List.any_map, Bool.not_eq_true, List.any_eq_false]
  intro b hb
  have : b.l ≠ l := fun e => h (List.mem_map.mpr ⟨b, hb, e⟩)
  simpa [keyEq] using this
structure LH (bs : List Bk) (u d p : Int → Nat) (R L n0 : Nat) (S : Int → List Int) (h : PH) : Prop where
  rows : h[R]? = some (.dic (bs.map fun b => (.int b.l, .tup [.ref (u b.l), .ref (d b.l)])))
  live : h[L]? = some (.dic (bs.map fun b => (.int b.l, .ref (p b.l))))
  done : ∀ b ∈ bs, h[d b.l]? = some (.dic (dB (useD b).2))
  cur : ∀ b ∈ bs, h[p b.l]? = some (.dic (dB (S b.l)))
  pR : ∀ b ∈ bs, p b.l ≠ R
  pL : ∀ b ∈ bs, p b.l ≠ L
  pd : ∀ b ∈ bs, ∀ c ∈ bs, p b.l ≠ d c.l
  pp : ∀ b ∈ bs, ∀ c ∈ bs, p b.l = p c.l → b.l = c.l
  lo : ∀ b ∈ bs, n0 ≤ p b.l
section
variable {bs : List Bk} {u d p : Int → Nat} {R L n0 : Nat} {S : Int → List Int} {h h0 : PH} {b c : Bk} {vars : List Int}
theorem LH.upd (H : LH bs u d p R L n0 S h) (hb : b ∈ bs) {W : List Int} : LH bs u d p R L n0 (updF S b.l W) (h.set (p b.l) (.dic (dB W))) where
  rows := by rw [List.getElem?_set_ne (H.pR b hb)]; exact H.rows
  live := by rw [List.getElem?_set_ne (H.pL b hb)]; exact H.live
  done := fun c hc => by rw [List.getElem?_set_ne (H.pd b hb c hc)]; exact H.done c hc
  cur := fun c hc => by
    by_cases e : c.l = b.l
    · rw [e, upd_at]; exact List.getElem?_set_self (lt_of_some (H.cur b hb))
    · rw [upd_ne e, List.getElem?_set_ne (fun z => e (H.pp b hb c hc z).symm)]; exact H.cur c hc
  pR := H.pR
  pL := H.pL
  pd := H.pd
  pp := H.pp
  lo := H.lo
theorem LH.fk (H : LH bs u d p R L n0 S h) (F : Fk h h0) : LH bs u d p R L n0 S h0 where
  rows := F.at H.rows
  live := F.at H.live
  done := fun c hc => F.at (H.done c hc)
  cur := fun c hc => F.at (H.cur c hc)
  pR := H.pR
  pL := H.pL
  pd := H.pd
  pp := H.pp
  lo := H.lo
theorem set_self {h : PH} {l : Nat} {o : PO} (e : h[l]? = some o) : h.set l o = h := by
  obtain ⟨hl, e⟩ := List.getElem?_eq_some_iff.mp e
  rw [← e]; exact List.set_getElem_self hl
/-! ### one label -/
def bodyL : Ss := .cons (.ite (.and (.cmp .NotIn (.var 6) (.sub (.sub (.var 1) (.sub (.var 4) (.int 0))) (.int 1))) (.cmp .NotIn (.var 6) (.sub (.var 2) (.sub (.var 4) (.int 0))))) (.cons (.asg (.sub (.sub (.var 2) (.sub (.var 4) (.int 0))) (.var 6)) (.bl true))
    (.cons (.asg (.nm 3) (.bl true))
    .nil)) .nil)
    .nil
def lkS : MP.S := .lk (.sub (.var 2) (.var 5)) (.frr (.nm 6) (.keys (.sub (.var 2) (.var 5))) bodyL)
theorem s_lk {C : Str → List PV → PH → Out PV} {e : E} {st : MP.S} {s : PSt} {h : PH} : evS C (.lk e st) s h = (evE C e s h).sbnd fun x _ => match x with
    | .ref l => (match h[l]? with
      | some (.dic kvs) => unlk l (evS C st s (h.set l (.lck kvs)))
      | _ => .bad)
    | _ => .bad := by
  conv => lhs; unfold evS
  all_goals rfl
theorem look_map {F : Bk → PV} {h : PH} (nd : (bs.map Bk.l).Nodup) (hb : b ∈ bs) : lookF (bs.map fun b => (.int b.l, F b)) (.int b.l) h = ok (F b) h := by
  simp only [lookF, isKey, if_true, dGet_map nd hb]
theorem in_lck {l : Nat} {k : Int} {S : List Int} {h : PH} (e : h[l]? = some (.lck (dB S))) : inB (.int k) (.ref l) h = ok (decide (k ∈ S)) h := by
  simp only [inB, e, isKey, if_true, dGet_dB]
theorem unlk_to {l : Nat} {o : SO} {Q : PSt → PH → Prop} (e : o.To fun s h => ∃ kvs, h[l]? = some (.lck kvs) ∧ Q s (h.set l (.dic kvs))) : (unlk l o).To Q := by
  obtain ⟨s, h, rfl, kvs, e1, q⟩ := e.ex
  simp only [unlk, free, e1]
  exact q
theorem lab_ok {C : Str → List PV → PH → Out PV} {ch : Bool} {a0 a6 : Option PV} (H : LH bs u d p R L n0 S h) (nd : (bs.map Bk.l).Nodup) (hb : b ∈ bs) (hc : c ∈ bs) (hz : (S b.l).length + (S c.l).length < 60) :
    (evS C lkS [a0, some (.ref R), some (.ref L), some (.bl ch), some b.pv, some (.int c.l), a6] h).To fun s' h' => ∃ a6, s' = [a0, some (.ref R), some (.ref L), some (.bl (ch || decide ((S b.l).length < (wS S b c.l).length))), some b.pv, some (.int c.l), a6] ∧ h' = h.set (p b.l) (.dic (dB (wS S b c.l))) := by
  have hbv : b.pv = .tup [.int b.l, .tup (b.ss.map Sm.pv), b.en.pv] := rfl
  have lc := lt_of_some (H.cur c hc)
  have lb := lt_of_some (H.cur b hb)
  unfold lkS
  rw [s_lk]
  simp only [bnd_bnd, bnd_sbnd, sbnd_seq, seq_seq, seqC_ap, ss_cons, ss_nil, s_asg, s_ret, s_ite, s_ex, s_for, s_whl, e_non, e_bl, e_int, e_str, e_var, e_bin, e_neg, e_cmp, e_not, e_tup, e_lst, e_dic0, e_sub, e_call, e_bi, e_mt, kindG_same, e_isi, e_inv, e_lrg, e_lc, e_dc, wipeP, new, evEs, evT, evTs, evP, evI, evG, bnd_ok, sbnd_ok, seq_nx, seq_rt, to_nx, go_nx, go_ct, rt_rt, ok_ok, slot, item0, item1, item2, item3, sub_t, i_int, i_abs, i_lenT, c_eqI, c_neI, c_eqS, c_neS, c_lt, c_le, c_gt, c_ge, asB_bl, iteC_t, iteC_f, iteC_d, b_add, b_sub, b_mul, b_mod, List.getElem?_cons_succ, List.getElem?_cons_zero, sub_d H.live, look_map nd hc, H.cur c hc]
  refine unlk_to ?_
  generalize hL : h.set (p c.l) (.lck (dB (S c.l))) = g
  have gR : g[R]? = some (.dic (bs.map fun b => (.int b.l, .tup [.ref (u b.l), .ref (d b.l)]))) := by rw [← hL, List.getElem?_set_ne (H.pR c hc)]; exact H.rows
  have gL : g[L]? = some (.dic (bs.map fun b => (.int b.l, .ref (p b.l)))) := by rw [← hL, List.getElem?_set_ne (H.pL c hc)]; exact H.live
  have gd : g[d b.l]? = some (.dic (dB (useD b).2)) := by rw [← hL, List.getElem?_set_ne (H.pd c hc b hb)]; exact H.done b hb
  have gc : g[p c.l]? = some (.lck (dB (S c.l))) := by rw [← hL]; exact List.getElem?_set_self lc
  have back : g.set (p c.l) (.dic (dB (S c.l))) = h := by rw [← hL, List.set_set]; exact set_self (H.cur c hc)
  have ek : (dB (S c.l)).map (·.1) = (S c.l).map PV.int := by unfold dB; rw [List.map_map]; rfl
  simp only [bnd_bnd, bnd_sbnd, sbnd_seq, seq_seq, seqC_ap, ss_cons, ss_nil, s_asg, s_ret, s_ite, s_ex, s_for, s_whl, e_non, e_bl, e_int, e_str, e_var, e_bin, e_neg, e_cmp, e_not, e_tup, e_lst, e_dic0, e_sub, e_call, e_bi, e_mt, kindG_same, e_isi, e_inv, e_lrg, e_lc, e_dc, wipeP, new, evEs, evT, evTs, evP, evI, evG, bnd_ok, sbnd_ok, seq_nx, seq_rt, to_nx, go_nx, go_ct, rt_rt, ok_ok, slot, item0, item1, item2, item3, sub_t, i_int, i_abs, i_lenT, c_eqI, c_neI, c_eqS, c_neS, c_lt, c_le, c_gt, c_ge, asB_bl, iteC_t, iteC_f, iteC_d, b_add, b_sub, b_mul, b_mod, List.getElem?_cons_succ, List.getElem?_cons_zero, sub_d gL, look_map nd hc, gc, ek]
  by_cases e : c.l = b.l
  · have := bk_eq nd hc hb e
    subst this
    have ew : wS S c c.l = S c.l := by
      have : ∀ l : List Int, (∀ v ∈ l, v ∈ S c.l) → addAll (S c.l) l = S c.l := by
        intro l
        induction l with
        | nil => exact fun _ => rfl
        | cons v l ih => intro hl; show addAll (addS (S c.l) v) l = _; rw [show addS (S c.l) v = S c.l from if_pos (hl v (by simp))]; exact ih fun x hx => hl x (List.mem_cons_of_mem _ hx)
      exact this _ fun v hv => (List.mem_filter.mp hv).1
    rw [ew, show decide ((S c.l).length < (S c.l).length) = false by simp, Bool.or_false]
    refine (for_vals (fun i s' h' => ∃ a6, s' = [a0, some (.ref R), some (.ref L), some (.bl ch), some c.pv, some (.int c.l), a6] ∧ h' = g) ⟨a6, rfl, rfl⟩ fun i x s' h' hx ⟨a6, es, eh⟩ => ?_).mono fun s' h' ⟨a6, es, eh⟩ => ?_
    · subst es eh
      rw [List.getElem?_map, Option.map_eq_some_iff] at hx
      obtain ⟨v, hv, rfl⟩ := hx
      have hvm := List.mem_of_getElem? hv
      have c1 := cNotIn (in_dB (k := v) gd)
      have c2 := cNotIn (in_lck (k := v) gc)
      simp only [evG, sbnd_ok, List.set_cons_succ, List.set_cons_zero]
      unfold bodyL
      simp only [bnd_bnd, bnd_sbnd, sbnd_seq, seq_seq, seqC_ap, ss_cons, ss_nil, s_asg, s_ret, s_ite, s_ex, s_for, s_whl, e_non, e_bl, e_int, e_str, e_var, e_bin, e_neg, e_cmp, e_not, e_tup, e_lst, e_dic0, e_sub, e_call, e_bi, e_mt, kindG_same, e_isi, e_inv, e_lrg, e_lc, e_dc, wipeP, new, evEs, evT, evTs, evP, evI, evG, bnd_ok, sbnd_ok, seq_nx, seq_rt, to_nx, go_nx, go_ct, rt_rt, ok_ok, slot, item0, item1, item2, item3, sub_t, i_int, i_abs, i_lenT, c_eqI, c_neI, c_eqS, c_neS, c_lt, c_le, c_gt, c_ge, asB_bl, iteC_t, iteC_f, iteC_d, b_add, b_sub, b_mul, b_mod, List.getElem?_cons_succ, List.getElem?_cons_zero, hbv, sub_d gR, look_map nd hb, c1]
      by_cases cd : v ∈ (useD c).2
      · simp only [cd, decide_true, Bool.not_true, bnd_bnd, bnd_sbnd, sbnd_seq, seq_seq, seqC_ap, ss_cons, ss_nil, s_asg, s_ret, s_ite, s_ex, s_for, s_whl, e_non, e_bl, e_int, e_str, e_var, e_bin, e_neg, e_cmp, e_not, e_tup, e_lst, e_dic0, e_sub, e_call, e_bi, e_mt, kindG_same, e_isi, e_inv, e_lrg, e_lc, e_dc, wipeP, new, evEs, evT, evTs, evP, evI, evG, bnd_ok, sbnd_ok, seq_nx, seq_rt, to_nx, go_nx, go_ct, rt_rt, ok_ok, slot, item0, item1, item2, item3, sub_t, i_int, i_abs, i_lenT, c_eqI, c_neI, c_eqS, c_neS, c_lt, c_le, c_gt, c_ge, asB_bl, iteC_t, iteC_f, iteC_d, b_add, b_sub, b_mul, b_mod, Bool.false_eq_true, if_false]
        exact ⟨_, rfl, trivial⟩
      · simp only [cd, decide_false, Bool.not_false, bnd_bnd, bnd_sbnd, sbnd_seq, seq_seq, seqC_ap, ss_cons, ss_nil, s_asg, s_ret, s_ite, s_ex, s_for, s_whl, e_non, e_bl, e_int, e_str, e_var, e_bin, e_neg, e_cmp, e_not, e_tup, e_lst, e_dic0, e_sub, e_call, e_bi, e_mt, kindG_same, e_isi, e_inv, e_lrg, e_lc, e_dc, wipeP, new, evEs, evT, evTs, evP, evI, evG, bnd_ok, sbnd_ok, seq_nx, seq_rt, to_nx, go_nx, go_ct, rt_rt, ok_ok, slot, item0, item1, item2, item3, sub_t, i_int, i_abs, i_lenT, c_eqI, c_neI, c_eqS, c_neS, c_lt, c_le, c_gt, c_ge, asB_bl, iteC_t, iteC_f, iteC_d, b_add, b_sub, b_mul, b_mod, if_true, List.getElem?_cons_succ, List.getElem?_cons_zero, sub_d gL, look_map nd hb, c2, hvm, decide_true, Bool.not_true]
        exact ⟨_, rfl, trivial⟩
    · subst es eh
      exact ⟨_, gc, _, rfl, by rw [back]; exact (set_self (H.cur c hc)).symm⟩
  · have npp : p b.l ≠ p c.l := fun z => e (H.pp b hb c hc z).symm
    have gb : g[p b.l]? = some (.dic (dB (S b.l))) := by rw [← hL, List.getElem?_set_ne (Ne.symm npp)]; exact H.cur b hb
    refine (for_vals (fun i s' h' => ∃ a6, s' = [a0, some (.ref R), some (.ref L), some (.bl (ch || decide ((S b.l).length < (addAll (S b.l) (((S c.l).take i).filter fun v => decide (v ∉ (useD b).2))).length))), some b.pv, some (.int c.l), a6] ∧ h' = g.set (p b.l) (.dic (dB (addAll (S b.l) (((S c.l).take i).filter fun v => decide (v ∉ (useD b).2))))))
      ⟨a6, by simp [addAll], (set_self gb).symm⟩ fun i x s' h' hx ⟨a6, es, eh⟩ => ?_).mono fun s' h' ⟨a6, es, eh⟩ => ?_
    · subst es
      rw [List.getElem?_map, Option.map_eq_some_iff] at hx
      obtain ⟨v, hv, rfl⟩ := hx
      have etk : (S c.l).take (i + 1) = (S c.l).take i ++ [v] := by rw [List.take_add_one, hv]; rfl
      have b1 := len_addAll (l := ((S c.l).take i).filter fun v => decide (v ∉ (useD b).2)) (S := S b.l)
      have b2 := List.length_filter_le (fun v => decide (v ∉ (useD b).2)) ((S c.l).take i)
      have b3 := List.length_take_le i (S c.l)
      have b4 := lt_of_some hv
      have b5 := le_addAll (l := ((S c.l).take i).filter fun v => decide (v ∉ (useD b).2)) (S := S b.l)
      rw [etk, List.filter_append, addAll_append]
      generalize hW : addAll (S b.l) (((S c.l).take i).filter fun v => decide (v ∉ (useD b).2)) = W at eh b1 b5 ⊢
      have lgb := lt_of_some gb
      have hR' : h'[R]? = some (.dic (bs.map fun b => (.int b.l, .tup [.ref (u b.l), .ref (d b.l)]))) := by rw [eh, List.getElem?_set_ne (H.pR b hb)]; exact gR
      have hL' : h'[L]? = some (.dic (bs.map fun b => (.int b.l, .ref (p b.l)))) := by rw [eh, List.getElem?_set_ne (H.pL b hb)]; exact gL
      have hd' : h'[d b.l]? = some (.dic (dB (useD b).2)) := by rw [eh, List.getElem?_set_ne (H.pd b hb b hb)]; exact gd
      have hp' : h'[p b.l]? = some (.dic (dB W)) := by rw [eh]; exact List.getElem?_set_self lgb
      have c1 := cNotIn (in_dB (k := v) hd')
      have c2 := cNotIn (in_dB (k := v) hp')
      have st := set_dB (v := v) hp' (by omega)
      simp only [evG, sbnd_ok, List.set_cons_succ, List.set_cons_zero]
      unfold bodyL
      simp only [bnd_bnd, bnd_sbnd, sbnd_seq, seq_seq, seqC_ap, ss_cons, ss_nil, s_asg, s_ret, s_ite, s_ex, s_for, s_whl, e_non, e_bl, e_int, e_str, e_var, e_bin, e_neg, e_cmp, e_not, e_tup, e_lst, e_dic0, e_sub, e_call, e_bi, e_mt, kindG_same, e_isi, e_inv, e_lrg, e_lc, e_dc, wipeP, new, evEs, evT, evTs, evP, evI, evG, bnd_ok, sbnd_ok, seq_nx, seq_rt, to_nx, go_nx, go_ct, rt_rt, ok_ok, slot, item0, item1, item2, item3, sub_t, i_int, i_abs, i_lenT, c_eqI, c_neI, c_eqS, c_neS, c_lt, c_le, c_gt, c_ge, asB_bl, iteC_t, iteC_f, iteC_d, b_add, b_sub, b_mul, b_mod, List.getElem?_cons_succ, List.getElem?_cons_zero, hbv, sub_d hR', look_map nd hb, c1]
      by_cases cd : v ∈ (useD b).2
      · rw [List.filter_cons_of_neg (by simpa using cd)]
        simp only [cd, decide_true, Bool.not_true, bnd_bnd, bnd_sbnd, sbnd_seq, seq_seq, seqC_ap, ss_cons, ss_nil, s_asg, s_ret, s_ite, s_ex, s_for, s_whl, e_non, e_bl, e_int, e_str, e_var, e_bin, e_neg, e_cmp, e_not, e_tup, e_lst, e_dic0, e_sub, e_call, e_bi, e_mt, kindG_same, e_isi, e_inv, e_lrg, e_lc, e_dc, wipeP, new, evEs, evT, evTs, evP, evI, evG, bnd_ok, sbnd_ok, seq_nx, seq_rt, to_nx, go_nx, go_ct, rt_rt, ok_ok, slot, item0, item1, item2, item3, sub_t, i_int, i_abs, i_lenT, c_eqI, c_neI, c_eqS, c_neS, c_lt, c_le, c_gt, c_ge, asB_bl, iteC_t, iteC_f, iteC_d, b_add, b_sub, b_mul, b_mod, Bool.false_eq_true, if_false]
        exact ⟨_, rfl, eh⟩
      · rw [List.filter_cons_of_pos (by simpa using cd)]
        simp only [cd, decide_false, Bool.not_false, bnd_bnd, bnd_sbnd, sbnd_seq, seq_seq, seqC_ap, ss_cons, ss_nil, s_asg, s_ret, s_ite, s_ex, s_for, s_whl, e_non, e_bl, e_int, e_str, e_var, e_bin, e_neg, e_cmp, e_not, e_tup, e_lst, e_dic0, e_sub, e_call, e_bi, e_mt, kindG_same, e_isi, e_inv, e_lrg, e_lc, e_dc, wipeP, new, evEs, evT, evTs, evP, evI, evG, bnd_ok, sbnd_ok, seq_nx, seq_rt, to_nx, go_nx, go_ct, rt_rt, ok_ok, slot, item0, item1, item2, item3, sub_t, i_int, i_abs, i_lenT, c_eqI, c_neI, c_eqS, c_neS, c_lt, c_le, c_gt, c_ge, asB_bl, iteC_t, iteC_f, iteC_d, b_add, b_sub, b_mul, b_mod, if_true, List.getElem?_cons_succ, List.getElem?_cons_zero, sub_d hL', look_map nd hb, c2]
        have e1 : addAll W (v :: List.filter (fun v => decide (v ∉ (useD b).2)) []) = addS W v := rfl
        rw [e1]
        by_cases cw : v ∈ W
        · rw [show addS W v = W from if_pos cw]
          simp only [cw, decide_true, Bool.not_true, bnd_bnd, bnd_sbnd, sbnd_seq, seq_seq, seqC_ap, ss_cons, ss_nil, s_asg, s_ret, s_ite, s_ex, s_for, s_whl, e_non, e_bl, e_int, e_str, e_var, e_bin, e_neg, e_cmp, e_not, e_tup, e_lst, e_dic0, e_sub, e_call, e_bi, e_mt, kindG_same, e_isi, e_inv, e_lrg, e_lc, e_dc, wipeP, new, evEs, evT, evTs, evP, evI, evG, bnd_ok, sbnd_ok, seq_nx, seq_rt, to_nx, go_nx, go_ct, rt_rt, ok_ok, slot, item0, item1, item2, item3, sub_t, i_int, i_abs, i_lenT, c_eqI, c_neI, c_eqS, c_neS, c_lt, c_le, c_gt, c_ge, asB_bl, iteC_t, iteC_f, iteC_d, b_add, b_sub, b_mul, b_mod, Bool.false_eq_true, if_false]
          exact ⟨_, rfl, eh⟩
        · simp only [cw, decide_false, Bool.not_false, bnd_bnd, bnd_sbnd, sbnd_seq, seq_seq, seqC_ap, ss_cons, ss_nil, s_asg, s_ret, s_ite, s_ex, s_for, s_whl, e_non, e_bl, e_int, e_str, e_var, e_bin, e_neg, e_cmp, e_not, e_tup, e_lst, e_dic0, e_sub, e_call, e_bi, e_mt, kindG_same, e_isi, e_inv, e_lrg, e_lc, e_dc, wipeP, new, evEs, evT, evTs, evP, evI, evG, bnd_ok, sbnd_ok, seq_nx, seq_rt, to_nx, go_nx, go_ct, rt_rt, ok_ok, slot, item0, item1, item2, item3, sub_t, i_int, i_abs, i_lenT, c_eqI, c_neI, c_eqS, c_neS, c_lt, c_le, c_gt, c_ge, asB_bl, iteC_t, iteC_f, iteC_d, b_add, b_sub, b_mul, b_mod, if_true, List.getElem?_cons_succ, List.getElem?_cons_zero, List.set_cons_succ, List.set_cons_zero, sub_d hL', look_map nd hb, st]
          have el : (addS W v).length = W.length + 1 := by unfold addS; rw [if_neg cw]; simp
          refine ⟨_, by rw [el, show decide ((S b.l).length < W.length + 1) = true from decide_eq_true (by omega), Bool.or_true], ?_⟩
          rw [eh, List.set_set]
    · subst es
      rw [List.length_map, List.take_length] at eh ⊢
      refine ⟨_, by rw [eh, List.getElem?_set_ne npp]; exact gc, _, rfl, ?_⟩
      rw [eh, List.set_comm _ _ npp, back]; rfl
end
end K04

set_option Elab.async false
set_option linter.all false
set_option maxRecDepth 100000
set_option maxHeartbeats 4000000
namespace K04
open PySem MP
open Out (ok bad)
section
variable {bs : List Bk} {u d p : Int → Nat} {R L n0 : Nat} {S S0 : Int → List Int} {h h0 : PH} {b c : Bk} {vars : List Int} {k : Nat}
/-- what a pass keeps -/
structure Pv (bs : List Bk) (vars : List Int) (u d p : Int → Nat) (R L n0 : Nat) (h0 : PH) (S0 S : Int → List Int) (ch : Bool) (dn : Bk → Int → Prop) (h : PH) : Prop where
  H : LH bs u d p R L n0 S h
  I : Inv bs vars S
  P : Pass bs S0 S ch dn
  F : Fk h0 h
structure Fine0 (bs : List Bk) (vars : List Int) : Prop where
  nd : (bs.map Bk.l).Nodup
  ends : ∀ b ∈ bs, ∀ l ∈ endsOf b.en, l ∈ bs.map Bk.l
  len : vars.length ≤ 7
  fine : ∀ b ∈ bs, FineB vars b
  sk : ∀ b ∈ bs, SkB b
  n : bs.length ≤ 6
theorem fk_set {l : Nat} {o : PO} (F : Fk h0 h) (hl : h0.length ≤ l) : Fk h0 (h.set l o) := ⟨by rw [List.length_set]; exact F.len, fun i hi => by rw [List.getElem?_set_ne (by omega)]; exact F.keep i hi⟩
def bodyB : Ss := .cons (.frr (.nm 5) (.ex (.call "successors" (.cons (.var 4) .nil))) (.cons lkS .nil)) .nil
theorem block_ok {ch : Bool} {i : Nat} {a0 a5 a6 : Option PV} (Z : Fine0 bs vars) (hk : 2 ≤ k) (hb : bs.reverse[i]? = some b) (V : Pv bs vars u d p R L h0.length h0 S0 S ch (fun x _ => x ∈ bs.reverse.take i) h) :
    (evSs (evCall Lw.T k) bodyB [a0, some (.ref R), some (.ref L), some (.bl ch), some b.pv, a5, a6] h).To fun s' h' => ∃ S' ch' a5 a6, s' = [a0, some (.ref R), some (.ref L), some (.bl ch'), some b.pv, a5, a6] ∧ Pv bs vars u d p R L h0.length h0 S0 S' ch' (fun x _ => x ∈ bs.reverse.take (i + 1)) h' := by
  have hbm : b ∈ bs := List.mem_reverse.mp (List.mem_of_getElem? hb)
  unfold bodyB
  simp only [bnd_bnd, bnd_sbnd, sbnd_seq, seq_seq, seqC_ap, ss_cons, ss_nil, s_asg, s_ret, s_ite, s_ex, s_for, s_whl, e_non, e_bl, e_int, e_str, e_var, e_bin, e_neg, e_cmp, e_not, e_tup, e_lst, e_dic0, e_sub, e_call, e_bi, e_mt, kindG_same, e_isi, e_inv, e_lrg, e_lc, e_dc, wipeP, new, evEs, evT, evTs, evP, evI, evG, bnd_ok, sbnd_ok, seq_nx, seq_rt, to_nx, go_nx, go_ct, rt_rt, ok_ok, slot, item0, item1, item2, item3, sub_t, i_int, i_abs, i_lenT, c_eqI, c_neI, c_eqS, c_neS, c_lt, c_le, c_gt, c_ge, asB_bl, iteC_t, iteC_f, iteC_d, b_add, b_sub, b_mul, b_mod, List.getElem?_cons_succ, List.getElem?_cons_zero]
  refine Out.Ok.to (succ_ok b hk) fun v h1 ⟨ev, eh⟩ => ?_
  subst ev eh
  simp only [sbnd_ok]
  refine SO.To.to (for_vals (fun j s' h' => ∃ S' ch' a5 a6, s' = [a0, some (.ref R), some (.ref L), some (.bl ch'), some b.pv, a5, a6] ∧ Pv bs vars u d p R L h0.length h0 S0 S' ch' (fun x y => x ∈ bs.reverse.take i ∨ (x = b ∧ y ∈ (endsOf b.en).take j)) h')
    ⟨S, ch, a5, a6, rfl, V.H, V.I, ⟨V.P.le, V.P.up, V.P.same, fun q x hx y hy z => V.P.cl q x hx y hy (z.elim id fun w => by simp at w)⟩, V.F⟩ fun j x s' h' hx ⟨S', ch', a5, a6, es, V'⟩ => ?_) fun s' h' ⟨S', ch', a5, a6, es, V'⟩ => ?_
  · subst es
    rw [List.getElem?_map, Option.map_eq_some_iff] at hx
    obtain ⟨l, hl, rfl⟩ := hx
    have hle := List.mem_of_getElem? hl
    have hll := Z.ends b hbm l hle
    obtain ⟨c, hc, rfl⟩ := List.mem_map.mp hll
    simp only [evG, sbnd_ok, List.set_cons_succ, List.set_cons_zero]
    rw [ss_cons]
    have z1 := (V'.I.sub b hbm).len
    have z2 := (V'.I.sub c hc).len
    refine SO.To.go (lab_ok V'.H Z.nd hbm hc (by have := Z.len; omega)) fun s2 h2 ⟨b6, es2, eh2⟩ => ?_
    subst es2 eh2
    rw [ss_nil, go_nx]
    refine ⟨_, _, _, _, rfl, V'.H.upd hbm, V'.I.step Z.nd hbm hle hll, V'.P.step Z.nd hbm hle hll fun x hx y hy z => ?_, fk_set V'.F (V'.H.lo b hbm)⟩
    rcases z with z | ⟨rfl, z⟩
    · exact .inl (.inl z)
    · rw [List.take_add_one, hl] at z
      rcases List.mem_append.mp z with z | z
      · exact .inl (.inr ⟨rfl, z⟩)
      · exact .inr ⟨rfl, by simpa using z⟩
  · subst es
    rw [List.length_map, List.take_length] at V'
    simp only [bnd_bnd, bnd_sbnd, sbnd_seq, seq_seq, seqC_ap, ss_cons, ss_nil, s_asg, s_ret, s_ite, s_ex, s_for, s_whl, e_non, e_bl, e_int, e_str, e_var, e_bin, e_neg, e_cmp, e_not, e_tup, e_lst, e_dic0, e_sub, e_call, e_bi, e_mt, kindG_same, e_isi, e_inv, e_lrg, e_lc, e_dc, wipeP, new, evEs, evT, evTs, evP, evI, evG, bnd_ok, sbnd_ok, seq_nx, seq_rt, to_nx, go_nx, go_ct, rt_rt, ok_ok, slot, item0, item1, item2, item3, sub_t, i_int, i_abs, i_lenT, c_eqI, c_neI, c_eqS, c_neS, c_lt, c_le, c_gt, c_ge, asB_bl, iteC_t, iteC_f, iteC_d, b_add, b_sub, b_mul, b_mod]
    refine ⟨S', ch', a5, a6, rfl, V'.H, V'.I, ⟨V'.P.le, V'.P.up, V'.P.same, fun q x hx y hy z => V'.P.cl q x hx y hy ?_⟩, V'.F⟩
    rw [List.take_add_one, hb] at z
    rcases List.mem_append.mp z with z | z
    · exact .inl z
    · have : x = b := by simpa using z
      subst this
      exact .inr ⟨rfl, hy⟩
def passS : Ss := .cons (.asg (.nm 3) (.bl false)) (.cons (.frr (.nm 4) (.rev (.sub (.var 0) (.int 2))) bodyB) .nil)
theorem whl_live {w np : Int} {a4 a5 a6 : Option PV} (Z : Fine0 bs vars) (hk : 2 ≤ k) (H : LH bs u d p R L h0.length S h) (I : Inv bs vars S) (F : Fk h0 h) :
    (whlC (evCall Lw.T k) (.e (.var 3)) passS [some (.tup [.int w, .int np, .tup (bs.map Bk.pv)]), some (.ref R), some (.ref L), some (.bl true), a4, a5, a6] h).To fun s' h' =>
      ∃ S a3 a4 a5 a6, s' = [some (.tup [.int w, .int np, .tup (bs.map Bk.pv)]), some (.ref R), some (.ref L), a3, a4, a5, a6] ∧ LH bs u d p R L h0.length S h' ∧ Inv bs vars S ∧ (∀ b ∈ bs, ∀ l ∈ endsOf b.en, Cl S b l) ∧ Fk h0 h' := by
  refine whl_ok (fun s' h' m => ∃ S ch a4 a5 a6, s' = [some (.tup [.int w, .int np, .tup (bs.map Bk.pv)]), some (.ref R), some (.ref L), some (.bl ch), a4, a5, a6] ∧ LH bs u d p R L h0.length S h' ∧ Inv bs vars S ∧ Fk h0 h' ∧ (ch = false → ∀ b ∈ bs, ∀ l ∈ endsOf b.en, Cl S b l) ∧ m = if ch = true then 50 - tot bs S else 0) _
    (50 - tot bs S) (Nat.lt_of_le_of_lt (Nat.sub_le _ _) (by decide)) ⟨S, true, a4, a5, a6, rfl, H, I, F, (fun z => by cases z), rfl⟩ fun s' h' m ⟨S, ch, a4, a5, a6, es, H, I, F, cl, em⟩ => ?_
  subst es
  simp only [bnd_bnd, bnd_sbnd, sbnd_seq, seq_seq, seqC_ap, ss_cons, ss_nil, s_asg, s_ret, s_ite, s_ex, s_for, s_whl, e_non, e_bl, e_int, e_str, e_var, e_bin, e_neg, e_cmp, e_not, e_tup, e_lst, e_dic0, e_sub, e_call, e_bi, e_mt, kindG_same, e_isi, e_inv, e_lrg, e_lc, e_dc, wipeP, new, evEs, evT, evTs, evP, evI, evG, bnd_ok, sbnd_ok, seq_nx, seq_rt, to_nx, go_nx, go_ct, rt_rt, ok_ok, slot, item0, item1, item2, item3, sub_t, i_int, i_abs, i_lenT, c_eqI, c_neI, c_eqS, c_neS, c_lt, c_le, c_gt, c_ge, asB_bl, iteC_t, iteC_f, iteC_d, b_add, b_sub, b_mul, b_mod, List.getElem?_cons_succ, List.getElem?_cons_zero, truth]
  cases ch with
  | false =>
    rw [if_neg (by decide)]
    exact ⟨S, _, _, _, _, rfl, H, I, cl rfl, F⟩
  | true =>
    rw [if_pos rfl] at em ⊢
    unfold passS
    simp only [bnd_bnd, bnd_sbnd, sbnd_seq, seq_seq, seqC_ap, ss_cons, ss_nil, s_asg, s_ret, s_ite, s_ex, s_for, s_whl, e_non, e_bl, e_int, e_str, e_var, e_bin, e_neg, e_cmp, e_not, e_tup, e_lst, e_dic0, e_sub, e_call, e_bi, e_mt, kindG_same, e_isi, e_inv, e_lrg, e_lc, e_dc, wipeP, new, evEs, evT, evTs, evP, evI, evG, bnd_ok, sbnd_ok, seq_nx, seq_rt, to_nx, go_nx, go_ct, rt_rt, ok_ok, slot, item0, item1, item2, item3, sub_t, i_int, i_abs, i_lenT, c_eqI, c_neI, c_eqS, c_neS, c_lt, c_le, c_gt, c_ge, asB_bl, iteC_t, iteC_f, iteC_d, b_add, b_sub, b_mul, b_mod, List.getElem?_cons_succ, List.getElem?_cons_zero, List.set_cons_succ, List.set_cons_zero]
    rw [show (bs.map Bk.pv).reverse = bs.reverse.map Bk.pv from by rw [List.map_reverse]]
    refine SO.To.go (for_vals (fun i s' h' => ∃ S' ch' a4 a5 a6, s' = [some (.tup [.int w, .int np, .tup (bs.map Bk.pv)]), some (.ref R), some (.ref L), some (.bl ch'), a4, a5, a6] ∧ Pv bs vars u d p R L h0.length h0 S S' ch' (fun x _ => x ∈ bs.reverse.take i) h')
      ⟨S, false, a4, a5, a6, rfl, H, I, ⟨fun _ _ => Nat.le_refl _, fun z => (by cases z), fun _ _ _ => rfl, fun _ x _ y _ z => (by simp at z)⟩, F⟩ fun i x s' h' hx ⟨S', ch', a4, a5, a6, es, V⟩ => ?_) fun s' h' ⟨S', ch', a4, a5, a6, es, V⟩ => ?_
    · subst es
      rw [List.getElem?_map, Option.map_eq_some_iff] at hx
      obtain ⟨b, hb, rfl⟩ := hx
      simp only [evG, sbnd_ok, List.set_cons_succ, List.set_cons_zero]
      obtain ⟨s2, h2, e2, S2, ch2, b5, b6, es2, V2⟩ := (block_ok (a0 := some (.tup [.int w, .int np, .tup (bs.map Bk.pv)])) (a5 := a5) (a6 := a6) Z hk hb V).ex
      rw [e2, go_nx]
      exact ⟨S2, ch2, _, b5, b6, es2, V2⟩
    · subst es
      rw [List.length_map, List.take_length] at V
      simp only [bnd_bnd, bnd_sbnd, sbnd_seq, seq_seq, seqC_ap, ss_cons, ss_nil, s_asg, s_ret, s_ite, s_ex, s_for, s_whl, e_non, e_bl, e_int, e_str, e_var, e_bin, e_neg, e_cmp, e_not, e_tup, e_lst, e_dic0, e_sub, e_call, e_bi, e_mt, kindG_same, e_isi, e_inv, e_lrg, e_lc, e_dc, wipeP, new, evEs, evT, evTs, evP, evI, evG, bnd_ok, sbnd_ok, seq_nx, seq_rt, to_nx, go_nx, go_ct, rt_rt, ok_ok, slot, item0, item1, item2, item3, sub_t, i_int, i_abs, i_lenT, c_eqI, c_neI, c_eqS, c_neS, c_lt, c_le, c_gt, c_ge, asB_bl, iteC_t, iteC_f, iteC_d, b_add, b_sub, b_mul, b_mod]
      have t1 := tot_le Z.len V.I.sub
      have t0 := tot_le Z.len I.sub
      have n6 := Z.n
      cases ch' with
      | false =>
        refine ⟨0, by omega, S', false, a4, a5, a6, rfl, V.H, V.I, V.F, fun _ b hb l hl v hv => ?_, rfl⟩
        obtain ⟨c, hc, rfl⟩ := List.mem_map.mp (Z.ends b hb l hl)
        rw [V.P.same rfl c hc] at hv
        rw [V.P.same rfl b hb]
        exact V.P.cl rfl b hb _ hl (List.mem_reverse.mpr hb) v hv
      | true =>
        have := V.P.up rfl
        exact ⟨50 - tot bs S', by omega, S', true, a4, a5, a6, rfl, V.H, V.I, V.F, (fun z => by cases z), rfl⟩
end
end K04

set_option Elab.async false
set_option linter.all false
set_option maxRecDepth 100000
set_option maxHeartbeats 4000000
namespace K04
open PySem MP
open Out (ok bad)
section
variable {bs : List Bk} {u d p : Int → Nat} {R L n0 : Nat} {S S0 : Int → List Int} {h h0 : PH} {b c : Bk} {vars : List Int} {k : Nat}
theorem nd_take (nd : (bs.map Bk.l).Nodup) {i : Nat} (hb : bs[i]? = some b) : ∀ c ∈ bs.take i, c.l ≠ b.l := by
  intro c hc e
  have : (bs.take (i + 1)).map Bk.l = (bs.take i).map Bk.l ++ [b.l] := by rw [List.take_add_one, hb, List.map_append]; rfl
  have nd2 : ((bs.take (i + 1)).map Bk.l).Nodup := by rw [List.map_take]; exact nd.sublist (List.take_sublist _ _)
  rw [this] at nd2
  exact (List.nodup_append.mp nd2).2.2 c.l (List.mem_map.mpr ⟨c, hc, rfl⟩) b.l (by simp) e
def rowsE : E := .dc (.sub (.var 4) (.int 0)) (.call "used_and_set" (.cons (.var 4) .nil)) (.nm 4) (.ex (.sub (.var 0) (.int 2))) .nil [4]
def liveE : E := .dc (.sub (.var 4) (.int 0)) (.bi .dict (.cons (.sub (.sub (.var 1) (.sub (.var 4) (.int 0))) (.int 0)) .nil)) (.nm 4) (.ex (.sub (.var 0) (.int 2))) .nil [4]
def outE : E := .lc (.tup (.cons (.sub (.var 4) (.int 0)) (.cons (.bi .tuple (.cons (.bi .sorted (.cons (.sub (.var 2) (.sub (.var 4) (.int 0))) .nil)) .nil)) .nil))) (.nm 4) (.ex (.sub (.var 0) (.int 2))) .nil [4]
theorem rows_ok {w np : Int} (Z : Fine0 bs vars) (hk : 7 ≤ k) : (evE (evCall Lw.T k) rowsE [some (.tup [.int w, .int np, .tup (bs.map Bk.pv)]), none, none, none, none, none, none] h).Ok fun v h' => ∃ (R : Nat) (u d : Int → Nat), v = .ref R ∧ h'[R]? = some (.dic (bs.map fun b => (.int b.l, .tup [.ref (u b.l), .ref (d b.l)]))) ∧
      (∀ b ∈ bs, h'[u b.l]? = some (.dic (dB (useD b).1)) ∧ h'[d b.l]? = some (.dic (dB (useD b).2)) ∧ In vars (useD b).1) ∧ Fk h h' := by
  have hS : (64 : Nat) ≤ sizeLine := by decide
  unfold rowsE
  simp only [bnd_bnd, bnd_sbnd, sbnd_seq, seq_seq, seqC_ap, ss_cons, ss_nil, s_asg, s_ret, s_ite, s_ex, s_for, s_whl, e_non, e_bl, e_int, e_str, e_var, e_bin, e_neg, e_cmp, e_not, e_tup, e_lst, e_dic0, e_sub, e_call, e_bi, e_mt, kindG_same, e_isi, e_inv, e_lrg, e_lc, e_dc, wipeP, new, evEs, evT, evTs, evP, evI, evG, bnd_ok, sbnd_ok, seq_nx, seq_rt, to_nx, go_nx, go_ct, rt_rt, ok_ok, slot, item0, item1, item2, item3, sub_t, i_int, i_abs, i_lenT, c_eqI, c_neI, c_eqS, c_neS, c_lt, c_le, c_gt, c_ge, asB_bl, iteC_t, iteC_f, iteC_d, b_add, b_sub, b_mul, b_mod, List.getElem?_cons_succ, List.getElem?_cons_zero]
  refine Out.Ok.bnd (each_vals (fun i acc h' => ∃ u d : Int → Nat, acc = (bs.take i).map (fun b => (PV.int b.l, PV.tup [.ref (u b.l), .ref (d b.l)])) ∧ (∀ b ∈ bs.take i, h'[u b.l]? = some (.dic (dB (useD b).1)) ∧ h'[d b.l]? = some (.dic (dB (useD b).2)) ∧ In vars (useD b).1) ∧ Fk h h')
    ⟨fun _ => 0, fun _ => 0, rfl, by simp, Fk.refl⟩ fun i x acc h1 hx ⟨u, d, ea, ih, F⟩ => ?_) fun acc h1 ⟨u, d, ea, ih, F⟩ => ?_
  · subst ea
    rw [List.getElem?_map, Option.map_eq_some_iff] at hx
    obtain ⟨b, hb, rfl⟩ := hx
    have hbm := List.mem_of_getElem? hb
    have hlt := nd_take Z.nd hb
    have etk : bs.take (i + 1) = bs.take i ++ [b] := by rw [List.take_add_one, hb]; rfl
    have b3 := List.length_take_le i bs
    have b4 := lt_of_some hb
    have n6 := Z.n
    have hbv : b.pv = .tup [.int b.l, .tup (b.ss.map Sm.pv), b.en.pv] := rfl
    have e0 : ∀ {C : Str → List PV → PH → Out PV} {a b1 c1 d1 e1 f1 : Option PV} {hh : PH}, evE C (.sub (.var 4) (.int 0)) [a, b1, c1, d1, some b.pv, e1, f1] hh = ok (.int b.l) hh := by
      intros; simp only [bnd_bnd, bnd_sbnd, sbnd_seq, seq_seq, seqC_ap, ss_cons, ss_nil, s_asg, s_ret, s_ite, s_ex, s_for, s_whl, e_non, e_bl, e_int, e_str, e_var, e_bin, e_neg, e_cmp, e_not, e_tup, e_lst, e_dic0, e_sub, e_call, e_bi, e_mt, kindG_same, e_isi, e_inv, e_lrg, e_lc, e_dc, wipeP, new, evEs, evT, evTs, evP, evI, evG, bnd_ok, sbnd_ok, seq_nx, seq_rt, to_nx, go_nx, go_ct, rt_rt, ok_ok, slot, item0, item1, item2, item3, sub_t, i_int, i_abs, i_lenT, c_eqI, c_neI, c_eqS, c_neS, c_lt, c_le, c_gt, c_ge, asB_bl, iteC_t, iteC_f, iteC_d, b_add, b_sub, b_mul, b_mod, List.getElem?_cons_succ, List.getElem?_cons_zero, hbv]
    unfold dcC
    simp only [evG, bnd_ok, evTs, if_true, wipeP, List.set_cons_succ, List.set_cons_zero, e0, e_call, evEs, e_var, slot, List.getElem?_cons_succ, List.getElem?_cons_zero]
    refine Out.Ok.bnd (usedset_ok hk (Z.fine b hbm) Z.len) fun v h2 ⟨ev, p1, p2, F2, i1, i2⟩ => ?_
    subst ev
    rw [if_pos ⟨rfl, by rw [List.length_map]; omega⟩, ok_ok]
    refine ⟨updF u b.l h1.length, updF d b.l (h1.length + 1), ?_, fun c hc => ?_, F.trans F2⟩
    · rw [dPut_new (F := fun b => .tup [.ref (u b.l), .ref (d b.l)]) (fun z => by
        obtain ⟨c, hc, e⟩ := List.mem_map.mp z
        exact hlt c hc e), etk, List.map_append]
      congr 1
      · refine List.map_congr_left fun c hc => ?_
        rw [upd_ne (hlt c hc), upd_ne (hlt c hc)]
      · simp [upd_at]
    · rw [etk] at hc
      rcases List.mem_append.mp hc with hc | hc
      · rw [upd_ne (hlt c hc), upd_ne (hlt c hc)]
        obtain ⟨q1, q2, q3⟩ := ih c hc
        exact ⟨F2.at q1, F2.at q2, q3⟩
      · have : c = b := by simpa using hc
        subst this
        rw [upd_at, upd_at]
        exact ⟨p1, p2, i1⟩
  · subst ea
    rw [List.length_map, List.take_length] at ih ⊢
    simp only [new, ok_ok]
    refine ⟨h1.length, u, d, rfl, at_new, fun b hb => ?_, F.trans Fk.new⟩
    obtain ⟨q1, q2, q3⟩ := ih b hb
    exact ⟨Fk.new.at q1, Fk.new.at q2, q3⟩
def U0 (bs : List Bk) (l : Int) : List Int := ((bs.find? fun b => decide (b.l = l)).map fun b => (useD b).1).getD []
theorem u0_at (nd : (bs.map Bk.l).Nodup) (hb : b ∈ bs) : U0 bs b.l = (useD b).1 := by
  unfold U0
  cases hf : bs.find? fun c => decide (c.l = b.l) with
  | none => exact absurd (List.find?_eq_none.mp hf b hb) (by simp)
  | some c =>
    have h1 := List.mem_of_find?_eq_some hf
    have h2 : c.l = b.l := by simpa using List.find?_some hf
    rw [bk_eq nd h1 hb h2]; rfl
theorem live_ok {w np : Int} (Z : Fine0 bs vars) (hR : h[R]? = some (.dic (bs.map fun b => (.int b.l, .tup [.ref (u b.l), .ref (d b.l)]))))
    (hu : ∀ b ∈ bs, h[u b.l]? = some (.dic (dB (useD b).1)) ∧ h[d b.l]? = some (.dic (dB (useD b).2)) ∧ In vars (useD b).1) :
    (evE (evCall Lw.T k) liveE [some (.tup [.int w, .int np, .tup (bs.map Bk.pv)]), some (.ref R), none, none, none, none, none] h).Ok fun v h' => ∃ (L : Nat) (p : Int → Nat), v = .ref L ∧ LH bs u d p R L h.length (U0 bs) h' ∧ Fk h h' := by
  have hS : (64 : Nat) ≤ sizeLine := by decide
  unfold liveE
  simp only [bnd_bnd, bnd_sbnd, sbnd_seq, seq_seq, seqC_ap, ss_cons, ss_nil, s_asg, s_ret, s_ite, s_ex, s_for, s_whl, e_non, e_bl, e_int, e_str, e_var, e_bin, e_neg, e_cmp, e_not, e_tup, e_lst, e_dic0, e_sub, e_call, e_bi, e_mt, kindG_same, e_isi, e_inv, e_lrg, e_lc, e_dc, wipeP, new, evEs, evT, evTs, evP, evI, evG, bnd_ok, sbnd_ok, seq_nx, seq_rt, to_nx, go_nx, go_ct, rt_rt, ok_ok, slot, item0, item1, item2, item3, sub_t, i_int, i_abs, i_lenT, c_eqI, c_neI, c_eqS, c_neS, c_lt, c_le, c_gt, c_ge, asB_bl, iteC_t, iteC_f, iteC_d, b_add, b_sub, b_mul, b_mod, List.getElem?_cons_succ, List.getElem?_cons_zero]
  refine Out.Ok.bnd (each_vals (fun i acc h' => ∃ p : Int → Nat, acc = (bs.take i).map (fun b => (PV.int b.l, PV.ref (p b.l))) ∧ (∀ b ∈ bs.take i, h'[p b.l]? = some (.dic (dB (useD b).1)) ∧ h.length ≤ p b.l) ∧ (∀ b ∈ bs.take i, ∀ c ∈ bs.take i, p b.l = p c.l → b.l = c.l) ∧ Fk h h')
    ⟨fun _ => 0, rfl, by simp, by simp, Fk.refl⟩ fun i x acc h1 hx ⟨p, ea, ih, ip, F⟩ => ?_) fun acc h1 ⟨p, ea, ih, ip, F⟩ => ?_
  · subst ea
    rw [List.getElem?_map, Option.map_eq_some_iff] at hx
    obtain ⟨b, hb, rfl⟩ := hx
    have hbm := List.mem_of_getElem? hb
    have hlt := nd_take Z.nd hb
    have etk : bs.take (i + 1) = bs.take i ++ [b] := by rw [List.take_add_one, hb]; rfl
    have b3 := List.length_take_le i bs
    have b4 := lt_of_some hb
    have n6 := Z.n
    have hbv : b.pv = .tup [.int b.l, .tup (b.ss.map Sm.pv), b.en.pv] := rfl
    have e0 : ∀ {C : Str → List PV → PH → Out PV} {a b1 c1 d1 e1 f1 : Option PV} {hh : PH}, evE C (.sub (.var 4) (.int 0)) [a, b1, c1, d1, some b.pv, e1, f1] hh = ok (.int b.l) hh := by
      intros; simp only [bnd_bnd, bnd_sbnd, sbnd_seq, seq_seq, seqC_ap, ss_cons, ss_nil, s_asg, s_ret, s_ite, s_ex, s_for, s_whl, e_non, e_bl, e_int, e_str, e_var, e_bin, e_neg, e_cmp, e_not, e_tup, e_lst, e_dic0, e_sub, e_call, e_bi, e_mt, kindG_same, e_isi, e_inv, e_lrg, e_lc, e_dc, wipeP, new, evEs, evT, evTs, evP, evI, evG, bnd_ok, sbnd_ok, seq_nx, seq_rt, to_nx, go_nx, go_ct, rt_rt, ok_ok, slot, item0, item1, item2, item3, sub_t, i_int, i_abs, i_lenT, c_eqI, c_neI, c_eqS, c_neS, c_lt, c_le, c_gt, c_ge, asB_bl, iteC_t, iteC_f, iteC_d, b_add, b_sub, b_mul, b_mod, List.getElem?_cons_succ, List.getElem?_cons_zero, hbv]
    have e00 : ∀ hh, subF b.pv (.int 0) hh = ok (.int b.l) hh := by
      intro hh; rw [hbv]; simp only [sub_t, item0]
    have ed : biF .dict [.ref (u b.l)] h1 = ok (.ref h1.length) (h1 ++ [.dic (dB (useD b).1)]) := by
      simp only [biF, dAt, F.at (hu b hbm).1, new]
    unfold dcC
    simp only [evG, bnd_ok, evTs, if_true, wipeP, List.set_cons_succ, List.set_cons_zero, e00, e_bi, evEs, e_sub, e_var, e_int, slot, List.getElem?_cons_succ, List.getElem?_cons_zero, sub_d (F.at hR), look_map (F := fun b => .tup [.ref (u b.l), .ref (d b.l)]) Z.nd hbm, sub_t, item0, ed]
    have old : ∀ c ∈ bs.take i, p c.l < h1.length := fun c hc => lt_of_some (ih c hc).1
    rw [if_pos ⟨rfl, by rw [List.length_map]; omega⟩, ok_ok]
    refine ⟨updF p b.l h1.length, ?_, fun c hc => ?_, fun c hc e he => ?_, F.trans Fk.new⟩
    · rw [dPut_new (F := fun b => .ref (p b.l)) (fun z => by
        obtain ⟨c, hc, e⟩ := List.mem_map.mp z
        exact hlt c hc e), etk, List.map_append]
      congr 1
      · refine List.map_congr_left fun c hc => ?_
        rw [upd_ne (hlt c hc)]
      · simp [upd_at]
    · rw [etk] at hc
      rcases List.mem_append.mp hc with hc | hc
      · rw [upd_ne (hlt c hc)]
        exact ⟨Fk.new.at (ih c hc).1, (ih c hc).2⟩
      · have : c = b := by simpa using hc
        subst this
        rw [upd_at]
        exact ⟨at_new, F.len⟩
    · rw [etk] at hc he
      rcases List.mem_append.mp hc with hc2 | hc2
      · rw [upd_ne (hlt c hc2)]
        rcases List.mem_append.mp he with he2 | he2
        · rw [upd_ne (hlt e he2)]; exact ip c hc2 e he2
        · have : e = b := by simpa using he2
          subst this
          rw [upd_at]
          intro z; have := old c hc2; omega
      · have : c = b := by simpa using hc2
        subst this
        rw [upd_at]
        rcases List.mem_append.mp he with he2 | he2
        · rw [upd_ne (hlt e he2)]
          intro z; have := old e he2; omega
        · have : e = c := by simpa using he2
          subst this
          exact fun _ => rfl
  · subst ea
    rw [List.length_map, List.take_length] at ih ip ⊢
    simp only [new, ok_ok]
    have F2 : Fk h (h1 ++ [PO.dic (bs.map fun b => (PV.int b.l, PV.ref (p b.l)))]) := F.trans Fk.new
    refine ⟨h1.length, p, rfl, ⟨F2.at hR, at_new, fun b hb => F2.at (hu b hb).2.1, fun b hb => ?_, fun b hb z => ?_, fun b hb z => ?_, fun b hb c hc z => ?_, ip, fun b hb => (ih b hb).2⟩, F2⟩
    · rw [u0_at Z.nd hb]; exact Fk.new.at (ih b hb).1
    · have := lt_of_some hR; have := (ih b hb).2; omega
    · have := lt_of_some (ih b hb).1; omega
    · have := lt_of_some (hu c hc).2.1; have := (ih b hb).2; omega
def rowOf (S : Int → List Int) (b : Bk) : PV := .tup [.int b.l, .tup ((sortI (S b.l)).map PV.int)]
theorem out_ok {w np : Int} {a3 a4 a5 a6 : Option PV} (Z : Fine0 bs vars) (H : LH bs u d p R L n0 S h) (I : Inv bs vars S) :
    (evE (evCall Lw.T k) outE [some (.tup [.int w, .int np, .tup (bs.map Bk.pv)]), some (.ref R), some (.ref L), a3, a4, a5, a6] h).Ok fun v h' => ∃ l, v = .ref l ∧ h.length ≤ l ∧ h'[l]? = some (.lst (bs.map (rowOf S))) ∧ Fk h h' := by
  have hS : (64 : Nat) ≤ sizeLine := by decide
  have q2 : 2 ≤ sizeLine := by omega
  unfold outE
  simp only [bnd_bnd, bnd_sbnd, sbnd_seq, seq_seq, seqC_ap, ss_cons, ss_nil, s_asg, s_ret, s_ite, s_ex, s_for, s_whl, e_non, e_bl, e_int, e_str, e_var, e_bin, e_neg, e_cmp, e_not, e_tup, e_lst, e_dic0, e_sub, e_call, e_bi, e_mt, kindG_same, e_isi, e_inv, e_lrg, e_lc, e_dc, wipeP, new, evEs, evT, evTs, evP, evI, evG, bnd_ok, sbnd_ok, seq_nx, seq_rt, to_nx, go_nx, go_ct, rt_rt, ok_ok, slot, item0, item1, item2, item3, sub_t, i_int, i_abs, i_lenT, c_eqI, c_neI, c_eqS, c_neS, c_lt, c_le, c_gt, c_ge, asB_bl, iteC_t, iteC_f, iteC_d, b_add, b_sub, b_mul, b_mod, List.getElem?_cons_succ, List.getElem?_cons_zero]
  refine Out.Ok.bnd (each_vals (fun i acc h' => acc = (bs.take i).map (rowOf S) ∧ Fk h h') ⟨rfl, Fk.refl⟩ fun i x acc h1 hx ⟨ea, F⟩ => ?_) fun acc h1 ⟨ea, F⟩ => ?_
  · subst ea
    rw [List.getElem?_map, Option.map_eq_some_iff] at hx
    obtain ⟨b, hb, rfl⟩ := hx
    have hbm := List.mem_of_getElem? hb
    have etk : bs.take (i + 1) = bs.take i ++ [b] := by rw [List.take_add_one, hb]; rfl
    have b3 := List.length_take_le i bs
    have b4 := lt_of_some hb
    have n6 := Z.n
    have n7 := Z.len
    have hbv : b.pv = .tup [.int b.l, .tup (b.ss.map Sm.pv), b.en.pv] := rfl
    have e0 : ∀ {C : Str → List PV → PH → Out PV} {a b1 c1 d1 e1 f1 : Option PV} {hh : PH}, evE C (.sub (.var 4) (.int 0)) [a, b1, c1, d1, some b.pv, e1, f1] hh = ok (.int b.l) hh := by
      intros; simp only [bnd_bnd, bnd_sbnd, sbnd_seq, seq_seq, seqC_ap, ss_cons, ss_nil, s_asg, s_ret, s_ite, s_ex, s_for, s_whl, e_non, e_bl, e_int, e_str, e_var, e_bin, e_neg, e_cmp, e_not, e_tup, e_lst, e_dic0, e_sub, e_call, e_bi, e_mt, kindG_same, e_isi, e_inv, e_lrg, e_lc, e_dc, wipeP, new, evEs, evT, evTs, evP, evI, evG, bnd_ok, sbnd_ok, seq_nx, seq_rt, to_nx, go_nx, go_ct, rt_rt, ok_ok, slot, item0, item1, item2, item3, sub_t, i_int, i_abs, i_lenT, c_eqI, c_neI, c_eqS, c_neS, c_lt, c_le, c_gt, c_ge, asB_bl, iteC_t, iteC_f, iteC_d, b_add, b_sub, b_mul, b_mod, List.getElem?_cons_succ, List.getElem?_cons_zero, hbv]
    have e00 : ∀ hh, subF b.pv (.int 0) hh = ok (.int b.l) hh := by
      intro hh; rw [hbv]; simp only [sub_t, item0]
    have il := (I.sub b hbm).len
    have es : biF .sorted [.ref (p b.l)] h1 = ok (.ref h1.length) (h1 ++ [.lst ((sortI (S b.l)).map PV.int)]) := by
      have e1 : (dB (S b.l)).map (·.1) = (S b.l).map PV.int := by simp [dB]
      simp only [biF, lstAt, dicAt, F.at (H.cur b hbm), e1, Option.bind_none, Option.bind_some, ints_map, new]
      rw [if_pos (by omega)]
    unfold lcC
    simp only [evG, bnd_ok, evTs, if_true, wipeP, List.set_cons_succ, List.set_cons_zero, e_tup, e00, e_bi, evEs, e_sub, e_var, e_int, slot, List.getElem?_cons_succ, List.getElem?_cons_zero, sub_d (F.at H.live), look_map (F := fun b => .ref (p b.l)) Z.nd hbm, es, tuple_at (at_new (h := h1) (o := .lst ((sortI (S b.l)).map PV.int))), List.length_cons, List.length_nil, q2, bnd_bnd]
    rw [if_pos (by rw [List.length_map]; omega), ok_ok]
    exact ⟨by rw [etk, List.map_append]; rfl, F.trans Fk.new⟩
  · subst ea
    rw [List.length_map, List.take_length]
    simp only [new, ok_ok]
    exact ⟨h1.length, rfl, F.len, at_new, F.trans Fk.new⟩
theorem livein_ok {w np : Int} (Z : Fine0 bs vars) (hk : 8 ≤ k) : (evCall Lw.T k "live_in" [.tup [.int w, .int np, .tup (bs.map Bk.pv)]] h).Ok fun v h' => ∃ S l, v = .ref l ∧ h.length ≤ l ∧ h'[l]? = some (.lst (bs.map (rowOf S))) ∧ Fk h h' ∧ Inv bs vars S ∧ (∀ b ∈ bs, ∀ l ∈ endsOf b.en, Cl S b l) := by
  obtain ⟨k, rfl⟩ : ∃ j, k = j + 1 := ⟨k - 1, by omega⟩
  refine call_ok Lw.T_live_in rfl (by decide) ?_
  show (evSs (evCall Lw.T k) (.cons (.asg (.nm 1) rowsE) (.cons (.asg (.nm 2) liveE) (.cons (.asg (.nm 3) (.bl true)) (.cons (.whl (.e (.var 3)) passS) (.cons (.ret outE) .nil))))) [some (.tup [.int w, .int np, .tup (bs.map Bk.pv)]), none, none, none, none, none, none] h).Rt _
  simp only [ss_cons, ss_nil, s_asg, s_ret, s_whl, e_bl, sbnd_seq, sbnd_ok, seq_seq, seqC_ap]
  refine Out.Ok.rt (rows_ok Z (by omega)) fun v h1 ⟨R, u, d, ev, hR, hu, F1⟩ => ?_
  subst ev
  simp only [evG, sbnd_ok, seq_nx, seqC_ap, ss_cons, ss_nil, s_asg, s_ret, s_whl, sbnd_seq, seq_seq, List.set_cons_succ, List.set_cons_zero]
  refine Out.Ok.rt (live_ok Z hR hu) fun v h2 ⟨L, p, ev, H, F2⟩ => ?_
  subst ev
  simp only [evG, sbnd_ok, seq_nx, seqC_ap, ss_cons, ss_nil, s_asg, s_ret, s_whl, e_bl, sbnd_seq, seq_seq, List.set_cons_succ, List.set_cons_zero]
  have I0 : Inv bs vars (U0 bs) := ⟨fun b hb => by rw [u0_at Z.nd hb]; exact (hu b hb).2.2, fun b hb v hv => by rw [u0_at Z.nd hb] at hv; exact .use hb (use_iff.mp hv), fun b hb v hv => by rw [u0_at Z.nd hb]; exact hv⟩
  have H0 : LH bs u d p R L h.length (U0 bs) h2 := ⟨H.rows, H.live, H.done, H.cur, H.pR, H.pL, H.pd, H.pp, fun b hb => Nat.le_trans F1.len (H.lo b hb)⟩
  refine SO.To.rt (whl_live Z (by omega) H0 I0 (F1.trans F2)) fun s' h3 ⟨S, a3, a4, a5, a6, es, H3, I3, cl, F3⟩ => ?_
  subst es
  simp only [seqC_ap, ss_cons, ss_nil, s_ret, sbnd_seq]
  refine Out.Ok.rt (out_ok Z H3 I3) fun v h4 ⟨l, ev, hl, el, F4⟩ => ?_
  subst ev
  simp only [seq_rt, rt_rt]
  exact ⟨S, l, rfl, Nat.le_trans F3.len hl, el, F3.trans F4, I3, cl⟩
end
end K04

set_option Elab.async false
set_option linter.all false
set_option maxRecDepth 100000
set_option maxHeartbeats 4000000
namespace K04
open PySem MP
open Out (ok bad)
section
variable {bs : List Bk} {h h0 : PH} {b c : Bk} {vars : List Int} {k : Nat} {v label : Int}
/-- the worklist: what was seen, what waits -/
structure Wk (bs : List Bk) (v label : Int) (seen row : List Int) : Prop where
  sl : ∀ x ∈ seen, x ∈ bs.map Bk.l
  rl : ∀ x ∈ row, x ∈ bs.map Bk.l
  nd : seen.Nodup
  src : label ∈ seen ∨ label ∈ row
  rv : ∀ x, (x ∈ seen ∨ x ∈ row) → Lv bs v x → Lv bs v label
  no : ∀ b ∈ bs, b.l ∈ seen → firstS v b.ss b.en ≠ 0
  cl : ∀ b ∈ bs, b.l ∈ seen → firstS v b.ss b.en ≠ 1 → ∀ y ∈ endsOf b.en, y ∈ seen ∨ y ∈ row
theorem Wk.none {seen : List Int} (nd : (bs.map Bk.l).Nodup) (W : Wk bs v label seen []) : ¬Lv bs v label := by
  have : ∀ x, Lv bs v x → x ∈ seen → False := by
    intro x hx
    induction hx with
    | use hb h => exact fun q => W.no _ hb q h
    | step hb h1 hl _ ih => exact fun q => ih ((W.cl _ hb q h1 _ hl).elim id fun z => by cases z)
  exact fun h => this label h (W.src.elim id fun z => by cases z)
theorem len_sub {l m : List Int} (nd : l.Nodup) (h : ∀ x ∈ l, x ∈ m) : l.length ≤ m.length := (In.mk nd h).len
theorem first_le {v : Int} {en : En} : ∀ ss : List Sm, firstS v ss en ≤ 2
  | [] => by rw [firstS_nil]; split <;> omega
  | s :: r => by
    rw [firstS_cons]
    have := first_le (v := v) (en := en) r
    split
    · omega
    · split <;> omega
theorem pick_ok {C : Str → List PV → PH → Out PV} {w np x : Int} {a1 a2 a3 a4 a6 a7 a8 : Option PV} (nd : (bs.map Bk.l).Nodup) (n6 : bs.length ≤ 6) (hx : x ∈ bs.map Bk.l) :
    (evE C (.sub (.lc (.var 8) (.nm 8) (.ex (.sub (.var 0) (.int 2))) (.cons (.cmp .Eq (.sub (.var 8) (.int 0)) (.var 5)) .nil) [8]) (.int 0)) [some (.tup [.int w, .int np, .tup (bs.map Bk.pv)]), a1, a2, a3, a4, some (.int x), a6, a7, a8] h).Ok fun r h' => ∃ b ∈ bs, b.l = x ∧ r = b.pv ∧ Fk h h' := by
  have hS : (64 : Nat) ≤ sizeLine := by decide
  simp only [bnd_bnd, bnd_sbnd, sbnd_seq, seq_seq, seqC_ap, ss_cons, ss_nil, s_asg, s_ret, s_ite, s_ex, s_for, s_whl, e_non, e_bl, e_int, e_str, e_var, e_bin, e_neg, e_cmp, e_not, e_tup, e_lst, e_dic0, e_sub, e_call, e_bi, e_mt, kindG_same, e_isi, e_inv, e_lrg, e_lc, e_dc, wipeP, new, evEs, evT, evTs, evP, evI, evG, bnd_ok, sbnd_ok, seq_nx, seq_rt, to_nx, go_nx, go_ct, rt_rt, ok_ok, slot, item0, item1, item2, item3, sub_t, i_int, i_abs, i_lenT, c_eqI, c_neI, c_eqS, c_neS, c_lt, c_le, c_gt, c_ge, asB_bl, iteC_t, iteC_f, iteC_d, b_add, b_sub, b_mul, b_mod, List.getElem?_cons_succ, List.getElem?_cons_zero]
  refine Out.Ok.bnd (each_vals (fun i acc h' => acc = ((bs.take i).filter fun b => decide (b.l = x)).map Bk.pv ∧ h' = h) ⟨rfl, rfl⟩ fun i y acc h1 hy ⟨ea, eh⟩ => ?_) fun acc h1 ⟨ea, eh⟩ => ?_
  · subst ea eh
    rw [List.getElem?_map, Option.map_eq_some_iff] at hy
    obtain ⟨b, hb, rfl⟩ := hy
    have etk : bs.take (i + 1) = bs.take i ++ [b] := by rw [List.take_add_one, hb]; rfl
    have b2 := List.length_filter_le (fun b => decide (b.l = x)) (bs.take i)
    have b3 := List.length_take_le i bs
    have b4 := lt_of_some hb
    have hbv : b.pv = .tup [.int b.l, .tup (b.ss.map Sm.pv), b.en.pv] := rfl
    unfold lcC
    simp only [bnd_bnd, bnd_sbnd, sbnd_seq, seq_seq, seqC_ap, ss_cons, ss_nil, s_asg, s_ret, s_ite, s_ex, s_for, s_whl, e_non, e_bl, e_int, e_str, e_var, e_bin, e_neg, e_cmp, e_not, e_tup, e_lst, e_dic0, e_sub, e_call, e_bi, e_mt, kindG_same, e_isi, e_inv, e_lrg, e_lc, e_dc, wipeP, new, evEs, evT, evTs, evP, evI, evG, bnd_ok, sbnd_ok, seq_nx, seq_rt, to_nx, go_nx, go_ct, rt_rt, ok_ok, slot, item0, item1, item2, item3, sub_t, i_int, i_abs, i_lenT, c_eqI, c_neI, c_eqS, c_neS, c_lt, c_le, c_gt, c_ge, asB_bl, iteC_t, iteC_f, iteC_d, b_add, b_sub, b_mul, b_mod, List.getElem?_cons_succ, List.getElem?_cons_zero, List.set_cons_succ, List.set_cons_zero]
    have e0 : ∀ hh : PH, subF b.pv (.int 0) hh = ok (.int b.l) hh := by
      intro hh; rw [hbv]; simp only [sub_t, item0]
    rw [e0, bnd_ok, c_eqI, bnd_ok, asB_bl, bnd_ok]
    rw [etk, List.filter_append, List.map_append]
    by_cases e : b.l = x
    · rw [List.filter_cons_of_pos (by simpa using e)]
      simp only [e, decide_true, if_true, bnd_bnd, bnd_sbnd, sbnd_seq, seq_seq, seqC_ap, ss_cons, ss_nil, s_asg, s_ret, s_ite, s_ex, s_for, s_whl, e_non, e_bl, e_int, e_str, e_var, e_bin, e_neg, e_cmp, e_not, e_tup, e_lst, e_dic0, e_sub, e_call, e_bi, e_mt, kindG_same, e_isi, e_inv, e_lrg, e_lc, e_dc, wipeP, new, evEs, evT, evTs, evP, evI, evG, bnd_ok, sbnd_ok, seq_nx, seq_rt, to_nx, go_nx, go_ct, rt_rt, ok_ok, slot, item0, item1, item2, item3, sub_t, i_int, i_abs, i_lenT, c_eqI, c_neI, c_eqS, c_neS, c_lt, c_le, c_gt, c_ge, asB_bl, iteC_t, iteC_f, iteC_d, b_add, b_sub, b_mul, b_mod]
      rw [if_pos (by rw [List.length_map]; omega), ok_ok]
      exact ⟨rfl, rfl⟩
    · rw [List.filter_cons_of_neg (by simpa using e)]
      simp only [e, decide_false, if_false, Bool.false_eq_true, bnd_bnd, bnd_sbnd, sbnd_seq, seq_seq, seqC_ap, ss_cons, ss_nil, s_asg, s_ret, s_ite, s_ex, s_for, s_whl, e_non, e_bl, e_int, e_str, e_var, e_bin, e_neg, e_cmp, e_not, e_tup, e_lst, e_dic0, e_sub, e_call, e_bi, e_mt, kindG_same, e_isi, e_inv, e_lrg, e_lc, e_dc, wipeP, new, evEs, evT, evTs, evP, evI, evG, bnd_ok, sbnd_ok, seq_nx, seq_rt, to_nx, go_nx, go_ct, rt_rt, ok_ok, slot, item0, item1, item2, item3, sub_t, i_int, i_abs, i_lenT, c_eqI, c_neI, c_eqS, c_neS, c_lt, c_le, c_gt, c_ge, asB_bl, iteC_t, iteC_f, iteC_d, b_add, b_sub, b_mul, b_mod]
      exact ⟨by simp, trivial⟩
  · subst ea eh
    rw [List.length_map, List.take_length]
    obtain ⟨b, hb, rfl⟩ := List.mem_map.mp hx
    obtain ⟨c, r, e⟩ : ∃ c r, (bs.filter fun c => decide (c.l = b.l)) = c :: r := by
      cases hf : bs.filter fun c => decide (c.l = b.l) with
      | nil =>
        have : b ∈ bs.filter fun c => decide (c.l = b.l) := List.mem_filter.mpr ⟨hb, by simp⟩
        rw [hf] at this; cases this
      | cons c r => exact ⟨c, r, rfl⟩
    have hc : c ∈ bs.filter fun c => decide (c.l = b.l) := by rw [e]; simp
    obtain ⟨c1, c2⟩ := List.mem_filter.mp hc
    have := bk_eq nd c1 hb (by simpa using c2)
    subst this
    rw [sub_l (at_new (h := h1)), e, List.map_cons, item0, ok_ok]
    exact ⟨c, hb, rfl, rfl, Fk.new⟩
def wkT : Ss := .cons (.asg (.nm 6) (.sub (.lc (.var 8) (.nm 8) (.ex (.sub (.var 0) (.int 2))) (.cons (.cmp .Eq (.sub (.var 8) (.int 0)) (.var 5)) .nil) [8]) (.int 0)))
    (.cons (.asg (.nm 7) (.call "_law_first" (.cons (.var 6) (.cons (.var 2) .nil))))
    (.cons (.ite (.cmp .Eq (.var 7) (.str "use")) (.cons (.ret (.bl true))
    .nil) .nil)
    (.cons (.ite (.cmp .Eq (.var 7) (.str "nothing")) (.cons (.asg (.nm 4) (.bin .Add (.var 4) (.call "_law_ends" (.cons (.var 6) .nil))))
    .nil) .nil)
    .nil)))
def wkB : Ss := .cons (.asg (.nm 5) (.sub (.var 4) (.int 0)))
    (.cons (.asg (.nm 4) (.slc (.var 4) (.some (.int 1)) .none))
    (.cons (.ite (.cmp .NotIn (.var 5) (.var 3)) (.cons (.ex (.mt .append (.var 3) (.cons (.var 5) .nil))) wkT) .nil)
    .nil))
/-- a while that may hand back -/
theorem whl_nr {c : PSt → PH → Out Bool} {b : PSt → PH → SO} (P : PSt → PH → Nat → Prop) (Q : PSt → PH → Prop) (Rr : PV → PH → Prop)
    (step : ∀ s h m, P s h m → (c s h).Ok fun k h1 => if k = true then (b s h1).Nr (fun s' h' => ∃ m', m' < m ∧ P s' h' m') Rr else Q s h1) :
    ∀ (n m : Nat) (s : PSt) (h : PH), m < n → P s h m → (whl c b n s h).Nx Q Rr := by
  intro n
  induction n with
  | zero => intro m s h e; omega
  | succ n ih =>
    intro m s h e p
    unfold whl
    obtain ⟨k, h1, e1, q⟩ := (step s h m p).ex
    rw [e1, sbnd_ok]
    cases k with
    | false => rw [if_neg Bool.false_ne_true] at q ⊢; exact q
    | true =>
      rw [if_pos rfl] at q ⊢
      cases eb : b s h1 with
      | nx s1 h1 => rw [eb] at q; obtain ⟨m', lt, p'⟩ := q; exact ih m' s1 h1 (by omega) p'
      | ct s1 h1 => rw [eb] at q; obtain ⟨m', lt, p'⟩ := q; exact ih m' s1 h1 (by omega) p'
      | bk _ _ => rw [eb] at q; exact q.elim
      | rt _ _ => rw [eb] at q; exact q
      | exc _ _ => rw [eb] at q; exact q.elim
      | bad => rw [eb] at q; exact q.elim
theorem whl_nr' {C : Str → List PV → PH → Out PV} {c : T} {b : Ss} {s : PSt} {h : PH} (P : PSt → PH → Nat → Prop) (Q : PSt → PH → Prop) (Rr : PV → PH → Prop) (m : Nat) (hm : m < big) (p : P s h m)
    (step : ∀ s h m, P s h m → (evT C c s h).Ok fun k h1 => if k = true then (evSs C b s h1).Nr (fun s' h' => ∃ m', m' < m ∧ P s' h' m') Rr else Q s h1) : (whlC C c b s h).Nx Q Rr := whl_nr P Q Rr step big m s h hm p
def QL (bs : List Bk) (v label : Int) (h : PH) (r : PV) (h' : PH) : Prop := ∃ b : Bool, r = .bl b ∧ (b = true ↔ Lv bs v label) ∧ Fk h h'
def PW (bs : List Bk) (v label w np : Int) (h : PH) (s' : PSt) (h' : PH) (m : Nat) : Prop := ∃ (sl rl : Nat) (seen row : List Int) (a5 a6 a7 a8 : Option PV),
  s' = [some (.tup [.int w, .int np, .tup (bs.map Bk.pv)]), some (.int label), some (.int v), some (.ref sl), some (.ref rl), a5, a6, a7, a8] ∧ h.length ≤ sl ∧ sl ≠ rl ∧ h'[sl]? = some (.lst (seen.map PV.int)) ∧ h'[rl]? = some (.lst (row.map PV.int)) ∧ Wk bs v label seen row ∧ Fk h h' ∧ m + 3 * seen.length = 3 * bs.length + row.length ∧ m ≤ 100
theorem nr_nil {C : Str → List PV → PH → Out PV} {o : SO} {N : PSt → PH → Prop} {R : PV → PH → Prop} (e : o.Nr N R) : (o.seq (evSs C .nil)).Nr N R := by
  cases o <;> first | exact e.elim | exact e | (show SO.Nr (evSs C .nil _ _) N R; rw [ss_nil]; exact e)
theorem ends_len : ∀ en : En, (endsOf en).length ≤ 2
  | .ret _ => by simp [endsOf]
  | .go _ => by simp [endsOf]
  | .br _ a b => by by_cases h : a = b <;> simp [endsOf, h]
theorem tail_ok {w np x : Int} {m sl rl : Nat} {seen row : List Int} {a6 a7 a8 : Option PV} {g : PH} (Z : Fine0 bs vars) (hk : 5 ≤ k) (hsl : h.length ≤ sl) (hne : sl ≠ rl) (es : g[sl]? = some (.lst ((seen ++ [x]).map PV.int))) (er : g[rl]? = some (.lst (row.map PV.int)))
    (W : Wk bs v label seen (x :: row)) (cs : x ∉ seen) (nl : seen.length + 1 ≤ bs.length) (nd2 : (seen ++ [x]).Nodup) (F : Fk h g) (em : m + 3 * seen.length = 3 * bs.length + (row.length + 1)) (h100 : m ≤ 100) :
    (evSs (evCall Lw.T k) wkT [some (.tup [.int w, .int np, .tup (bs.map Bk.pv)]), some (.int label), some (.int v), some (.ref sl), some (.ref rl), some (.int x), a6, a7, a8] g).Nr (fun s' h' => ∃ m', m' < m ∧ PW bs v label w np h s' h' m') (QL bs v label h) := by
  have hS : (64000 : Nat) ≤ sizeLine := by decide
  have xl := W.rl x (by simp)
  unfold wkT
  rw [ss_cons, s_asg, sbnd_seq]
  refine Out.Ok.nr (pick_ok Z.nd Z.n xl) fun r h4 ⟨b, hb, eb, er', F4⟩ => ?_
  subst er'
  simp only [evG, sbnd_ok, seq_nx, List.set_cons_succ, List.set_cons_zero]
  simp only [bnd_bnd, bnd_sbnd, sbnd_seq, seq_seq, seqC_ap, ss_cons, ss_nil, s_asg, s_ret, s_ite, s_ex, s_for, s_whl, e_non, e_bl, e_int, e_str, e_var, e_bin, e_neg, e_cmp, e_not, e_tup, e_lst, e_dic0, e_sub, e_call, e_bi, e_mt, kindG_same, e_isi, e_inv, e_lrg, e_lc, e_dc, wipeP, new, evEs, evT, evTs, evP, evI, evG, bnd_ok, sbnd_ok, seq_nx, seq_rt, to_nx, go_nx, go_ct, rt_rt, ok_ok, slot, item0, item1, item2, item3, sub_t, i_int, i_abs, i_lenT, c_eqI, c_neI, c_eqS, c_neS, c_lt, c_le, c_gt, c_ge, asB_bl, iteC_t, iteC_f, iteC_d, b_add, b_sub, b_mul, b_mod, List.getElem?_cons_succ, List.getElem?_cons_zero, List.set_cons_succ, List.set_cons_zero]
  refine Out.Ok.nr (first_ok (v := v) (by omega) (Z.fine b hb) (Z.sk b hb)) fun r h5 ⟨er', F5⟩ => ?_
  subst er'
  have sx : ∀ y, y ∈ seen ++ [x] → y ∈ bs.map Bk.l := fun y hy => (List.mem_append.mp hy).elim (W.sl y) fun z => by
    have : y = x := by simpa using z
    rw [this]; exact xl
  have n1 : ("set" : Str) ≠ "use" := by decide
  have n2 : ("nothing" : Str) ≠ "use" := by decide
  have n3 : ("set" : Str) ≠ "nothing" := by decide
  have f2 := first_le (v := v) (en := b.en) b.ss
  simp only [bnd_bnd, bnd_sbnd, sbnd_seq, seq_seq, seqC_ap, ss_cons, ss_nil, s_asg, s_ret, s_ite, s_ex, s_for, s_whl, e_non, e_bl, e_int, e_str, e_var, e_bin, e_neg, e_cmp, e_not, e_tup, e_lst, e_dic0, e_sub, e_call, e_bi, e_mt, kindG_same, e_isi, e_inv, e_lrg, e_lc, e_dc, wipeP, new, evEs, evT, evTs, evP, evI, evG, bnd_ok, sbnd_ok, seq_nx, seq_rt, to_nx, go_nx, go_ct, rt_rt, ok_ok, slot, item0, item1, item2, item3, sub_t, i_int, i_abs, i_lenT, c_eqI, c_neI, c_eqS, c_neS, c_lt, c_le, c_gt, c_ge, asB_bl, iteC_t, iteC_f, iteC_d, b_add, b_sub, b_mul, b_mod, List.getElem?_cons_succ, List.getElem?_cons_zero, List.set_cons_succ, List.set_cons_zero]
  have ins : ∀ y, (y ∈ seen ∨ y ∈ x :: row) → y ∈ seen ++ [x] ∨ y ∈ row := fun y q => by
    rcases q with q | q
    · exact .inl (List.mem_append_left _ q)
    · rcases List.mem_cons.mp q with rfl | q
      · exact .inl (by simp)
      · exact .inr q
  have only : ∀ c ∈ bs, c.l ∈ seen ++ [x] → c.l ∈ seen ∨ c = b := fun c hc q => by
    rcases List.mem_append.mp q with q | q
    · exact .inl q
    · exact .inr (bk_eq Z.nd hc hb (by have : c.l = x := by simpa using q
                                       rw [this, eb]))
  by_cases c0 : firstS v b.ss b.en = 0
  · rw [c0]
    simp only [fstr, if_true, decide_true, bnd_bnd, bnd_sbnd, sbnd_seq, seq_seq, seqC_ap, ss_cons, ss_nil, s_asg, s_ret, s_ite, s_ex, s_for, s_whl, e_non, e_bl, e_int, e_str, e_var, e_bin, e_neg, e_cmp, e_not, e_tup, e_lst, e_dic0, e_sub, e_call, e_bi, e_mt, kindG_same, e_isi, e_inv, e_lrg, e_lc, e_dc, wipeP, new, evEs, evT, evTs, evP, evI, evG, bnd_ok, sbnd_ok, seq_nx, seq_rt, to_nx, go_nx, go_ct, rt_rt, ok_ok, slot, item0, item1, item2, item3, sub_t, i_int, i_abs, i_lenT, c_eqI, c_neI, c_eqS, c_neS, c_lt, c_le, c_gt, c_ge, asB_bl, iteC_t, iteC_f, iteC_d, b_add, b_sub, b_mul, b_mod]
    refine ⟨true, rfl, ⟨fun _ => ?_, fun _ => rfl⟩, (F.trans F4).trans F5⟩
    refine W.rv x (.inr (by simp)) ?_
    rw [← eb]; exact .use hb c0
  · by_cases c1 : firstS v b.ss b.en = 1
    · rw [c1]
      simp only [fstr, Nat.one_ne_zero, if_false, if_true, n1, n3, decide_false, bnd_bnd, bnd_sbnd, sbnd_seq, seq_seq, seqC_ap, ss_cons, ss_nil, s_asg, s_ret, s_ite, s_ex, s_for, s_whl, e_non, e_bl, e_int, e_str, e_var, e_bin, e_neg, e_cmp, e_not, e_tup, e_lst, e_dic0, e_sub, e_call, e_bi, e_mt, kindG_same, e_isi, e_inv, e_lrg, e_lc, e_dc, wipeP, new, evEs, evT, evTs, evP, evI, evG, bnd_ok, sbnd_ok, seq_nx, seq_rt, to_nx, go_nx, go_ct, rt_rt, ok_ok, slot, item0, item1, item2, item3, sub_t, i_int, i_abs, i_lenT, c_eqI, c_neI, c_eqS, c_neS, c_lt, c_le, c_gt, c_ge, asB_bl, iteC_t, iteC_f, iteC_d, b_add, b_sub, b_mul, b_mod, Bool.false_eq_true]
      refine ⟨m - 4, by omega, sl, rl, seen ++ [x], row, _, _, _, _, rfl, hsl, hne, F5.at (F4.at es), F5.at (F4.at er), ?_, (F.trans F4).trans F5, by rw [List.length_append]; simp only [List.length_cons, List.length_nil]; omega, by omega⟩
      exact ⟨sx, fun y hy => W.rl y (List.mem_cons_of_mem _ hy), nd2, ins _ W.src, fun y q => W.rv y (by
        rcases q with q | q
        · rcases List.mem_append.mp q with q | q
          · exact .inl q
          · exact .inr (by have : y = x := by simpa using q
                           rw [this]; simp)
        · exact .inr (List.mem_cons_of_mem _ q)), fun c hc q => (only c hc q).elim (W.no c hc) fun z => by rw [z]; exact c0,
        fun c hc q q1 y hy => (only c hc q).elim (fun z => ins y (W.cl c hc z q1 y hy)) fun z => by rw [z] at q1; exact absurd c1 q1⟩
    · have c2 : firstS v b.ss b.en = 2 := by omega
      rw [c2]
      simp only [fstr, show (2 : Nat) ≠ 0 by decide, show (2 : Nat) ≠ 1 by decide, if_false, n2, decide_false, decide_true, bnd_bnd, bnd_sbnd, sbnd_seq, seq_seq, seqC_ap, ss_cons, ss_nil, s_asg, s_ret, s_ite, s_ex, s_for, s_whl, e_non, e_bl, e_int, e_str, e_var, e_bin, e_neg, e_cmp, e_not, e_tup, e_lst, e_dic0, e_sub, e_call, e_bi, e_mt, kindG_same, e_isi, e_inv, e_lrg, e_lc, e_dc, wipeP, new, evEs, evT, evTs, evP, evI, evG, bnd_ok, sbnd_ok, seq_nx, seq_rt, to_nx, go_nx, go_ct, rt_rt, ok_ok, slot, item0, item1, item2, item3, sub_t, i_int, i_abs, i_lenT, c_eqI, c_neI, c_eqS, c_neS, c_lt, c_le, c_gt, c_ge, asB_bl, iteC_t, iteC_f, iteC_d, b_add, b_sub, b_mul, b_mod, Bool.false_eq_true, if_true, List.getElem?_cons_succ, List.getElem?_cons_zero, List.set_cons_succ, List.set_cons_zero]
      refine Out.Ok.nr (ends_ok b (by omega)) fun r h6 ⟨l, er', hl, el, F6⟩ => ?_
      subst er'
      have le2 := ends_len b.en
      simp only [add_l (F6.at (F5.at (F4.at er))) el (by rw [List.length_map, List.length_map]; omega), sbnd_ok, bnd_bnd, bnd_sbnd, sbnd_seq, seq_seq, seqC_ap, ss_cons, ss_nil, s_asg, s_ret, s_ite, s_ex, s_for, s_whl, e_non, e_bl, e_int, e_str, e_var, e_bin, e_neg, e_cmp, e_not, e_tup, e_lst, e_dic0, e_sub, e_call, e_bi, e_mt, kindG_same, e_isi, e_inv, e_lrg, e_lc, e_dc, wipeP, new, evEs, evT, evTs, evP, evI, evG, bnd_ok, sbnd_ok, seq_nx, seq_rt, to_nx, go_nx, go_ct, rt_rt, ok_ok, slot, item0, item1, item2, item3, sub_t, i_int, i_abs, i_lenT, c_eqI, c_neI, c_eqS, c_neS, c_lt, c_le, c_gt, c_ge, asB_bl, iteC_t, iteC_f, iteC_d, b_add, b_sub, b_mul, b_mod, List.set_cons_succ, List.set_cons_zero]
      refine ⟨3 * bs.length + (row.length + (endsOf b.en).length) - 3 * (seen.length + 1), by omega, sl, h6.length, seen ++ [x], row ++ endsOf b.en, _, _, _, _, rfl, hsl, ?_, Fk.new.at (F6.at (F5.at (F4.at es))), by rw [at_new, List.map_append], ?_, (((F.trans F4).trans F5).trans F6).trans Fk.new, by rw [List.length_append, List.length_append]; simp only [List.length_cons, List.length_nil]; omega, by omega⟩
      · have := lt_of_some (F6.at (F5.at (F4.at es))); omega
      · have up : ∀ y, y ∈ seen ++ [x] ∨ y ∈ row → y ∈ seen ++ [x] ∨ y ∈ row ++ endsOf b.en := fun y q => q.imp id (List.mem_append_left _)
        refine ⟨sx, fun y hy => (List.mem_append.mp hy).elim (fun z => W.rl y (List.mem_cons_of_mem _ z)) (Z.ends b hb y), nd2, up _ (ins _ W.src), fun y q => ?_, fun c hc q => (only c hc q).elim (W.no c hc) fun z => by rw [z]; exact c0, fun c hc q q1 y hy => (only c hc q).elim (fun z => up y (ins y (W.cl c hc z q1 y hy))) fun z => ?_⟩
        · rcases q with q | q
          · rcases List.mem_append.mp q with q | q
            · exact W.rv y (.inl q)
            · exact W.rv y (.inr (by have : y = x := by simpa using q
                                     rw [this]; simp))
          · rcases List.mem_append.mp q with q | q
            · exact W.rv y (.inr (List.mem_cons_of_mem _ q))
            · intro hy
              refine W.rv x (.inr (by simp)) ?_
              rw [← eb]; exact .step hb c1 q hy
        · rw [z] at hy; exact .inr (List.mem_append_right _ hy)
theorem turn_ok {w np : Int} {m : Nat} {s' : PSt} {h' : PH} (Z : Fine0 bs vars) (hk : 5 ≤ k) (p : PW bs v label w np h s' h' m) :
    (evT (evCall Lw.T k) (.cmp .NotEq (.var 4) (.lst .nil)) s' h').Ok fun c h1 => if c = true then (evSs (evCall Lw.T k) wkB s' h1).Nr (fun s' h' => ∃ m', m' < m ∧ PW bs v label w np h s' h' m') (QL bs v label h) else ¬Lv bs v label ∧ Fk h h1 := by
  obtain ⟨sl, rl, seen, row, a5, a6, a7, a8, es, hsl, hne, es1, er1, W, F, em, h100⟩ := p
  subst es
  have hS : (64 : Nat) ≤ sizeLine := by decide
  have q0 : 0 ≤ sizeLine := Nat.zero_le _
  have n6 := Z.n
  have nls := len_sub W.nd W.sl
  rw [List.length_map] at nls
  have e0 : (h' ++ [PO.lst []])[rl]? = some (.lst (row.map PV.int)) := Fk.new.at er1
  have ec := c_ne (eq_ints (xs := row) (ys := []) e0 (at_new (h := h')))
  simp only [bnd_bnd, bnd_sbnd, sbnd_seq, seq_seq, seqC_ap, ss_cons, ss_nil, s_asg, s_ret, s_ite, s_ex, s_for, s_whl, e_non, e_bl, e_int, e_str, e_var, e_bin, e_neg, e_cmp, e_not, e_tup, e_lst, e_dic0, e_sub, e_call, e_bi, e_mt, kindG_same, e_isi, e_inv, e_lrg, e_lc, e_dc, wipeP, new, evEs, evT, evTs, evP, evI, evG, bnd_ok, sbnd_ok, seq_nx, seq_rt, to_nx, go_nx, go_ct, rt_rt, ok_ok, slot, item0, item1, item2, item3, sub_t, i_int, i_abs, i_lenT, c_eqI, c_neI, c_eqS, c_neS, c_lt, c_le, c_gt, c_ge, asB_bl, iteC_t, iteC_f, iteC_d, b_add, b_sub, b_mul, b_mod, List.length_nil, q0, if_true, List.getElem?_cons_succ, List.getElem?_cons_zero, ec]
  cases row with
  | nil =>
    simp only [decide_true, Bool.not_true, Bool.false_eq_true, if_false]
    exact ⟨W.none Z.nd, F.trans Fk.new⟩
  | cons x row =>
    rw [show (decide (x :: row = [])) = false from decide_eq_false (by simp)]
    simp only [Bool.not_false, if_true]
    have F1 : Fk h (h' ++ [PO.lst []]) := F.trans Fk.new
    have es1 : (h' ++ [PO.lst []])[sl]? = some (.lst (seen.map PV.int)) := Fk.new.at es1
    generalize h' ++ [PO.lst []] = g at F1 e0 es1 ⊢
    have xl := W.rl x (by simp)
    have c1 : cutP ((x :: row).map PV.int) (some 1) none = row.map PV.int := by rw [cut_from (α := PV) (show (0 : Int) ≤ 1 by decide)]; rfl
    have i0 : ∀ hh, itemF ((x :: row).map PV.int) (.int 0) hh = ok (.int x) hh := fun hh => item0
    unfold wkB
    simp only [bnd_bnd, bnd_sbnd, sbnd_seq, seq_seq, seqC_ap, ss_cons, ss_nil, s_asg, s_ret, s_ite, s_ex, s_for, s_whl, e_non, e_bl, e_int, e_str, e_var, e_bin, e_neg, e_cmp, e_not, e_tup, e_lst, e_dic0, e_sub, e_call, e_bi, e_mt, kindG_same, e_isi, e_inv, e_lrg, e_lc, e_dc, wipeP, new, evEs, evT, evTs, evP, evI, evG, bnd_ok, sbnd_ok, seq_nx, seq_rt, to_nx, go_nx, go_ct, rt_rt, ok_ok, slot, item0, item1, item2, item3, sub_t, i_int, i_abs, i_lenT, c_eqI, c_neI, c_eqS, c_neS, c_lt, c_le, c_gt, c_ge, asB_bl, iteC_t, iteC_f, iteC_d, b_add, b_sub, b_mul, b_mod, List.getElem?_cons_succ, List.getElem?_cons_zero, List.set_cons_succ, List.set_cons_zero, sub_l e0, i0, e_slice, slc_l e0, c1]
    have F2 : Fk h (g ++ [PO.lst (row.map PV.int)]) := F1.trans Fk.new
    have es2 : (g ++ [PO.lst (row.map PV.int)])[sl]? = some (.lst (seen.map PV.int)) := Fk.new.at es1
    have er2 : (g ++ [PO.lst (row.map PV.int)])[g.length]? = some (.lst (row.map PV.int)) := at_new
    have hne2 : sl ≠ g.length := by have := lt_of_some es1; omega
    generalize g ++ [PO.lst (row.map PV.int)] = g2 at F2 es2 er2 ⊢
    generalize g.length = rl2 at er2 hne2 ⊢
    simp only [cNotIn (in_ints (v := x) es2), bnd_bnd, bnd_sbnd, sbnd_seq, seq_seq, seqC_ap, ss_cons, ss_nil, s_asg, s_ret, s_ite, s_ex, s_for, s_whl, e_non, e_bl, e_int, e_str, e_var, e_bin, e_neg, e_cmp, e_not, e_tup, e_lst, e_dic0, e_sub, e_call, e_bi, e_mt, kindG_same, e_isi, e_inv, e_lrg, e_lc, e_dc, wipeP, new, evEs, evT, evTs, evP, evI, evG, bnd_ok, sbnd_ok, seq_nx, seq_rt, to_nx, go_nx, go_ct, rt_rt, ok_ok, slot, item0, item1, item2, item3, sub_t, i_int, i_abs, i_lenT, c_eqI, c_neI, c_eqS, c_neS, c_lt, c_le, c_gt, c_ge, asB_bl, iteC_t, iteC_f, iteC_d, b_add, b_sub, b_mul, b_mod]
    by_cases cs : x ∈ seen
    · simp only [cs, decide_true, Bool.not_true, bnd_bnd, bnd_sbnd, sbnd_seq, seq_seq, seqC_ap, ss_cons, ss_nil, s_asg, s_ret, s_ite, s_ex, s_for, s_whl, e_non, e_bl, e_int, e_str, e_var, e_bin, e_neg, e_cmp, e_not, e_tup, e_lst, e_dic0, e_sub, e_call, e_bi, e_mt, kindG_same, e_isi, e_inv, e_lrg, e_lc, e_dc, wipeP, new, evEs, evT, evTs, evP, evI, evG, bnd_ok, sbnd_ok, seq_nx, seq_rt, to_nx, go_nx, go_ct, rt_rt, ok_ok, slot, item0, item1, item2, item3, sub_t, i_int, i_abs, i_lenT, c_eqI, c_neI, c_eqS, c_neS, c_lt, c_le, c_gt, c_ge, asB_bl, iteC_t, iteC_f, iteC_d, b_add, b_sub, b_mul, b_mod]
      refine ⟨m - 1, by simp only [List.length_cons] at em; omega, sl, rl2, seen, row, _, _, _, _, rfl, hsl, hne2, es2, er2, ?_, F2, by simp only [List.length_cons] at em; omega, by omega⟩
      have sh : ∀ y, (y ∈ seen ∨ y ∈ x :: row) → y ∈ seen ∨ y ∈ row := fun y q => q.elim .inl fun z => (List.mem_cons.mp z).elim (fun z => .inl (z ▸ cs)) .inr
      exact ⟨W.sl, fun y hy => W.rl y (List.mem_cons_of_mem _ hy), W.nd, sh _ W.src, fun y q => W.rv y (q.imp id (List.mem_cons_of_mem _)), W.no, fun b hb q1 q2 y hy => sh y (W.cl b hb q1 q2 y hy)⟩
    · have nd2 : (seen ++ [x]).Nodup := List.nodup_append.mpr ⟨W.nd, by simp, fun a ha b hb z => cs (by
        have : b = x := by simpa using hb
        rw [← this, ← z]; exact ha)⟩
      have nl2 := len_sub nd2 (m := bs.map Bk.l) fun y hy => (List.mem_append.mp hy).elim (W.sl y) fun z => by
        have : y = x := by simpa using z
        rw [this]; exact xl
      rw [List.length_map, List.length_append] at nl2
      simp only [List.length_cons, List.length_nil] at nl2
      have ap : mtF .append (.ref sl) [.int x] g2 = ok .non (g2.set sl (.lst (seen.map PV.int ++ [.int x]))) := by
        simp only [mtF, es2, lstM]
        rw [if_pos (by rw [List.length_map]; omega)]
      simp only [cs, decide_false, Bool.not_false, bnd_bnd, bnd_sbnd, sbnd_seq, seq_seq, seqC_ap, ss_cons, ss_nil, s_asg, s_ret, s_ite, s_ex, s_for, s_whl, e_non, e_bl, e_int, e_str, e_var, e_bin, e_neg, e_cmp, e_not, e_tup, e_lst, e_dic0, e_sub, e_call, e_bi, e_mt, kindG_same, e_isi, e_inv, e_lrg, e_lc, e_dc, wipeP, new, evEs, evT, evTs, evP, evI, evG, bnd_ok, sbnd_ok, seq_nx, seq_rt, to_nx, go_nx, go_ct, rt_rt, ok_ok, slot, item0, item1, item2, item3, sub_t, i_int, i_abs, i_lenT, c_eqI, c_neI, c_eqS, c_neS, c_lt, c_le, c_gt, c_ge, asB_bl, iteC_t, iteC_f, iteC_d, b_add, b_sub, b_mul, b_mod, List.getElem?_cons_succ, List.getElem?_cons_zero, ap]
      have F3 : Fk h (g2.set sl (.lst (seen.map PV.int ++ [.int x]))) := fk_set F2 hsl
      have es3 : (g2.set sl (.lst (seen.map PV.int ++ [.int x])))[sl]? = some (.lst ((seen ++ [x]).map PV.int)) := by rw [List.getElem?_set_self (lt_of_some es2), List.map_append]; rfl
      have er3 : (g2.set sl (.lst (seen.map PV.int ++ [.int x])))[rl2]? = some (.lst (row.map PV.int)) := by rw [List.getElem?_set_ne hne2]; exact er2
      generalize g2.set sl (.lst (seen.map PV.int ++ [.int x])) = g3 at F3 es3 er3 ⊢
      have := tail_ok (w := w) (np := np) (m := m) (a6 := a6) (a7 := a7) (a8 := a8) Z hk hsl hne2 es3 er3 W cs nl2 nd2 F3 (by simpa using em) h100
      exact nr_nil this
theorem islive_ok {w np : Int} (Z : Fine0 bs vars) (hk : 6 ≤ k) (hl : label ∈ bs.map Bk.l) : (evCall Lw.T k "_law_is_live" [.tup [.int w, .int np, .tup (bs.map Bk.pv)], .int label, .int v] h).Ok (QL bs v label h) := by
  obtain ⟨k, rfl⟩ : ∃ j, k = j + 1 := ⟨k - 1, by omega⟩
  have hS : (64 : Nat) ≤ sizeLine := by decide
  have q0 : 0 ≤ sizeLine := Nat.zero_le _
  have q1 : 1 ≤ sizeLine := by omega
  have n6 := Z.n
  refine call_ok Lw.T__law_is_live rfl (by decide) ?_
  show (evSs (evCall Lw.T k) (.cons (.asg (.nm 3) (.lst .nil)) (.cons (.asg (.nm 4) (.lst (.cons (.var 1) .nil))) (.cons (.whl (.cmp .NotEq (.var 4) (.lst .nil)) wkB) (.cons (.ret (.bl false)) .nil)))) [some (.tup [.int w, .int np, .tup (bs.map Bk.pv)]), some (.int label), some (.int v), none, none, none, none, none, none] h).Rt _
  simp only [bnd_bnd, bnd_sbnd, sbnd_seq, seq_seq, seqC_ap, ss_cons, ss_nil, s_asg, s_ret, s_ite, s_ex, s_for, s_whl, e_non, e_bl, e_int, e_str, e_var, e_bin, e_neg, e_cmp, e_not, e_tup, e_lst, e_dic0, e_sub, e_call, e_bi, e_mt, kindG_same, e_isi, e_inv, e_lrg, e_lc, e_dc, wipeP, new, evEs, evT, evTs, evP, evI, evG, bnd_ok, sbnd_ok, seq_nx, seq_rt, to_nx, go_nx, go_ct, rt_rt, ok_ok, slot, item0, item1, item2, item3, sub_t, i_int, i_abs, i_lenT, c_eqI, c_neI, c_eqS, c_neS, c_lt, c_le, c_gt, c_ge, asB_bl, iteC_t, iteC_f, iteC_d, b_add, b_sub, b_mul, b_mod, List.length_cons, List.length_nil, q0, q1, if_true, List.getElem?_cons_succ, List.getElem?_cons_zero, List.set_cons_succ, List.set_cons_zero]
  have F0 : Fk h (h ++ [PO.lst []] ++ [PO.lst [PV.int label]]) := Fk.new.trans Fk.new
  refine SO.Nx.rt (whl_nr' (PW bs v label w np h) (fun _ h1 => ¬Lv bs v label ∧ Fk h h1) (QL bs v label h) (3 * bs.length + 1) (Nat.lt_of_le_of_lt (show 3 * bs.length + 1 ≤ 100 by omega) (by decide))
    ⟨h.length, h.length + 1, [], [label], none, none, none, none, by simp, Nat.le_refl _, by omega, by simp, by simp, ⟨by simp, by simpa using hl, List.nodup_nil, .inr (by simp), fun x q => (by simp at q; rw [q]; exact id), fun _ _ q => (by simp at q), fun _ _ q => (by simp at q)⟩, F0, by simp, by omega⟩
    fun s' h' m p => turn_ok Z (by omega) p) fun s' h1 ⟨n, F⟩ => ?_
  simp only [bnd_bnd, bnd_sbnd, sbnd_seq, seq_seq, seqC_ap, ss_cons, ss_nil, s_asg, s_ret, s_ite, s_ex, s_for, s_whl, e_non, e_bl, e_int, e_str, e_var, e_bin, e_neg, e_cmp, e_not, e_tup, e_lst, e_dic0, e_sub, e_call, e_bi, e_mt, kindG_same, e_isi, e_inv, e_lrg, e_lc, e_dc, wipeP, new, evEs, evT, evTs, evP, evI, evG, bnd_ok, sbnd_ok, seq_nx, seq_rt, to_nx, go_nx, go_ct, rt_rt, ok_ok, slot, item0, item1, item2, item3, sub_t, i_int, i_abs, i_lenT, c_eqI, c_neI, c_eqS, c_neS, c_lt, c_le, c_gt, c_ge, asB_bl, iteC_t, iteC_f, iteC_d, b_add, b_sub, b_mul, b_mod]
  exact ⟨false, rfl, ⟨(fun z => by cases z), fun z => absurd z n⟩, F⟩
end
end K04

set_option Elab.async false
set_option linter.all false
set_option maxRecDepth 100000
set_option maxHeartbeats 4000000
namespace K04
open PySem MP
open Out (ok bad)
/-! ### the law -/
def itPv : Sm ⊕ En → PV
  | .inl s => s.pv
  | .inr e => e.pv
def itOp : Sm ⊕ En → Str
  | .inl (.set _ _) => "set"
  | .inl (.write _) => "write"
  | .inl (.store _ _) => "store"
  | .inr (.ret _) => "return"
  | .inr (.go _) => "go"
  | .inr (.br _ _ _) => "if"
def itArgs : Sm ⊕ En → List (Int ⊕ X)
  | .inl (.set v e) => [.inl v, .inr e]
  | .inl (.write e) => [.inr e]
  | .inl (.store a b) => [.inr a, .inr b]
  | .inr (.ret e) => [.inr e]
  | .inr (.go l) => [.inl l]
  | .inr (.br e a b) => [.inr e, .inl a, .inl b]
theorem it_eq : ∀ i, itPv i = .tup (.str (itOp i) :: (itArgs i).map argPv)
  | .inl (.set _ _) => rfl
  | .inl (.write _) => rfl
  | .inl (.store _ _) => rfl
  | .inr (.ret _) => rfl
  | .inr (.go _) => rfl
  | .inr (.br _ _ _) => rfl
theorem it_len : ∀ i, (itArgs i).length ≤ 3
  | .inl (.set _ _) => by simp [itArgs]
  | .inl (.write _) => by simp [itArgs]
  | .inl (.store _ _) => by simp [itArgs]
  | .inr (.ret _) => by simp [itArgs]
  | .inr (.go _) => by simp [itArgs]
  | .inr (.br _ _ _) => by simp [itArgs]
def items (b : Bk) : List (Sm ⊕ En) := b.ss.map .inl ++ [.inr b.en]
theorem items_fine {b : Bk} {vars : List Int} (f : FineB vars b) : ∀ i ∈ items b, ∀ e, .inr e ∈ itArgs i → Fine vars e := by
  intro i hi e he
  rcases List.mem_append.mp hi with q | q
  · obtain ⟨s, hs, rfl⟩ := List.mem_map.mp q
    have := (f.ss s hs).1 e
    cases s <;> simp [itArgs, partsS] at he this ⊢ <;> first | exact this he | (subst he; exact this)
  · have : i = .inr b.en := by simpa using q
    subst this
    have := f.en e
    revert this he
    cases b.en <;> simp [itArgs, partsE] <;> intro he this <;> first | exact this he | (subst he; exact this)
/-- a name that is read first in a block stands in one of its items -/
theorem first_item {b : Bk} {v : Int} (h : firstS v b.ss b.en = 0) : ∃ i ∈ items b, ∃ e, .inr e ∈ itArgs i ∧ v ∈ names e := by
  have key : ∀ ss : List Sm, firstS v ss b.en = 0 → (∃ s ∈ ss, ∃ e ∈ partsS s, v ∈ names e) ∨ ∃ e ∈ partsE b.en, v ∈ names e := by
    intro ss
    induction ss with
    | nil =>
      intro h; rw [firstS_nil] at h
      split at h
      · rename_i c; exact .inr c
      · cases h
    | cons s r ih =>
      intro h; rw [firstS_cons] at h
      split at h
      · rename_i c; exact .inl ⟨s, by simp, c⟩
      · split at h
        · cases h
        · exact (ih h).imp (fun ⟨s, hs, q⟩ => ⟨s, List.mem_cons_of_mem _ hs, q⟩) id
  rcases key b.ss h with ⟨s, hs, e, he, hv⟩ | ⟨e, he, hv⟩
  · refine ⟨.inl s, List.mem_append_left _ (List.mem_map.mpr ⟨s, hs, rfl⟩), e, ?_, hv⟩
    cases s <;> simp [itArgs, partsS] at he ⊢ <;> exact he
  · refine ⟨.inr b.en, List.mem_append_right _ (by simp), e, ?_, hv⟩
    revert he
    cases b.en <;> simp [itArgs, partsE] <;> exact fun he => he
section
variable {bs : List Bk} {h h0 : PH} {b c : Bk} {vars : List Int} {k : Nat} {v label : Int}
structure Ev (h0 h : PH) (r : Nat) (E : List Int) (n : Nat) (D : X → Prop) : Prop where
  at_ : h[r]? = some (.lst (E.map PV.int))
  F : Fk h0 h
  len : E.length ≤ n
  all : ∀ e, D e → ∀ v ∈ names e, v ∈ E
def selE : E := .lc (.sub (.var 7) (.var 10)) (.nm 10) (.rng (.cons (.bi .len (.cons (.var 7) .nil)) .nil)) (.cons (.or (.cmp .Eq (.var 10) (.int 0)) (.cmp .NotEq (.sub (.var 7) (.var 10)) (.sub (.var 7) (.bin .Sub (.var 10) (.int 1))))) .nil) [10]
theorem sel_len (N : List Int) : ∀ i, (sel N i).length ≤ i
  | 0 => by simp [sel]
  | i + 1 => by
    have := sel_len N i
    unfold sel
    split
    · split
      · rw [List.length_append]; simp; omega
      · omega
    · omega
theorem small_len {N : List Int} (hz : N.length ≤ 60) : small (N.length : Int) = true := decide_eq_true ⟨by omega, by omega⟩
theorem rng_ev {C : Str → List PV → PH → Out PV} {es : Es} {s : PSt} {n : Int} (e : evEs C es s h = ok [.int n] h) (sm : small n = true) : evI C (.rng es) s h = ok (.vals (rngI 0 n.toNat)) h := by
  unfold evI
  rw [e, bnd_ok]
  simp only [sm, if_true]
theorem sel_ok {C : Str → List PV → PH → Out PV} {a0 a1 a2 a3 a4 a5 a6 a8 a9 a10 a11 : Option PV} {l : Nat} {N : List Int} (hl : h[l]? = some (.lst (N.map PV.int))) (hz : N.length ≤ 60) :
    (evE C selE [a0, a1, a2, a3, a4, a5, a6, some (.ref l), a8, a9, a10, a11] h).Ok fun v h' => v = .ref h.length ∧ h' = h ++ [.lst ((sel N N.length).map PV.int)] := by
  have hS : (64 : Nat) ≤ sizeLine := by decide
  have sn : small (N.length : Int) = true := small_len hz
  unfold selE
  have e0 : evEs C (.cons (.bi .len (.cons (.var 7) .nil)) .nil) [a0, a1, a2, a3, a4, a5, a6, some (.ref l), a8, a9, a10, a11] h = ok [.int (N.length : Int)] h := by
    simp only [evEs, e_bi, e_var, slot, List.getElem?_cons_succ, List.getElem?_cons_zero, bnd_ok, bnd_bnd, i_lenL hl, List.length_map]
  rw [e_lc, rng_ev e0 sn, bnd_ok]
  refine Out.Ok.bnd (each_vals (fun i acc h' => acc = (sel N i).map PV.int ∧ h' = h) ⟨rfl, rfl⟩ fun i x acc h1 hx ⟨ea, eh⟩ => ?_) fun acc h1 ⟨ea, eh⟩ => ?_
  · subst ea eh
    obtain ⟨hi, rfl⟩ := rng_at hx
    rw [Int.toNat_natCast] at hi
    simp only [Int.zero_add] at hx ⊢
    have hN : N[i]? = some N[i] := List.getElem?_eq_getElem hi
    simp only [wipeP, List.set_cons_succ, List.set_cons_zero]
    have e1 : ∀ hh, itemF (N.map PV.int) (.int i) hh = ok (.int N[i]) hh := fun hh => itemF_at (by omega) (by rw [Int.toNat_natCast, List.getElem?_map, hN]; rfl)
    have sl := sel_len N i
    unfold lcC
    simp only [bnd_bnd, bnd_sbnd, sbnd_seq, seq_seq, seqC_ap, ss_cons, ss_nil, s_asg, s_ret, s_ite, s_ex, s_for, s_whl, e_non, e_bl, e_int, e_str, e_var, e_bin, e_neg, e_cmp, e_not, e_tup, e_lst, e_dic0, e_sub, e_call, e_bi, e_mt, kindG_same, e_isi, e_inv, e_lrg, e_lc, e_dc, wipeP, new, evEs, evT, evTs, evP, evI, evG, bnd_ok, sbnd_ok, seq_nx, seq_rt, to_nx, go_nx, go_ct, rt_rt, ok_ok, slot, item0, item1, item2, item3, sub_t, i_int, i_abs, i_lenT, c_eqI, c_neI, c_eqS, c_neS, c_lt, c_le, c_gt, c_ge, asB_bl, iteC_t, iteC_f, iteC_d, b_add, b_sub, b_mul, b_mod, List.getElem?_cons_succ, List.getElem?_cons_zero, List.set_cons_succ, List.set_cons_zero]
    have es : sel N (i + 1) = if i = 0 ∨ N[i - 1]? ≠ some N[i] then sel N i ++ [N[i]] else sel N i := by
      conv => lhs; unfold sel
      simp only [hN]
    by_cases i0 : i = 0
    · have es1 : sel N (i + 1) = sel N i ++ [N[i]] := by rw [es, if_pos (.inl i0)]
      have iz : decide ((i : Int) = 0) = true := decide_eq_true (by omega)
      simp only [iz, if_true, bnd_bnd, bnd_sbnd, sbnd_seq, seq_seq, seqC_ap, ss_cons, ss_nil, s_asg, s_ret, s_ite, s_ex, s_for, s_whl, e_non, e_bl, e_int, e_str, e_var, e_bin, e_neg, e_cmp, e_not, e_tup, e_lst, e_dic0, e_sub, e_call, e_bi, e_mt, kindG_same, e_isi, e_inv, e_lrg, e_lc, e_dc, wipeP, new, evEs, evT, evTs, evP, evI, evG, bnd_ok, sbnd_ok, seq_nx, seq_rt, to_nx, go_nx, go_ct, rt_rt, ok_ok, slot, item0, item1, item2, item3, sub_t, i_int, i_abs, i_lenT, c_eqI, c_neI, c_eqS, c_neS, c_lt, c_le, c_gt, c_ge, asB_bl, iteC_t, iteC_f, iteC_d, b_add, b_sub, b_mul, b_mod, List.getElem?_cons_succ, List.getElem?_cons_zero, sub_l hl, e1, List.length_map]
      rw [if_pos (by omega), ok_ok, es1, List.map_append]
      exact ⟨rfl, rfl⟩
    · have hN1 : N[i - 1]? = some N[i - 1] := List.getElem?_eq_getElem (by omega)
      have e2 : ∀ hh, itemF (N.map PV.int) (.int (i - 1)) hh = ok (.int N[i - 1]) hh := fun hh => itemF_at (by omega) (by rw [show ((i : Int) - 1).toNat = i - 1 by omega, List.getElem?_map, hN1]; rfl)
      rw [show decide ((i : Int) = 0) = false from decide_eq_false (by omega)]
      simp only [Bool.false_eq_true, if_false, bnd_bnd, bnd_sbnd, sbnd_seq, seq_seq, seqC_ap, ss_cons, ss_nil, s_asg, s_ret, s_ite, s_ex, s_for, s_whl, e_non, e_bl, e_int, e_str, e_var, e_bin, e_neg, e_cmp, e_not, e_tup, e_lst, e_dic0, e_sub, e_call, e_bi, e_mt, kindG_same, e_isi, e_inv, e_lrg, e_lc, e_dc, wipeP, new, evEs, evT, evTs, evP, evI, evG, bnd_ok, sbnd_ok, seq_nx, seq_rt, to_nx, go_nx, go_ct, rt_rt, ok_ok, slot, item0, item1, item2, item3, sub_t, i_int, i_abs, i_lenT, c_eqI, c_neI, c_eqS, c_neS, c_lt, c_le, c_gt, c_ge, asB_bl, iteC_t, iteC_f, iteC_d, b_add, b_sub, b_mul, b_mod, List.getElem?_cons_succ, List.getElem?_cons_zero, sub_l hl, e1, e2]
      by_cases c : N[i] = N[i - 1]
      · have es1 : sel N (i + 1) = sel N i := by rw [es, if_neg (by rw [hN1, c]; simp [i0])]
        have dc : decide (N[i] = N[i - 1]) = true := decide_eq_true c
        rw [es1]
        simp only [dc, Bool.not_true, Bool.false_eq_true, if_false, bnd_bnd, bnd_sbnd, sbnd_seq, seq_seq, seqC_ap, ss_cons, ss_nil, s_asg, s_ret, s_ite, s_ex, s_for, s_whl, e_non, e_bl, e_int, e_str, e_var, e_bin, e_neg, e_cmp, e_not, e_tup, e_lst, e_dic0, e_sub, e_call, e_bi, e_mt, kindG_same, e_isi, e_inv, e_lrg, e_lc, e_dc, wipeP, new, evEs, evT, evTs, evP, evI, evG, bnd_ok, sbnd_ok, seq_nx, seq_rt, to_nx, go_nx, go_ct, rt_rt, ok_ok, slot, item0, item1, item2, item3, sub_t, i_int, i_abs, i_lenT, c_eqI, c_neI, c_eqS, c_neS, c_lt, c_le, c_gt, c_ge, asB_bl, iteC_t, iteC_f, iteC_d, b_add, b_sub, b_mul, b_mod]
        exact ⟨trivial, trivial⟩
      · have es1 : sel N (i + 1) = sel N i ++ [N[i]] := by rw [es, if_pos (.inr (by rw [hN1]; simpa using fun z => c z.symm))]
        have dc : decide (N[i] = N[i - 1]) = false := decide_eq_false c
        simp only [dc, Bool.not_false, if_true, bnd_bnd, bnd_sbnd, sbnd_seq, seq_seq, seqC_ap, ss_cons, ss_nil, s_asg, s_ret, s_ite, s_ex, s_for, s_whl, e_non, e_bl, e_int, e_str, e_var, e_bin, e_neg, e_cmp, e_not, e_tup, e_lst, e_dic0, e_sub, e_call, e_bi, e_mt, kindG_same, e_isi, e_inv, e_lrg, e_lc, e_dc, wipeP, new, evEs, evT, evTs, evP, evI, evG, bnd_ok, sbnd_ok, seq_nx, seq_rt, to_nx, go_nx, go_ct, rt_rt, ok_ok, slot, item0, item1, item2, item3, sub_t, i_int, i_abs, i_lenT, c_eqI, c_neI, c_eqS, c_neS, c_lt, c_le, c_gt, c_ge, asB_bl, iteC_t, iteC_f, iteC_d, b_add, b_sub, b_mul, b_mod, List.getElem?_cons_succ, List.getElem?_cons_zero, sub_l hl, e1, List.length_map]
        rw [if_pos (by omega), ok_ok, es1, List.map_append]
        exact ⟨rfl, rfl⟩
  · subst ea eh
    rw [rng_len, Int.toNat_natCast]
    exact ⟨rfl, rfl⟩
def bodyP : Ss := .cons (.ite (.e (.isi .tuple (.var 6))) (.cons (.asg (.nm 7) (.bi .sorted (.cons (.call "_law_names" (.cons (.var 6) .nil)) .nil)))
    (.cons (.ite (.cmp .NotEq (.call "uses" (.cons (.var 6) .nil)) (.bi .tuple (.cons selE .nil))) (.cons (.ret (.bl false))
    .nil) .nil)
    (.cons (.asg (.nm 3) (.bin .Add (.var 3) (.var 7)))
    .nil))) .nil)
    .nil
theorem part_ok {a0 a1 a2 a4 a5 a7 a8 a9 a10 a11 : Option PV} {x : Int ⊕ X} {r n : Nat} {E : List Int} {D : X → Prop} (hk : 6 ≤ k) (f : ∀ e, x = .inr e → Fine vars e) (V : Ev h0 h r E n D) (hn : n ≤ 1000) :
    (evSs (evCall Lw.T k) bodyP [a0, a1, a2, some (.ref r), a4, a5, some (argPv x), a7, a8, a9, a10, a11] h).To fun s' h' => ∃ r E a7, s' = [a0, a1, a2, some (.ref r), a4, a5, some (argPv x), a7, a8, a9, a10, a11] ∧ Ev h0 h' r E (n + 4) (fun e => D e ∨ x = .inr e) := by
  have hS : (64000 : Nat) ≤ sizeLine := by decide
  unfold bodyP
  cases x with
  | inl i =>
    simp only [argPv, bnd_bnd, bnd_sbnd, sbnd_seq, seq_seq, seqC_ap, ss_cons, ss_nil, s_asg, s_ret, s_ite, s_ex, s_for, s_whl, e_non, e_bl, e_int, e_str, e_var, e_bin, e_neg, e_cmp, e_not, e_tup, e_lst, e_dic0, e_sub, e_call, e_bi, e_mt, kindG_same, e_isi, e_inv, e_lrg, e_lc, e_dc, wipeP, new, evEs, evT, evTs, evP, evI, evG, bnd_ok, sbnd_ok, seq_nx, seq_rt, to_nx, go_nx, go_ct, rt_rt, ok_ok, slot, item0, item1, item2, item3, sub_t, i_int, i_abs, i_lenT, c_eqI, c_neI, c_eqS, c_neS, c_lt, c_le, c_gt, c_ge, asB_bl, iteC_t, iteC_f, iteC_d, b_add, b_sub, b_mul, b_mod, List.getElem?_cons_succ, List.getElem?_cons_zero, isi_int, truth]
    exact ⟨r, E, a7, rfl, V.at_, V.F, by have := V.len; omega, fun e q => q.elim (V.all e) fun z => by cases z⟩
  | inr e =>
    obtain ⟨xs, hxs⟩ := X.isTup e
    have eis : isiF .tuple e.pv h = ok (.bl true) h := by rw [hxs]; exact isi_tup
    have fe := f e rfl
    simp only [argPv, bnd_bnd, bnd_sbnd, sbnd_seq, seq_seq, seqC_ap, ss_cons, ss_nil, s_asg, s_ret, s_ite, s_ex, s_for, s_whl, e_non, e_bl, e_int, e_str, e_var, e_bin, e_neg, e_cmp, e_not, e_tup, e_lst, e_dic0, e_sub, e_call, e_bi, e_mt, kindG_same, e_isi, e_inv, e_lrg, e_lc, e_dc, wipeP, new, evEs, evT, evTs, evP, evI, evG, bnd_ok, sbnd_ok, seq_nx, seq_rt, to_nx, go_nx, go_ct, rt_rt, ok_ok, slot, item0, item1, item2, item3, sub_t, i_int, i_abs, i_lenT, c_eqI, c_neI, c_eqS, c_neS, c_lt, c_le, c_gt, c_ge, asB_bl, iteC_t, iteC_f, iteC_d, b_add, b_sub, b_mul, b_mod, List.getElem?_cons_succ, List.getElem?_cons_zero, eis, truth]
    refine Out.Ok.to (names_ok 3 e k h fe.1 (by omega) (by decide) fe.2.1) fun v h1 ⟨l, ev, hl, el, F1⟩ => ?_
    subst ev
    have nl := names_len e
    have b2 : 2 ^ (e.deep - 1) ≤ 2 ^ 2 := Nat.pow_le_pow_right (by decide) (by have := fe.1; omega)
    have es : biF .sorted [.ref l] h1 = ok (.ref h1.length) (h1 ++ [.lst ((sortI (names e)).map PV.int)]) := by
      simp only [biF, lstAt, el, Option.bind_some, ints_map, new]
    have sp := (sortI_perm (names e)).length_eq
    simp only [es, bnd_bnd, bnd_sbnd, sbnd_seq, seq_seq, seqC_ap, ss_cons, ss_nil, s_asg, s_ret, s_ite, s_ex, s_for, s_whl, e_non, e_bl, e_int, e_str, e_var, e_bin, e_neg, e_cmp, e_not, e_tup, e_lst, e_dic0, e_sub, e_call, e_bi, e_mt, kindG_same, e_isi, e_inv, e_lrg, e_lc, e_dc, wipeP, new, evEs, evT, evTs, evP, evI, evG, bnd_ok, sbnd_ok, seq_nx, seq_rt, to_nx, go_nx, go_ct, rt_rt, ok_ok, slot, item0, item1, item2, item3, sub_t, i_int, i_abs, i_lenT, c_eqI, c_neI, c_eqS, c_neS, c_lt, c_le, c_gt, c_ge, asB_bl, iteC_t, iteC_f, iteC_d, b_add, b_sub, b_mul, b_mod, List.getElem?_cons_succ, List.getElem?_cons_zero, List.set_cons_succ, List.set_cons_zero]
    refine Out.Ok.to (uses_ok (by have := fe.1; omega) hk fe.2.1) fun v h2 ⟨ev, F2⟩ => ?_
    subst ev
    have e7 := F2.at (at_new (h := h1) (o := .lst ((sortI (names e)).map PV.int)))
    refine Out.Ok.to (sel_ok e7 (by omega)) fun v h3 ⟨ev, eh⟩ => ?_
    subst ev eh
    have F3 : Fk h (h2 ++ [PO.lst ((sel (sortI (names e)) (sortI (names e)).length).map PV.int)]) := ((F1.trans Fk.new).trans F2).trans Fk.new
    simp only [bnd_bnd, bnd_sbnd, sbnd_seq, seq_seq, seqC_ap, ss_cons, ss_nil, s_asg, s_ret, s_ite, s_ex, s_for, s_whl, e_non, e_bl, e_int, e_str, e_var, e_bin, e_neg, e_cmp, e_not, e_tup, e_lst, e_dic0, e_sub, e_call, e_bi, e_mt, kindG_same, e_isi, e_inv, e_lrg, e_lc, e_dc, wipeP, new, evEs, evT, evTs, evP, evI, evG, bnd_ok, sbnd_ok, seq_nx, seq_rt, to_nx, go_nx, go_ct, rt_rt, ok_ok, slot, item0, item1, item2, item3, sub_t, i_int, i_abs, i_lenT, c_eqI, c_neI, c_eqS, c_neS, c_lt, c_le, c_gt, c_ge, asB_bl, iteC_t, iteC_f, iteC_d, b_add, b_sub, b_mul, b_mod, tuple_at at_new, sel_eq, c_ne eq_tints, decide_true, Bool.not_true]
    rw [sel_eq] at F3
    have e3 := F3.at V.at_
    have e7 := Fk.new (o := PO.lst ((sortI (addAll [] (names e))).map PV.int)) |>.at e7
    have vl := V.len
    simp only [bnd_bnd, bnd_sbnd, sbnd_seq, seq_seq, seqC_ap, ss_cons, ss_nil, s_asg, s_ret, s_ite, s_ex, s_for, s_whl, e_non, e_bl, e_int, e_str, e_var, e_bin, e_neg, e_cmp, e_not, e_tup, e_lst, e_dic0, e_sub, e_call, e_bi, e_mt, kindG_same, e_isi, e_inv, e_lrg, e_lc, e_dc, wipeP, new, evEs, evT, evTs, evP, evI, evG, bnd_ok, sbnd_ok, seq_nx, seq_rt, to_nx, go_nx, go_ct, rt_rt, ok_ok, slot, item0, item1, item2, item3, sub_t, i_int, i_abs, i_lenT, c_eqI, c_neI, c_eqS, c_neS, c_lt, c_le, c_gt, c_ge, asB_bl, iteC_t, iteC_f, iteC_d, b_add, b_sub, b_mul, b_mod, List.getElem?_cons_succ, List.getElem?_cons_zero, List.set_cons_succ, List.set_cons_zero, add_l e3 e7 (by rw [List.length_map, List.length_map]; omega)]
    refine ⟨_, E ++ sortI (names e), _, rfl, by rw [at_new, List.map_append], (V.F.trans F3).trans Fk.new, by rw [List.length_append]; omega, fun x q v hv => ?_⟩
    rcases q with q | q
    · exact List.mem_append_left _ (V.all x q v hv)
    · cases q
      exact List.mem_append_right _ ((sortI_perm _).mem_iff.mpr hv)
def bodyI : Ss := .cons (.frr (.nm 6) (.ex (.slc (.var 5) (.some (.int 1)) .none)) bodyP) .nil
theorem item_ok {a0 a1 a2 a4 a6 a7 a8 a9 a10 a11 : Option PV} {i : Sm ⊕ En} {r n : Nat} {E : List Int} {D : X → Prop} (hk : 6 ≤ k) (f : ∀ e, .inr e ∈ itArgs i → Fine vars e) (V : Ev h0 h r E n D) (hn : n ≤ 900) :
    (evSs (evCall Lw.T k) bodyI [a0, a1, a2, some (.ref r), a4, some (itPv i), a6, a7, a8, a9, a10, a11] h).To fun s' h' => ∃ r E a6 a7, s' = [a0, a1, a2, some (.ref r), a4, some (itPv i), a6, a7, a8, a9, a10, a11] ∧ Ev h0 h' r E (n + 12) (fun e => D e ∨ .inr e ∈ itArgs i) := by
  have il := it_len i
  unfold bodyI
  have e5 : evI (evCall Lw.T k) (.ex (.slc (.var 5) (.some (.int 1)) .none)) [a0, a1, a2, some (.ref r), a4, some (itPv i), a6, a7, a8, a9, a10, a11] h = ok (.vals ((itArgs i).map argPv)) h := by
    simp only [bnd_bnd, bnd_sbnd, sbnd_seq, seq_seq, seqC_ap, ss_cons, ss_nil, s_asg, s_ret, s_ite, s_ex, s_for, s_whl, e_non, e_bl, e_int, e_str, e_var, e_bin, e_neg, e_cmp, e_not, e_tup, e_lst, e_dic0, e_sub, e_call, e_bi, e_mt, kindG_same, e_isi, e_inv, e_lrg, e_lc, e_dc, wipeP, new, evEs, evT, evTs, evP, evI, evG, bnd_ok, sbnd_ok, seq_nx, seq_rt, to_nx, go_nx, go_ct, rt_rt, ok_ok, slot, item0, item1, item2, item3, sub_t, i_int, i_abs, i_lenT, c_eqI, c_neI, c_eqS, c_neS, c_lt, c_le, c_gt, c_ge, asB_bl, iteC_t, iteC_f, iteC_d, b_add, b_sub, b_mul, b_mod, List.getElem?_cons_succ, List.getElem?_cons_zero, it_eq, e_slice, slcF, cut_from (α := PV) (show (0 : Int) ≤ 1 by decide), show (1 : Int).toNat = 1 from rfl, List.drop_succ_cons, List.drop_zero]
  rw [ss_cons, s_for, e5, sbnd_ok]
  refine SO.To.to (for_vals (fun j s' h' => ∃ r E a6 a7, s' = [a0, a1, a2, some (.ref r), a4, some (itPv i), a6, a7, a8, a9, a10, a11] ∧ Ev h0 h' r E (n + 4 * j) (fun e => D e ∨ .inr e ∈ (itArgs i).take j)) ⟨r, E, a6, a7, rfl, V.at_, V.F, V.len, fun e q => q.elim (V.all e) fun z => by simp at z⟩
    fun j x s' h1 hx ⟨r, E, a6, a7, es, V⟩ => ?_) fun s' h1 ⟨r, E, a6, a7, es, V⟩ => ?_
  · subst es
    have hj := lt_of_some hx
    rw [List.length_map] at hj
    rw [List.getElem?_map, Option.map_eq_some_iff] at hx
    obtain ⟨x, hx, rfl⟩ := hx
    simp only [evG, sbnd_ok, List.set_cons_succ, List.set_cons_zero]
    obtain ⟨s2, h2, e2, r2, E2, b7, es2, V2⟩ := (part_ok (vars := vars) (a0 := a0) (a1 := a1) (a2 := a2) (a4 := a4) (a5 := some (itPv i)) (a7 := a7) (a8 := a8) (a9 := a9) (a10 := a10) (a11 := a11) hk (fun e z => f e (z ▸ List.mem_of_getElem? hx)) V (by omega)).ex
    rw [e2, go_nx]
    refine ⟨r2, E2, _, b7, es2, V2.at_, V2.F, by have := V2.len; omega, fun e q => V2.all e ?_⟩
    rw [List.take_add_one, hx] at q
    rcases q with q | q
    · exact .inl (.inl q)
    · rcases List.mem_append.mp q with q | q
      · exact .inl (.inr q)
      · refine .inr ?_
        have : Sum.inr e = x := by simpa using q
        exact this.symm
  · subst es
    rw [List.length_map, List.take_length] at V
    simp only [bnd_bnd, bnd_sbnd, sbnd_seq, seq_seq, seqC_ap, ss_cons, ss_nil, s_asg, s_ret, s_ite, s_ex, s_for, s_whl, e_non, e_bl, e_int, e_str, e_var, e_bin, e_neg, e_cmp, e_not, e_tup, e_lst, e_dic0, e_sub, e_call, e_bi, e_mt, kindG_same, e_isi, e_inv, e_lrg, e_lc, e_dc, wipeP, new, evEs, evT, evTs, evP, evI, evG, bnd_ok, sbnd_ok, seq_nx, seq_rt, to_nx, go_nx, go_ct, rt_rt, ok_ok, slot, item0, item1, item2, item3, sub_t, i_int, i_abs, i_lenT, c_eqI, c_neI, c_eqS, c_neS, c_lt, c_le, c_gt, c_ge, asB_bl, iteC_t, iteC_f, iteC_d, b_add, b_sub, b_mul, b_mod]
    exact ⟨r, E, a6, a7, rfl, V.at_, V.F, by have := V.len; omega, V.all⟩
def bodyA : Ss := .cons (.ite (.cmp .NotEq (.call "successors" (.cons (.var 4) .nil)) (.bi .tuple (.cons (.call "_law_ends" (.cons (.var 4) .nil)) .nil))) (.cons (.ret (.bl false))
    .nil) .nil)
    (.cons (.frr (.nm 5) (.ex (.bin .Add (.sub (.var 4) (.int 1)) (.tup (.cons (.sub (.var 4) (.int 2)) .nil)))) bodyI)
    .nil)
theorem blockA_ok {a0 a1 a2 a5 a6 a7 a8 a9 a10 a11 : Option PV} {r n : Nat} {E : List Int} {D : X → Prop} (hk : 6 ≤ k) (fb : FineB vars b) (n4 : b.ss.length ≤ 4) (V : Ev h0 h r E n D) (hn : n ≤ 800) :
    (evSs (evCall Lw.T k) bodyA [a0, a1, a2, some (.ref r), some b.pv, a5, a6, a7, a8, a9, a10, a11] h).To fun s' h' => ∃ r E a5 a6 a7, s' = [a0, a1, a2, some (.ref r), some b.pv, a5, a6, a7, a8, a9, a10, a11] ∧ Ev h0 h' r E (n + 60) (fun e => D e ∨ ∃ i ∈ items b, .inr e ∈ itArgs i) := by
  have hS : (64000 : Nat) ≤ sizeLine := by decide
  have q1 : 1 ≤ sizeLine := by omega
  have hbv : b.pv = .tup [.int b.l, .tup (b.ss.map Sm.pv), b.en.pv] := rfl
  unfold bodyA
  rw [ss_cons, s_ite]
  simp only [bnd_bnd, bnd_sbnd, sbnd_seq, seq_seq, seqC_ap, ss_cons, ss_nil, s_asg, s_ret, s_ite, s_ex, s_for, s_whl, e_non, e_bl, e_int, e_str, e_var, e_bin, e_neg, e_cmp, e_not, e_tup, e_lst, e_dic0, e_sub, e_call, e_bi, e_mt, kindG_same, e_isi, e_inv, e_lrg, e_lc, e_dc, wipeP, new, evEs, evT, evTs, evP, evI, evG, bnd_ok, sbnd_ok, seq_nx, seq_rt, to_nx, go_nx, go_ct, rt_rt, ok_ok, slot, item0, item1, item2, item3, sub_t, i_int, i_abs, i_lenT, c_eqI, c_neI, c_eqS, c_neS, c_lt, c_le, c_gt, c_ge, asB_bl, iteC_t, iteC_f, iteC_d, b_add, b_sub, b_mul, b_mod, List.getElem?_cons_succ, List.getElem?_cons_zero]
  refine Out.Ok.to (succ_ok b (by omega)) fun v h1 ⟨ev, eh⟩ => ?_
  subst ev eh
  refine Out.Ok.to (ends_ok b (by omega)) fun v h2 ⟨l, ev, hl, el, F2⟩ => ?_
  subst ev
  have e5 : ∀ C : Str → List PV → PH → Out PV, evI C (.ex (.bin .Add (.sub (.var 4) (.int 1)) (.tup (.cons (.sub (.var 4) (.int 2)) .nil)))) [a0, a1, a2, some (.ref r), some b.pv, a5, a6, a7, a8, a9, a10, a11] h2 = ok (.vals ((items b).map itPv)) h2 := by
    intro C
    simp only [bnd_bnd, bnd_sbnd, sbnd_seq, seq_seq, seqC_ap, ss_cons, ss_nil, s_asg, s_ret, s_ite, s_ex, s_for, s_whl, e_non, e_bl, e_int, e_str, e_var, e_bin, e_neg, e_cmp, e_not, e_tup, e_lst, e_dic0, e_sub, e_call, e_bi, e_mt, kindG_same, e_isi, e_inv, e_lrg, e_lc, e_dc, wipeP, new, evEs, evT, evTs, evP, evI, evG, bnd_ok, sbnd_ok, seq_nx, seq_rt, to_nx, go_nx, go_ct, rt_rt, ok_ok, slot, item0, item1, item2, item3, sub_t, i_int, i_abs, i_lenT, c_eqI, c_neI, c_eqS, c_neS, c_lt, c_le, c_gt, c_ge, asB_bl, iteC_t, iteC_f, iteC_d, b_add, b_sub, b_mul, b_mod, List.getElem?_cons_succ, List.getElem?_cons_zero, hbv, List.length_cons, List.length_nil, q1, if_true, binF, List.length_map]
    rw [if_pos (by omega), bnd_ok]
    simp [items, itPv]
  simp only [tuple_at el, bnd_ok, sbnd_ok, c_ne eq_tints, decide_true, Bool.not_true, asB_bl, iteC_f, ss_nil, seq_nx]
  rw [ss_cons, s_for, e5, sbnd_ok]
  have il : (items b).length ≤ 5 := by unfold items; rw [List.length_append, List.length_map]; simp; omega
  refine SO.To.to (for_vals (fun j s' h' => ∃ r E a5 a6 a7, s' = [a0, a1, a2, some (.ref r), some b.pv, a5, a6, a7, a8, a9, a10, a11] ∧ Ev h0 h' r E (n + 12 * j) (fun e => D e ∨ ∃ i ∈ (items b).take j, .inr e ∈ itArgs i)) ⟨r, E, a5, a6, a7, rfl, F2.at V.at_, V.F.trans F2, V.len, fun e q => q.elim (V.all e) fun z => by simp at z⟩
    fun j x s' h1 hx ⟨r, E, a5, a6, a7, es, V⟩ => ?_) fun s' h1 ⟨r, E, a5, a6, a7, es, V⟩ => ?_
  · subst es
    have hj := lt_of_some hx
    rw [List.length_map] at hj
    rw [List.getElem?_map, Option.map_eq_some_iff] at hx
    obtain ⟨x, hx, rfl⟩ := hx
    simp only [evG, sbnd_ok, List.set_cons_succ, List.set_cons_zero]
    obtain ⟨s2, h2, e2, r2, E2, b6, b7, es2, V2⟩ := (item_ok (vars := vars) (a0 := a0) (a1 := a1) (a2 := a2) (a4 := some b.pv) (a6 := a6) (a7 := a7) (a8 := a8) (a9 := a9) (a10 := a10) (a11 := a11) hk (items_fine fb x (List.mem_of_getElem? hx)) V (by omega)).ex
    rw [e2, go_nx]
    refine ⟨r2, E2, _, b6, b7, es2, V2.at_, V2.F, by have := V2.len; omega, fun e q => V2.all e ?_⟩
    rw [List.take_add_one, hx] at q
    rcases q with q | ⟨i, hi, q⟩
    · exact .inl (.inl q)
    · rcases List.mem_append.mp hi with z | z
      · exact .inl (.inr ⟨i, z, q⟩)
      · have : i = x := by simpa using z
        exact .inr (this ▸ q)
  · subst es
    rw [List.length_map, List.take_length] at V
    simp only [bnd_bnd, bnd_sbnd, sbnd_seq, seq_seq, seqC_ap, ss_cons, ss_nil, s_asg, s_ret, s_ite, s_ex, s_for, s_whl, e_non, e_bl, e_int, e_str, e_var, e_bin, e_neg, e_cmp, e_not, e_tup, e_lst, e_dic0, e_sub, e_call, e_bi, e_mt, kindG_same, e_isi, e_inv, e_lrg, e_lc, e_dc, wipeP, new, evEs, evT, evTs, evP, evI, evG, bnd_ok, sbnd_ok, seq_nx, seq_rt, to_nx, go_nx, go_ct, rt_rt, ok_ok, slot, item0, item1, item2, item3, sub_t, i_int, i_abs, i_lenT, c_eqI, c_neI, c_eqS, c_neS, c_lt, c_le, c_gt, c_ge, asB_bl, iteC_t, iteC_f, iteC_d, b_add, b_sub, b_mul, b_mod]
    exact ⟨r, E, a5, a6, a7, rfl, V.at_, V.F, by have := V.len; omega, V.all⟩
end
end K04

set_option Elab.async false
set_option linter.all false
set_option maxRecDepth 100000
set_option maxHeartbeats 4000000
namespace K04
open PySem MP
open Out (ok bad)
section
variable {bs : List Bk} {h h0 : PH} {b c : Bk} {vars : List Int} {k : Nat} {v label : Int}
open Classical in
noncomputable def LLc (bs : List Bk) (E : List Int) (l : Int) (n : Nat) : List Int := ((List.range n).map fun (i : Nat) => (i : Int)).filter fun x => decide (x ∈ E ∧ Lv bs x l)
theorem ll_succ {E : List Int} {l : Int} {n : Nat} : (((n : Int) ∈ E ∧ Lv bs (n : Int) l) → LLc bs E l (n + 1) = LLc bs E l n ++ [(n : Int)]) ∧ (¬((n : Int) ∈ E ∧ Lv bs (n : Int) l) → LLc bs E l (n + 1) = LLc bs E l n) := by
  unfold LLc
  rw [List.range_succ, List.map_append, List.filter_append]
  constructor
  · intro q
    rw [List.map_cons, List.filter_cons_of_pos (by simpa using q)]
    rfl
  · intro q
    rw [List.map_cons, List.filter_cons_of_neg (by simpa using q)]
    simp
theorem ll_len {E : List Int} {l : Int} {n : Nat} : (LLc bs E l n).length ≤ n := by
  unfold LLc
  refine Nat.le_trans (List.length_filter_le _ _) ?_
  simp
theorem ll_mem {E : List Int} {l x : Int} {n : Nat} : x ∈ LLc bs E l n ↔ (0 ≤ x ∧ x < n) ∧ x ∈ E ∧ Lv bs x l := by
  unfold LLc
  rw [List.mem_filter]
  simp only [decide_eq_true_eq, List.mem_map, List.mem_range]
  constructor
  · rintro ⟨⟨i, hi, rfl⟩, q⟩; exact ⟨⟨by omega, by omega⟩, q⟩
  · rintro ⟨⟨h1, h2⟩, q⟩; exact ⟨⟨x.toNat, by omega, by omega⟩, q⟩
theorem ll_strict {E : List Int} {l : Int} {n : Nat} : (LLc bs E l n).Pairwise (· < ·) := by
  unfold LLc
  refine List.Pairwise.filter _ ?_
  rw [List.pairwise_map]
  exact List.pairwise_lt_range.imp fun h => by omega
def dueE : E := .lc (.var 11) (.nm 11) (.rng (.cons (.int 100) .nil)) (.cons (.and (.cmp .In (.var 11) (.var 3)) (.e (.call "_law_is_live" (.cons (.var 2) (.cons (.sub (.var 4) (.int 0)) (.cons (.var 11) .nil)))))) .nil) [11]
theorem due_ok {w np : Int} {r : Nat} {E : List Int} {a0 a1 a5 a6 a7 a8 a9 a10 a11 : Option PV} (Z : Fine0 bs vars) (hk : 6 ≤ k) (hb : b ∈ bs) (hr : h[r]? = some (.lst (E.map PV.int))) :
    (evE (evCall Lw.T k) dueE [a0, a1, some (.tup [.int w, .int np, .tup (bs.map Bk.pv)]), some (.ref r), some b.pv, a5, a6, a7, a8, a9, a10, a11] h).Ok fun v h' => ∃ l, v = .ref l ∧ h.length ≤ l ∧ h'[l]? = some (.lst ((LLc bs E b.l 100).map PV.int)) ∧ Fk h h' := by
  have hS : (64000 : Nat) ≤ sizeLine := by decide
  have sn : small 100 = true := by decide
  have hbv : b.pv = .tup [.int b.l, .tup (b.ss.map Sm.pv), b.en.pv] := rfl
  have e0 : ∀ hh, subF b.pv (.int 0) hh = ok (.int b.l) hh := by
    intro hh; rw [hbv]; simp only [sub_t, item0]
  unfold dueE
  simp only [bnd_bnd, bnd_sbnd, sbnd_seq, seq_seq, seqC_ap, ss_cons, ss_nil, s_asg, s_ret, s_ite, s_ex, s_for, s_whl, e_non, e_bl, e_int, e_str, e_var, e_bin, e_neg, e_cmp, e_not, e_tup, e_lst, e_dic0, e_sub, e_call, e_bi, e_mt, kindG_same, e_isi, e_inv, e_lrg, e_lc, e_dc, wipeP, new, evEs, evT, evTs, evP, evI, evG, bnd_ok, sbnd_ok, seq_nx, seq_rt, to_nx, go_nx, go_ct, rt_rt, ok_ok, slot, item0, item1, item2, item3, sub_t, i_int, i_abs, i_lenT, c_eqI, c_neI, c_eqS, c_neS, c_lt, c_le, c_gt, c_ge, asB_bl, iteC_t, iteC_f, iteC_d, b_add, b_sub, b_mul, b_mod, sn, if_true]
  refine Out.Ok.bnd (each_vals (fun i acc h' => acc = (LLc bs E b.l i).map PV.int ∧ Fk h h') ⟨rfl, Fk.refl⟩ fun i x acc h1 hx ⟨ea, F⟩ => ?_) fun acc h1 ⟨ea, F⟩ => ?_
  · subst ea
    obtain ⟨hi, rfl⟩ := rng_at hx
    have hi : i < 100 := hi
    simp only [Int.zero_add]
    obtain ⟨s1, s2⟩ := ll_succ (bs := bs) (E := E) (l := b.l) (n := i)
    have ll := ll_len (bs := bs) (E := E) (l := b.l) (n := i)
    have ci := cIn (in_ints (v := (i : Int)) (F.at hr))
    unfold lcC
    simp only [bnd_bnd, bnd_sbnd, sbnd_seq, seq_seq, seqC_ap, ss_cons, ss_nil, s_asg, s_ret, s_ite, s_ex, s_for, s_whl, e_non, e_bl, e_int, e_str, e_var, e_bin, e_neg, e_cmp, e_not, e_tup, e_lst, e_dic0, e_sub, e_call, e_bi, e_mt, kindG_same, e_isi, e_inv, e_lrg, e_lc, e_dc, wipeP, new, evEs, evT, evTs, evP, evI, evG, bnd_ok, sbnd_ok, seq_nx, seq_rt, to_nx, go_nx, go_ct, rt_rt, ok_ok, slot, item0, item1, item2, item3, sub_t, i_int, i_abs, i_lenT, c_eqI, c_neI, c_eqS, c_neS, c_lt, c_le, c_gt, c_ge, asB_bl, iteC_t, iteC_f, iteC_d, b_add, b_sub, b_mul, b_mod, List.getElem?_cons_succ, List.getElem?_cons_zero, List.set_cons_succ, List.set_cons_zero, ci]
    by_cases c : (i : Int) ∈ E
    · simp only [c, decide_true, if_true, bnd_bnd, bnd_sbnd, sbnd_seq, seq_seq, seqC_ap, ss_cons, ss_nil, s_asg, s_ret, s_ite, s_ex, s_for, s_whl, e_non, e_bl, e_int, e_str, e_var, e_bin, e_neg, e_cmp, e_not, e_tup, e_lst, e_dic0, e_sub, e_call, e_bi, e_mt, kindG_same, e_isi, e_inv, e_lrg, e_lc, e_dc, wipeP, new, evEs, evT, evTs, evP, evI, evG, bnd_ok, sbnd_ok, seq_nx, seq_rt, to_nx, go_nx, go_ct, rt_rt, ok_ok, slot, item0, item1, item2, item3, sub_t, i_int, i_abs, i_lenT, c_eqI, c_neI, c_eqS, c_neS, c_lt, c_le, c_gt, c_ge, asB_bl, iteC_t, iteC_f, iteC_d, b_add, b_sub, b_mul, b_mod, List.getElem?_cons_succ, List.getElem?_cons_zero, e0]
      refine Out.Ok.bnd (islive_ok (v := (i : Int)) Z hk (List.mem_map.mpr ⟨b, hb, rfl⟩)) fun r h2 ⟨q, er, eq, F2⟩ => ?_
      subst er
      simp only [truth, bnd_ok]
      cases q with
      | true =>
        have hv := eq.mp rfl
        simp only [if_true, bnd_bnd, bnd_sbnd, sbnd_seq, seq_seq, seqC_ap, ss_cons, ss_nil, s_asg, s_ret, s_ite, s_ex, s_for, s_whl, e_non, e_bl, e_int, e_str, e_var, e_bin, e_neg, e_cmp, e_not, e_tup, e_lst, e_dic0, e_sub, e_call, e_bi, e_mt, kindG_same, e_isi, e_inv, e_lrg, e_lc, e_dc, wipeP, new, evEs, evT, evTs, evP, evI, evG, bnd_ok, sbnd_ok, seq_nx, seq_rt, to_nx, go_nx, go_ct, rt_rt, ok_ok, slot, item0, item1, item2, item3, sub_t, i_int, i_abs, i_lenT, c_eqI, c_neI, c_eqS, c_neS, c_lt, c_le, c_gt, c_ge, asB_bl, iteC_t, iteC_f, iteC_d, b_add, b_sub, b_mul, b_mod, List.getElem?_cons_succ, List.getElem?_cons_zero, List.length_map]
        rw [if_pos (by omega), ok_ok, s1 ⟨c, hv⟩]
        exact ⟨by rw [List.map_append]; rfl, F.trans F2⟩
      | false =>
        simp only [Bool.false_eq_true, if_false, bnd_bnd, bnd_sbnd, sbnd_seq, seq_seq, seqC_ap, ss_cons, ss_nil, s_asg, s_ret, s_ite, s_ex, s_for, s_whl, e_non, e_bl, e_int, e_str, e_var, e_bin, e_neg, e_cmp, e_not, e_tup, e_lst, e_dic0, e_sub, e_call, e_bi, e_mt, kindG_same, e_isi, e_inv, e_lrg, e_lc, e_dc, wipeP, new, evEs, evT, evTs, evP, evI, evG, bnd_ok, sbnd_ok, seq_nx, seq_rt, to_nx, go_nx, go_ct, rt_rt, ok_ok, slot, item0, item1, item2, item3, sub_t, i_int, i_abs, i_lenT, c_eqI, c_neI, c_eqS, c_neS, c_lt, c_le, c_gt, c_ge, asB_bl, iteC_t, iteC_f, iteC_d, b_add, b_sub, b_mul, b_mod]
        rw [s2 fun z => by have := eq.mpr z.2; cases this]
        exact ⟨rfl, F.trans F2⟩
    · simp only [c, decide_false, Bool.false_eq_true, if_false, bnd_bnd, bnd_sbnd, sbnd_seq, seq_seq, seqC_ap, ss_cons, ss_nil, s_asg, s_ret, s_ite, s_ex, s_for, s_whl, e_non, e_bl, e_int, e_str, e_var, e_bin, e_neg, e_cmp, e_not, e_tup, e_lst, e_dic0, e_sub, e_call, e_bi, e_mt, kindG_same, e_isi, e_inv, e_lrg, e_lc, e_dc, wipeP, new, evEs, evT, evTs, evP, evI, evG, bnd_ok, sbnd_ok, seq_nx, seq_rt, to_nx, go_nx, go_ct, rt_rt, ok_ok, slot, item0, item1, item2, item3, sub_t, i_int, i_abs, i_lenT, c_eqI, c_neI, c_eqS, c_neS, c_lt, c_le, c_gt, c_ge, asB_bl, iteC_t, iteC_f, iteC_d, b_add, b_sub, b_mul, b_mod]
      rw [s2 fun z => c z.1]
      exact ⟨rfl, F⟩
  · subst ea
    rw [rng_len]
    simp only [new, ok_ok]
    exact ⟨h1.length, rfl, F.len, at_new, F.trans Fk.new⟩
noncomputable def rowD (bs : List Bk) (E : List Int) (b : Bk) : PV := .tup [.int b.l, .tup ((LLc bs E b.l 100).map PV.int)]
def bodyD : Ss := .cons (.asg (.nm 9) dueE)
    (.cons (.ex (.mt .append (.var 8) (.cons (.tup (.cons (.sub (.var 4) (.int 0)) (.cons (.bi .tuple (.cons (.var 9) .nil)) .nil))) .nil)))
    .nil)
theorem bodyD_ok {w np : Int} {r R : Nat} {E : List Int} {rows : List PV} {a0 a1 a5 a6 a7 a9 a10 a11 : Option PV} (Z : Fine0 bs vars) (hk : 6 ≤ k) (hb : b ∈ bs) (hr : h[r]? = some (.lst (E.map PV.int))) (hR : h[R]? = some (.lst rows)) (hne : r ≠ R) (h0R : h0.length ≤ R) (F : Fk h0 h) (hz : rows.length ≤ 100) :
    (evSs (evCall Lw.T k) bodyD [a0, a1, some (.tup [.int w, .int np, .tup (bs.map Bk.pv)]), some (.ref r), some b.pv, a5, a6, a7, some (.ref R), a9, a10, a11] h).To fun s' h' => ∃ a9, s' = [a0, a1, some (.tup [.int w, .int np, .tup (bs.map Bk.pv)]), some (.ref r), some b.pv, a5, a6, a7, some (.ref R), a9, a10, a11] ∧ h'[r]? = some (.lst (E.map PV.int)) ∧ h'[R]? = some (.lst (rows ++ [rowD bs E b])) ∧ Fk h0 h' := by
  have hS : (64000 : Nat) ≤ sizeLine := by decide
  have q2 : 2 ≤ sizeLine := by omega
  have hbv : b.pv = .tup [.int b.l, .tup (b.ss.map Sm.pv), b.en.pv] := rfl
  have e0 : ∀ hh, subF b.pv (.int 0) hh = ok (.int b.l) hh := by
    intro hh; rw [hbv]; simp only [sub_t, item0]
  unfold bodyD
  rw [ss_cons, s_asg, sbnd_seq]
  refine Out.Ok.to (due_ok Z hk hb hr) fun v h2 ⟨l, ev, hl, el, F2⟩ => ?_
  subst ev
  have ap : ∀ y, mtF .append (.ref R) [y] h2 = ok .non (h2.set R (.lst (rows ++ [y]))) := by
    intro y
    simp only [mtF, F2.at hR, lstM]
    rw [if_pos (by omega)]
  simp only [bnd_bnd, bnd_sbnd, sbnd_seq, seq_seq, seqC_ap, ss_cons, ss_nil, s_asg, s_ret, s_ite, s_ex, s_for, s_whl, e_non, e_bl, e_int, e_str, e_var, e_bin, e_neg, e_cmp, e_not, e_tup, e_lst, e_dic0, e_sub, e_call, e_bi, e_mt, kindG_same, e_isi, e_inv, e_lrg, e_lc, e_dc, wipeP, new, evEs, evT, evTs, evP, evI, evG, bnd_ok, sbnd_ok, seq_nx, seq_rt, to_nx, go_nx, go_ct, rt_rt, ok_ok, slot, item0, item1, item2, item3, sub_t, i_int, i_abs, i_lenT, c_eqI, c_neI, c_eqS, c_neS, c_lt, c_le, c_gt, c_ge, asB_bl, iteC_t, iteC_f, iteC_d, b_add, b_sub, b_mul, b_mod, List.getElem?_cons_succ, List.getElem?_cons_zero, List.set_cons_succ, List.set_cons_zero, e0, tuple_at el, List.length_cons, List.length_nil, q2, if_true, ap]
  refine ⟨_, rfl, by rw [List.getElem?_set_ne (Ne.symm hne)]; exact F2.at hr, by rw [List.getElem?_set_self (lt_of_some (F2.at hR))]; rfl, fk_set (F.trans F2) h0R⟩
def rowP (x : Int × List Int) : PV := .tup [.int x.1, .tup (x.2.map PV.int)]
def rowQ (x : Int × List Int) : PyData := .tuple [.int x.1, .tuple (x.2.map PyData.int)]
theorem eq_rows {a c : Nat} {rows : List (Int × List Int)} (e1 : h[a]? = some (.lst (rows.map rowP))) (e2 : h[c]? = some (.lst (rows.map rowP))) : eqB (.ref a) (.ref c) h = ok true h := by
  have k1 : ∀ x ∈ rows, datum h 63 (rowP x) = some (rowQ x) := fun x _ => d_tup (dl_cons d_int (dl_cons (d_tup (dl_map fun y _ => d_int)) dl_nil))
  have k : dataL (datum h 63) (rows.map rowP) = some (rows.map rowQ) := dl_map k1
  have sh : SeqAt.shaped (.list (rows.map rowQ)) = true := by
    refine shaped_list (m := 3) (lay_all fun x _ => ?_) (deep_all fun x _ => ?_) (by decide)
    · simp [rowQ, PyData.canLay0, PyData.canLayAll0]
      exact lay_ints
    · have := deep_ints (l := x.2)
      simp [rowQ, PyData.depth, PyData.depthAll]
      omega
  rw [eq_data (.inl ⟨_, rfl⟩) (d_lst e1 k) (d_lst e2 k) sh sh, eqv_list]
  congr 1
  refine (eqv_map (q := rowQ) fun x _ y _ => ?_).mpr rfl
  unfold rowQ
  rw [eqv_tuple]
  simp only [PyData.eqvAll, Bool.and_true, Bool.and_eq_true, eqv_int, eqv_tuple]
  rw [eqv_map fun x _ y _ => eqv_int]
  exact ⟨fun z => Prod.ext z.1 z.2, fun z => z ▸ ⟨rfl, rfl⟩⟩
theorem fine0_of {f : Fn} (g : f.Good vars 6 4) : Fine0 f.bs vars := by
  refine ⟨g.nd, fun b hb l hl => ?_, g.v2, fun b hb => fineB_of (g.bk b hb), fun b hb => skB_of (g.bk b hb), by have := g.most; omega⟩
  have := (g.bk b hb).2.2
  revert this hl
  cases b.en with
  | ret e => simp [endsOf]
  | go y => intro hl q; simp [endsOf] at hl; subst hl; exact q
  | br e x y =>
    intro hl q
    by_cases c : x = y
    · simp [endsOf, c] at hl; subst hl; exact q.2.2
    · simp [endsOf, c] at hl
      rcases hl with rfl | rfl
      · exact q.2.1
      · exact q.2.2
theorem rest_ok {f : Fn} {a0 a1 : Option PV} {r : Nat} {E : List Int} {a4 a5 a6 a7 a9 a10 a11 : Option PV} (hk : 8 ≤ k) (g : f.Good vars 6 4) (V : Ev h0 h r E 400 (fun e => ∃ b ∈ f.bs, ∃ i ∈ items b, .inr e ∈ itArgs i)) :
    (evSs (evCall Lw.T k) (.cons (.asg (.nm 8) (.lst .nil)) (.cons (.frr (.nm 4) (.ex (.sub (.var 2) (.int 2))) bodyD) (.cons (.ret (.cmp .Eq (.call "live_in" (.cons (.var 2) .nil)) (.var 8))) .nil))) [a0, a1, some f.pv, some (.ref r), a4, a5, a6, a7, none, a9, a10, a11] h).Rt fun v _ => v = .bl true := by
  have Z := fine0_of g
  have hS : (64000 : Nat) ≤ sizeLine := by decide
  have q0 : 0 ≤ sizeLine := Nat.zero_le _
  have n6 := Z.n
  have efp : f.pv = .tup [.int f.w, .int f.np, .tup (f.bs.map Bk.pv)] := rfl
  have lr := lt_of_some V.at_
  rw [efp]
  simp only [bnd_bnd, bnd_sbnd, sbnd_seq, seq_seq, seqC_ap, ss_cons, ss_nil, s_asg, s_ret, s_ite, s_ex, s_for, s_whl, e_non, e_bl, e_int, e_str, e_var, e_bin, e_neg, e_cmp, e_not, e_tup, e_lst, e_dic0, e_sub, e_call, e_bi, e_mt, kindG_same, e_isi, e_inv, e_lrg, e_lc, e_dc, wipeP, new, evEs, evT, evTs, evP, evI, evG, bnd_ok, sbnd_ok, seq_nx, seq_rt, to_nx, go_nx, go_ct, rt_rt, ok_ok, slot, item0, item1, item2, item3, sub_t, i_int, i_abs, i_lenT, c_eqI, c_neI, c_eqS, c_neS, c_lt, c_le, c_gt, c_ge, asB_bl, iteC_t, iteC_f, iteC_d, b_add, b_sub, b_mul, b_mod, List.length_nil, q0, if_true, List.getElem?_cons_succ, List.getElem?_cons_zero, List.set_cons_succ, List.set_cons_zero]
  refine SO.To.rt (for_vals (fun i s' h' => ∃ a4 a9, s' = [a0, a1, some (.tup [.int f.w, .int f.np, .tup (f.bs.map Bk.pv)]), some (.ref r), a4, a5, a6, a7, some (.ref h.length), a9, a10, a11] ∧ h'[r]? = some (.lst (E.map PV.int)) ∧ h'[h.length]? = some (.lst ((f.bs.take i).map (rowD f.bs E))) ∧ Fk h h') ⟨a4, a9, rfl, Fk.new.at V.at_, at_new, Fk.new⟩
    fun i x s' h1 hx ⟨a4, a9, es, e1, e2, F⟩ => ?_) fun s' h1 ⟨a4, a9, es, e1, e2, F⟩ => ?_
  · subst es
    rw [List.getElem?_map, Option.map_eq_some_iff] at hx
    obtain ⟨b, hb, rfl⟩ := hx
    have hbm := List.mem_of_getElem? hb
    have etk : f.bs.take (i + 1) = f.bs.take i ++ [b] := by rw [List.take_add_one, hb]; rfl
    have b3 := List.length_take_le i f.bs
    simp only [evG, sbnd_ok, List.set_cons_succ, List.set_cons_zero]
    have b4 := lt_of_some hb
    obtain ⟨s2, h2, e, b9, es2, p1, p2, F2⟩ := (bodyD_ok (w := f.w) (np := f.np) (a0 := a0) (a1 := a1) (a5 := a5) (a6 := a6) (a7 := a7) (a9 := a9) (a10 := a10) (a11 := a11) Z (show 6 ≤ k by omega) hbm e1 e2 (by omega) (Nat.le_refl _) F (by rw [List.length_map]; omega)).ex
    rw [e, go_nx]
    exact ⟨_, b9, es2, p1, by rw [etk, List.map_append]; exact p2, F2⟩
  · subst es
    rw [List.length_map, List.take_length] at e2
    simp only [bnd_bnd, bnd_sbnd, sbnd_seq, seq_seq, seqC_ap, ss_cons, ss_nil, s_asg, s_ret, s_ite, s_ex, s_for, s_whl, e_non, e_bl, e_int, e_str, e_var, e_bin, e_neg, e_cmp, e_not, e_tup, e_lst, e_dic0, e_sub, e_call, e_bi, e_mt, kindG_same, e_isi, e_inv, e_lrg, e_lc, e_dc, wipeP, new, evEs, evT, evTs, evP, evI, evG, bnd_ok, sbnd_ok, seq_nx, seq_rt, to_nx, go_nx, go_ct, rt_rt, ok_ok, slot, item0, item1, item2, item3, sub_t, i_int, i_abs, i_lenT, c_eqI, c_neI, c_eqS, c_neS, c_lt, c_le, c_gt, c_ge, asB_bl, iteC_t, iteC_f, iteC_d, b_add, b_sub, b_mul, b_mod, List.getElem?_cons_succ, List.getElem?_cons_zero]
    refine Out.Ok.rt (livein_ok Z hk) fun v h2 ⟨S, l, ev, hl, el, F2, I, cl⟩ => ?_
    subst ev
    have mem : ∀ x y, Lv f.bs x y → x ∈ E ∧ 0 ≤ x ∧ x < 100 := by
      intro x y hxy
      induction hxy with
      | @use b hb h =>
        obtain ⟨i, hi, e, he, hv⟩ := first_item h
        exact ⟨V.all e ⟨b, hb, i, hi, he⟩ x hv, g.vr x ((items_fine (Z.fine b hb) i hi e he).2.2 x hv)⟩
      | step _ _ _ _ ih => exact ih
    have key : ∀ b ∈ f.bs, sortI (S b.l) = LLc f.bs E b.l 100 := fun b hb => strict_eq (strict_sort (I.sub b hb).nd) ll_strict fun x => by
      rw [(sortI_perm _).mem_iff, ll_mem]
      constructor
      · intro hx
        have lv := I.live b hb x hx
        have := mem x _ lv
        exact ⟨⟨this.2.1, by omega⟩, this.1, lv⟩
      · intro q; exact I.all cl q.2.2
    have el2 : h2[l]? = some (.lst ((f.bs.map fun b => (b.l, LLc f.bs E b.l 100)).map rowP)) := by
      rw [el, List.map_map]
      congr 2
      refine List.map_congr_left fun b hb => ?_
      show rowOf S b = rowP _
      unfold rowOf rowP
      rw [key b hb]
    have er2 : h2[h.length]? = some (.lst ((f.bs.map fun b => (b.l, LLc f.bs E b.l 100)).map rowP)) := by
      rw [F2.at e2, List.map_map]; rfl
    simp only [c_eq (eq_rows el2 er2), bnd_bnd, bnd_sbnd, sbnd_seq, seq_seq, seqC_ap, ss_cons, ss_nil, s_asg, s_ret, s_ite, s_ex, s_for, s_whl, e_non, e_bl, e_int, e_str, e_var, e_bin, e_neg, e_cmp, e_not, e_tup, e_lst, e_dic0, e_sub, e_call, e_bi, e_mt, kindG_same, e_isi, e_inv, e_lrg, e_lc, e_dc, wipeP, new, evEs, evT, evTs, evP, evI, evG, bnd_ok, sbnd_ok, seq_nx, seq_rt, to_nx, go_nx, go_ct, rt_rt, ok_ok, slot, item0, item1, item2, item3, sub_t, i_int, i_abs, i_lenT, c_eqI, c_neI, c_eqS, c_neS, c_lt, c_le, c_gt, c_ge, asB_bl, iteC_t, iteC_f, iteC_d, b_add, b_sub, b_mul, b_mod]
theorem law_ok {ns : List Int} (G : Gen Lw.T) (hz : ns.length ≤ 63) : (evCall Lw.T 12 "law" [.fro (ns.map PV.int)] []).Ok fun v _ => v = .bl true := by
  refine call_ok Lw.T_law rfl (by decide) ?_
  show (evSs (evCall Lw.T 11) (.cons (.asg (.nm 1) (.call "_law_draw" (.cons (.var 0) .nil))) (.cons (.asg (.nm 2) (.call "_law_function" (.cons (.var 1) (.cons (.int 6) (.cons (.int 4) .nil))))) (.cons (.asg (.nm 3) (.lst .nil)) (.cons (.frr (.nm 4) (.ex (.sub (.var 2) (.int 2))) bodyA)
    (.cons (.asg (.nm 8) (.lst .nil)) (.cons (.frr (.nm 4) (.ex (.sub (.var 2) (.int 2))) bodyD) (.cons (.ret (.cmp .Eq (.call "live_in" (.cons (.var 2) .nil)) (.var 8))) .nil))))))) [some (.fro (ns.map PV.int)), none, none, none, none, none, none, none, none, none, none, none] []).Rt _
  have hD : (evCall Lw.T 11 "_law_draw" [.fro (ns.map PV.int)] []).Ok fun v h => v = .ref 1 ∧ ∃ (cs : List Int) (o : PO), DrawO 0 o ∧ h = [.lst (cs.map PV.int), o] := call_ok G.draw rfl (by decide) (draw_ok (C := evCall Lw.T 10) ns hz)
  have q0 : 0 ≤ sizeLine := Nat.zero_le _
  rw [ss_cons, s_asg, sbnd_seq]
  simp only [e_call, evEs, e_var, slot, bnd_sbnd, bnd_ok, sbnd_ok, List.getElem?_cons_succ, List.getElem?_cons_zero]
  refine Out.Ok.rt hD fun v h1 ⟨ev, cs, o, hd, eh⟩ => ?_
  subst ev
  have dw : DW h1 := ⟨cs, o, by rw [eh]; rfl, by rw [eh]; rfl, hd⟩
  simp only [evG, sbnd_ok, seq_nx, List.set_cons_succ, List.set_cons_zero]
  rw [ss_cons, s_asg, sbnd_seq]
  simp only [e_call, evEs, e_var, e_int, slot, bnd_sbnd, bnd_ok, sbnd_ok, List.getElem?_cons_succ, List.getElem?_cons_zero]
  refine Out.Ok.rt (gen_function G (B := 6) (M := 4) (by decide) dw (by decide) (by decide) (by decide) (by decide)) fun v h2 ⟨⟨f, vars, ev, g⟩, F2⟩ => ?_
  subst ev
  have Z := fine0_of g
  have n6 := Z.n
  have efp : f.pv = .tup [.int f.w, .int f.np, .tup (f.bs.map Bk.pv)] := rfl
  have e2 : ∀ hh, subF f.pv (.int 2) hh = ok (.tup (f.bs.map Bk.pv)) hh := by
    intro hh; rw [efp]; simp only [sub_t, item2]
  simp only [evG, sbnd_ok, seq_nx, List.set_cons_succ, List.set_cons_zero]
  rw [ss_cons, s_asg]
  simp only [e_lst, evEs, bnd_ok, List.length_nil, q0, if_true, new, sbnd_ok, evG, seq_nx, List.set_cons_succ, List.set_cons_zero]
  rw [ss_cons, s_for]
  simp only [evI, e_sub, e_var, e_int, slot, bnd_ok, sbnd_ok, List.getElem?_cons_succ, List.getElem?_cons_zero, e2]
  refine SO.To.rt (for_vals (fun i s' h' => ∃ r E a4 a5 a6 a7, s' = [some (.fro (ns.map PV.int)), some (.ref 1), some f.pv, some (.ref r), a4, a5, a6, a7, none, none, none, none] ∧ Ev h2 h' r E (60 * i) (fun e => ∃ b ∈ f.bs.take i, ∃ i ∈ items b, .inr e ∈ itArgs i))
    ⟨h2.length, [], none, none, none, none, rfl, at_new, Fk.new, Nat.le_refl _, fun e q => by simp at q⟩ fun i x s' h1 hx ⟨r, E, a4, a5, a6, a7, es, V⟩ => ?_) fun s' h1 ⟨r, E, a4, a5, a6, a7, es, V⟩ => ?_
  · subst es
    have hi := lt_of_some hx
    rw [List.length_map] at hi
    rw [List.getElem?_map, Option.map_eq_some_iff] at hx
    obtain ⟨b, hb, rfl⟩ := hx
    have hbm := List.mem_of_getElem? hb
    have etk : f.bs.take (i + 1) = f.bs.take i ++ [b] := by rw [List.take_add_one, hb]; rfl
    simp only [evG, sbnd_ok, List.set_cons_succ, List.set_cons_zero]
    obtain ⟨s2, h3, e, r2, E2, b5, b6, b7, es2, V2⟩ := (blockA_ok (a0 := some (.fro (ns.map PV.int))) (a1 := some (.ref 1)) (a2 := some f.pv) (a5 := a5) (a6 := a6) (a7 := a7) (a8 := none) (a9 := none) (a10 := none) (a11 := none) (k := 11) (by decide) (Z.fine b hbm) (by have := (g.bk b hbm).1; omega) V (by omega)).ex
    rw [e, go_nx]
    refine ⟨r2, E2, _, b5, b6, b7, es2, V2.at_, V2.F, by have := V2.len; omega, fun e q => V2.all e ?_⟩
    rw [etk] at q
    obtain ⟨c, hc, q⟩ := q
    rcases List.mem_append.mp hc with z | z
    · exact .inl ⟨c, z, q⟩
    · have : c = b := by simpa using z
      subst this
      exact .inr q
  · subst es
    rw [List.length_map, List.take_length] at V
    exact rest_ok (by decide) g ⟨V.at_, V.F, by have := V.len; omega, V.all⟩
end
theorem gen : Gen Lw.T := ⟨Lw.T__law_take, Lw.T__law_draw, Lw.T__law_top, Lw.T__law_pairs, Lw.T__law_word, Lw.T__law_expression, Lw.T__law_statement, Lw.T__law_function⟩
theorem holds (ns : List Int) (hz : ns.length ≤ 63) : ∃ h, evCall Lw.T 12 "law" [.fro (ns.map PV.int)] [] = .ok (.bl true) h := by
  obtain ⟨v, h, e, rfl⟩ := (law_ok gen hz).ex
  exact ⟨h, e⟩
end K04
theorem PySem.Challenge.cw_leasttiles_k04_uses_and_ways_holds : PySem.Challenge.rw_leasttiles_k04_uses_and_ways.Holds :=
  Lw.holds_of K04.holds

