import PyProof.Rows.All
import Wide.All
import OpenK.AllK
import HandS.Words
import HandS.Head0
import HandS.Head1
import HandS.Head2
import HandS.HeadEnd
import HandS.HeadHook1
import HandS.HeadHook2
import Wide.FinOn
import HandS.ForMost
import HandS.Wide
import HandS.Defaults
import HandS.CallSlots
import HandS.Star
import HandS.IsInst
import HandS.FStr
import HandS.Property
import HandS.Exc
import HandS.WordsExc
import HandS.Conv
import HandS.Style
import HandS.TupAny
import HandS.DictComp
import HandS.DictTup
import HandS.TupLen
import HandS.ListItems
import HandS.SortOrd
import HandS.SortRule
import HandS.SortInts
import PyProof.TupleOfGen
import HandS.TupLe
import HandS.SetFor
import HandS.Strs
import KE.GoesEnum
import HandS.Zip
import KE.GoesMore
import KE.GoesZip
import PySem.Challenge.RW_sizesreckoned_k82_whole_small_rules_by_t
section MPa_text
/-! A small Python over plain values: values, a store of what may change, syntax, an evaluator. No model in sight. -/
set_option maxRecDepth 10000
namespace MP

/-- values: texts by their codes; lists, dicts and instances that never change any more are values; what may still change is a place of the store -/
inductive CV where
  | non | bl (b : Bool) | int (i : Int) | str (s : List Nat)
  | tup (xs : List CV) | lst (xs : List CV)
  /-- t: the keys are tuples of ints; else intsOf and texts -/
  | dic (t : Bool) (kvs : List (CV × CV))
  | rcd (c : Nat) (fs : List (Nat × CV))
  | loc (l : Nat)
  /-- the script: a list that is read alone -/
  | scr (ns : List Int)
  /-- a tuple of intsOf of the module's own -/
  | kt (ns : List Int)
  deriving Inhabited

def CV.isNon : CV → Bool
  | .non => true
  | _ => false
/-- what stands at a place of the store -/
inductive CO where
  | gone
  | lst (xs : List CV) | dic (t : Bool) (kvs : List (CV × CV)) | ins (c : Nat) (fs : List (Nat × CV))
  deriving Inhabited

abbrev Sto := List CO
abbrev Env := List (Option CV)

inductive R (α : Type) where
  | ok (a : α) (s : Sto) | exc (c : Nat) (v : CV) (s : Sto) | err
  deriving Inhabited
namespace R
def bind {α β : Type} (x : R α) (f : α → Sto → R β) : R β := match x with
  | .ok a s => f a s
  | .exc c v s => .exc c v s
  | .err => .err
@[simp] theorem bind_ok {α β : Type} (a : α) (s : Sto) (f : α → Sto → R β) : (R.ok a s).bind f = f a s := rfl
@[simp] theorem bind_exc {α β : Type} (c : Nat) (v : CV) (s : Sto) (f : α → Sto → R β) : (R.exc c v s : R α).bind f = .exc c v s := rfl
@[simp] theorem bind_err {α β : Type} (f : α → Sto → R β) : (R.err : R α).bind f = .err := rfl
end R
/-- a value that may lack -/
def ofO {α : Type} (o : Option α) (s : Sto) : R α := match o with
  | some a => .ok a s
  | none => .err
@[simp] theorem ofO_some {α : Type} (a : α) (s : Sto) : ofO (some a) s = .ok a s := rfl
@[simp] theorem ofO_none {α : Type} (s : Sto) : ofO (none : Option α) s = .err := rfl

/-! ### syntax -/
inductive Bop where
  | add | sub | mul | fdiv | mod | pow
  deriving DecidableEq
inductive Cop where
  | eq | ne | lt | le | gt | ge | inn | notin
  deriving DecidableEq
/-- built-in functions and types, by their calls -/
inductive Bfn where
  | len | int | str | abs | min2 | max2 | maxl | minl | sum | all | any | list | tuple | dict | sorted | rng1 | rng2 | lenset | litems | titems | repr | sortset
  deriving DecidableEq
/-- methods of built-in types -/
inductive Bm where
  | append | extend | pop | popAt | get1 | get2 | split | join | replace | upper | update | index
  deriving DecidableEq
inductive Ity where
  | int | bool | str | tuple | list | dict | cls (c : Nat)
  deriving DecidableEq

mutual
inductive CE where
  | non | bool (b : Bool) | int (i : Int) | str (s : List Nat)
  | var (i : Nat)
  | glob (k : Nat)
  | bin (o : Bop) (a b : CE)
  | neg (a : CE) | not (a : CE)
  | cmp (o : Cop) (a b : CE)
  | chain (o p : Cop) (a b c : CE)
  /-- a is None, a is not None; the same of True, False -/
  | isc (neg : Bool) (k : Option Bool) (a : CE)
  | bools (isAnd : Bool) (es : CEs)
  | ite (c a b : CE)
  | idx (a b : CE)
  | slice (a : CE) (lo hi : CP)
  | rev (a : CE)
  | attr (a : CE) (f : Nat)
  | call (f : Nat) (es : CEs)
  | new (c : Nat) (es : CEs)
  | meth (a : CE) (m : Nat) (es : CEs)
  | bfn (b : Bfn) (es : CEs)
  | bm (m : Bm) (a : CE) (es : CEs)
  | isin (a : CE) (t : Ity)
  | tup (es : CEs) | lst (es : CEs) | dic (t : Bool) (kvs : CKs)
  | comp (elt : CE) (t : CT) (it : CI) (c : CP)
  | comp2 (elt : CE) (t : CT) (it : CI) (t2 : CT) (it2 : CI)
  | dcomp (tk : Bool) (k v : CE) (t : CT) (it : CI)
  | fstr (es : CEs)
  /-- the value, newly made, is to be a place of the store; the place's value, that no one changes any more -/
  | box (a : CE) | frz (a : CE)
/-- an optional part -/
inductive CP where
  | no | yes (e : CE)
inductive CEs where
  | nil | cons (star : Bool) (e : CE) (r : CEs)
inductive CKs where
  | nil | cons (k v : CE) (r : CKs)
/-- what is walked -/
inductive CI where
  | seq (e : CE) | rng1 (a : CE) | rng2 (a b : CE) | rng3 (a b : CE) (c : Int) | enum (e : CE) | zip (es : CEs) | items (e : CE) | keys (e : CE)
  /-- items already told (no text has it) -/
  | lit (xs : List CV)
/-- targets -/
inductive CT where
  | var (i : Nat) | tup (ts : CTs) | attr (e : CE) (f : Nat) | idx (e i : CE)
inductive CTs where
  | nil | cons (t : CT) (r : CTs)
end
mutual
inductive CS where
  | pass
  | expr (e : CE)
  | asg (t : CT) (e : CE)
  /-- names, as many expressions -/
  | par (is : List Nat) (es : CEs)
  | aug (i : Nat) (o : Bop) (e : CE)
  | ifs (c : CE) (a b : CSs)
  | fors (t : CT) (it : CI) (b : CSs)
  | whiles (c : CE) (b : CSs)
  | ret (e : CP)
  | raise (c : Nat) (e : CE)
  | never
  /-- two statements: i = zip(three lists); j = [elt for t in i if c] -/
  | zipc (i : Nat) (es : CEs) (j : Nat) (elt : CE) (t : CT) (c : CP)
inductive CSs where
  | nil | cons (s : CS) (r : CSs)
end

/-! ### small operations on values -/
def lineMax : Nat := 16777216
/-- lengths that the model lets pass -/
def lenOk (n : Nat) : Bool := decide (n ≤ 16000000)
/-- factors whose product the model lets pass -/
def mulOk (i j : Int) : Bool := decide (i.natAbs < 2 ^ 64) || decide (j.natAbs < 2 ^ 64) || decide (i.natAbs.log2 + j.natAbs.log2 < 1000000)
def divOk (j : Int) : Bool := decide (0 < j) && decide (j.natAbs.log2 < 9000)
def powOk (i j : Int) : Bool := decide (0 ≤ j) && (decide (i.natAbs.log2 < 100000) && decide (j ≤ 1000))

/-- == of values: none where it is not served -/
def eqv : Nat → CV → CV → Option Bool
  | 0, _, _ => none
  | n + 1, a, b => match a, b with
    | .non, .non => some true
    | .bl x, .bl y => some (x == y)
    | .bl x, .int y => some ((if x then 1 else 0) == y)
    | .int x, .bl y => some (x == (if y then 1 else 0))
    | .int x, .int y => some (x == y)
    | .str x, .str y => some (x == y)
    | .tup xs, .tup ys => eqvL (eqv n) xs ys
    | .lst xs, .lst ys => eqvL (eqv n) xs ys
    | .non, .bl _ | .non, .int _ | .non, .str _ | .non, .tup _ | .non, .lst _ => some false
    | .bl _, .non | .bl _, .str _ | .bl _, .tup _ | .bl _, .lst _ => some false
    | .int _, .non | .int _, .str _ | .int _, .tup _ | .int _, .lst _ => some false
    | .str _, .non | .str _, .bl _ | .str _, .int _ | .str _, .tup _ | .str _, .lst _ => some false
    | .tup _, .non | .tup _, .bl _ | .tup _, .int _ | .tup _, .str _ | .tup _, .lst _ => some false
    | .lst _, .non | .lst _, .bl _ | .lst _, .int _ | .lst _, .str _ | .lst _, .tup _ => some false
    | _, _ => none
where
  eqvL (f : CV → CV → Option Bool) : List CV → List CV → Option Bool
    | [], [] => some true
    | x :: xs, y :: ys => (f x y).bind fun b => (eqvL f xs ys).map fun c => b && c
    | _, _ => some false

/-- codes in their order -/
def ltCodes : List Nat → List Nat → Bool
  | [], [] => false
  | [], _ :: _ => true
  | _ :: _, [] => false
  | a :: r, b :: t => decide (a < b) || (a == b && ltCodes r t)
/-- < of intsOf, texts, tuples of such -/
def ltv : Nat → CV → CV → Option Bool
  | 0, _, _ => none
  | n + 1, a, b => match a, b with
    | .int x, .int y => some (decide (x < y))
    | .str x, .str y => some (ltCodes x y)
    | .tup xs, .tup ys => ltvL (eqv 60) (ltv n) xs ys
    | _, _ => none
where
  ltvL (e l : CV → CV → Option Bool) : List CV → List CV → Option Bool
    | [], [] => some false
    | [], _ :: _ => some true
    | _ :: _, [] => some false
    | x :: xs, y :: ys => (e x y).bind fun b => if b then ltvL e l xs ys else l x y

/-- the items of what stands as a list or tuple -/
def seqOf (st : Sto) : CV → Option (List CV)
  | .tup xs => some xs
  | .lst xs => some xs
  | .scr ns => some (ns.map .int)
  | .kt ns => some (ns.map .int)
  | .loc l => match st[l]? with
    | some (.lst xs) => some xs
    | _ => none
  | _ => none
def lstOf (st : Sto) : CV → Option (List CV)
  | .lst xs => some xs
  | .loc l => match st[l]? with
    | some (.lst xs) => some xs
    | _ => none
  | _ => none
def dicOf (st : Sto) : CV → Option (Bool × List (CV × CV))
  | .dic t kvs => some (t, kvs)
  | .loc l => match st[l]? with
    | some (.dic t kvs) => some (t, kvs)
    | _ => none
  | _ => none
/-- the place of a list, its items -/
def lstAt (st : Sto) : CV → Option (Nat × List CV)
  | .loc l => match st[l]? with
    | some (.lst xs) => some (l, xs)
    | _ => none
  | _ => none
def dicAt (st : Sto) : CV → Option (Nat × Bool × List (CV × CV))
  | .loc l => match st[l]? with
    | some (.dic t kvs) => some (l, t, kvs)
    | _ => none
  | _ => none

/-- an index, from the end if negative -/
def ixOf (n : Nat) (i : Int) : Option Nat := if 0 ≤ i then (if i < n then some i.toNat else none) else if -(n : Int) ≤ i then some (i + n).toNat else none
/-- a slice's bound -/
def cutIx (n d : Nat) : Option Int → Nat
  | none => d
  | some v => if v < 0 then (v + n).toNat else min v.toNat n
def cutL {α : Type} (xs : List α) (lo hi : Option Int) : List α := (xs.drop (cutIx xs.length 0 lo)).take (cutIx xs.length xs.length hi - cutIx xs.length 0 lo)

def intsOf : List CV → Option (List Int)
  | [] => some []
  | .int i :: r => (intsOf r).map (i :: ·)
  | _ => none
def blsOf : List CV → Option (List Bool)
  | [] => some []
  | .bl i :: r => (blsOf r).map (i :: ·)
  | _ => none
def strsOf : List CV → Option (List (List Nat))
  | [] => some []
  | .str i :: r => (strsOf r).map (i :: ·)
  | _ => none

/-- keys of dicts: ints, texts, tuples of ints -/
inductive Ky where
  | i (n : Int) | s (x : List Nat) | t (xs : List Int)
  deriving DecidableEq
def keyOf : CV → Option Ky
  | .int n => some (.i n)
  | .str x => some (.s x)
  | .tup xs => (intsOf xs).map .t
  | _ => none
def dget (kvs : List (CV × CV)) (k : Ky) : Option CV := match kvs with
  | [] => none
  | (a, v) :: r => if keyOf a = some k then some v else dget r k
def dput (kvs : List (CV × CV)) (k : CV) (v : CV) : List (CV × CV) :=
  if (kvs.any fun p => decide (keyOf p.1 = keyOf k)) = true then kvs.map (fun p => if keyOf p.1 = keyOf k then (p.1, v) else p) else kvs ++ [(k, v)]
def ddel (kvs : List (CV × CV)) (k : Ky) : List (CV × CV) := match kvs with
  | [] => []
  | (a, w) :: r => if keyOf a = some k then r else (a, w) :: ddel r k
/-- a key of that kind -/
def okKey (t : Bool) (k : CV) : Bool := match keyOf k with
  | none => false
  | some (.t _) => t
  | some _ => !t

/-! ### texts by their codes -/
def digitsOf (n : Nat) : List Nat := (Nat.toDigits 10 n).map Char.toNat
def intStr (i : Int) : List Nat := if i < 0 then 45 :: digitsOf i.natAbs else digitsOf i.natAbs
def isDig (c : Nat) : Bool := decide (48 ≤ c) && decide (c ≤ 57)
def natOf (xs : List Nat) : Nat := xs.foldl (fun a c => a * 10 + (c - 48)) 0
/-- what int() tells of digits, a sign ahead -/
def intOf (xs : List Nat) : Option Int := match xs with
  | 45 :: r => if r ≠ [] ∧ r.all isDig = true ∧ r.length ≤ 600 then some (-(natOf r : Int)) else none
  | r => if r ≠ [] ∧ r.all isDig = true ∧ r.length ≤ 600 then some (natOf r : Int) else none
/-- the parts between a sign -/
def splitL (c : Nat) : List Nat → List (List Nat)
  | [] => [[]]
  | a :: r => if a = c then [] :: splitL c r else match splitL c r with
    | [] => [[a]]
    | p :: ps => (a :: p) :: ps
def joinL (sep : List Nat) : List (List Nat) → List Nat
  | [] => []
  | [x] => x
  | x :: y :: r => x ++ sep ++ joinL sep (y :: r)
/-! ### operators -/
def binop (st : Sto) (o : Bop) (a b : CV) : Option CV := match o, a, b with
  | .add, .int i, .int j => some (.int (i + j))
  | .sub, .int i, .int j => some (.int (i - j))
  | .mul, .int i, .int j => if mulOk i j then some (.int (i * j)) else none
  | .fdiv, .int i, .int j => if divOk j then some (.int (i / j)) else none
  | .mod, .int i, .int j => if 0 < j then some (.int (i % j)) else none
  | .pow, .int i, .int j => if powOk i j then some (.int (i ^ j.toNat)) else none
  | .add, .str x, .str y => if lenOk (x.length + y.length) then some (.str (x ++ y)) else none
  | .add, .tup xs, .tup ys => if lenOk (xs.length + ys.length) then some (.tup (xs ++ ys)) else none
  | .add, x, y => match lstOf st x, lstOf st y with
    | some xs, some ys => if lenOk (xs.length + ys.length) then some (.lst (xs ++ ys)) else none
    | _, _ => none
  | .mul, x, .int k => match lstOf st x with
    | some xs => if k.natAbs < 10000000 ∧ lenOk (xs.length * k.toNat) = true then some (.lst (List.replicate k.toNat xs).flatten) else none
    | none => none
  | _, _, _ => none
/-- what stands at a place, as a value -/
def deref (st : Sto) : CV → CV
  | .loc l => match st[l]? with
    | some (.lst xs) => .lst xs
    | some (.dic t kvs) => .dic t kvs
    | _ => .loc l
  | v => v
/-- none, bools, intsOf, texts -/
def flat : CV → Bool
  | .non | .bl _ | .int _ | .str _ => true
  | _ => false
def inSeq (a : CV) (xs : List CV) : Option Bool := if flat a && xs.all flat then some (xs.any fun x => (eqv 1 x a).getD false) else none
def cmpop (st : Sto) (o : Cop) (a b : CV) : Option Bool := match o with
  | .eq => eqv 60 (deref st a) (deref st b)
  | .ne => (eqv 60 (deref st a) (deref st b)).map (!·)
  | .lt => match a, b with
    | .int i, .int j => some (decide (i < j))
    | _, _ => none
  | .le => match a, b with
    | .int i, .int j => some (decide (i ≤ j))
    | _, _ => none
  | .gt => match a, b with
    | .int i, .int j => some (decide (j < i))
    | _, _ => none
  | .ge => match a, b with
    | .int i, .int j => some (decide (j ≤ i))
    | _, _ => none
  | .inn => inop st a b
  | .notin => (inop st a b).map (!·)
where
  inop (st : Sto) (a b : CV) : Option Bool := match a, b with
    | .str [c], .str y => some (y.contains c)
    | _, _ => match seqOf st b with
      | some xs => inSeq a xs
      | none => match dicOf st b, keyOf a with
        | some (t, kvs), some k => if okKey t a then some (dget kvs k).isSome else none
        | _, _ => none

def item (st : Sto) (a i : CV) : Option CV := match seqOf st a with
  | some xs => match i with
    | .int k => (ixOf xs.length k).bind fun j => xs[j]?
    | _ => none
  | none => match a, i with
    | .str x, .int k => if lenOk x.length then (ixOf x.length k).bind fun j => x[j]?.map fun c => .str [c] else none
    | _, _ => match dicOf st a, keyOf i with
      | some (t, kvs), some k => if okKey t i then dget kvs k else none
      | _, _ => none
def sliced (st : Sto) (a : CV) (lo hi : Option Int) : Option CV := match a with
  | .str x => if lenOk x.length then some (.str (cutL x lo hi)) else none
  | .tup xs => some (.tup (cutL xs lo hi))
  | v => (lstOf st v).map fun xs => .lst (cutL xs lo hi)
def reved (st : Sto) (a : CV) : Option CV := (lstOf st a).map fun xs => .lst xs.reverse

def pairsI : List CV → Option (List (Int × Int))
  | [] => some []
  | .tup [.int a, .int b] :: r => (pairsI r).map ((a, b) :: ·)
  | _ => none
def lexLe (p q : Int × Int) : Bool := decide (p.1 < q.1) || (p.1 == q.1 && decide (p.2 ≤ q.2))

def maxL : Int → List Int → Int
  | m, [] => m
  | m, x :: r => maxL (if x > m then x else m) r
def minL : Int → List Int → Int
  | m, [] => m
  | m, x :: r => minL (if x < m then x else m) r
def rangeL (a b : Int) : List CV := (List.range (b - a).toNat).map fun (i : Nat) => .int (a + (i : Int))
def rngOk (a b : Int) : Bool := decide (a.natAbs ≤ 1000000) && decide (b.natAbs ≤ 1000000)

def pairsOf : List CV → Option (List (CV × CV))
  | [] => some []
  | .tup [k, v] :: r => (pairsOf r).map ((k, v) :: ·)
  | _ => none
def dictOf (t : Bool) : List (CV × CV) → List (CV × CV) → Option (List (CV × CV))
  | acc, [] => some acc
  | acc, (k, v) :: r => if okKey t k then dictOf t (dput acc k v) r else none

def one (f : CV → Option CV) : List CV → Option CV
  | [v] => f v
  | _ => none
def two (f : CV → CV → Option CV) : List CV → Option CV
  | [v, w] => f v w
  | _ => none
def bLen (st : Sto) (v : CV) : Option CV := match v with
  | .str x => if lenOk x.length then some (.int x.length) else none
  | v => match seqOf st v with
    | some xs => some (.int xs.length)
    | none => (dicOf st v).map fun d => .int d.2.length
def bInt : CV → Option CV
  | .int i => some (.int i)
  | .bl b => some (.int (if b then 1 else 0))
  | .str x => (intOf x).map .int
  | _ => none
def bStr : CV → Option CV
  | .int i => if i.natAbs.log2 < 1900 then some (.str (intStr i)) else none
  | _ => none
def bAbs : CV → Option CV
  | .int i => some (.int (if i < 0 then -i else i))
  | _ => none
def bMin2 : CV → CV → Option CV
  | .int i, .int j => some (.int (if j < i then j else i))
  | _, _ => none
def bMax2 : CV → CV → Option CV
  | .int i, .int j => some (.int (if j > i then j else i))
  | _, _ => none
def bMaxl (st : Sto) (v : CV) : Option CV := match (lstOf st v).bind intsOf with
  | some (x :: r) => some (.int (maxL x r))
  | _ => none
def bMinl (st : Sto) (v : CV) : Option CV := match (lstOf st v).bind intsOf with
  | some (x :: r) => some (.int (minL x r))
  | _ => none
def bTuple (st : Sto) (v : CV) : Option CV := match v with
  | .tup xs => some (.tup xs)
  | .scr ns => some (.tup (ns.map .int))
  | v => (lstOf st v).map .tup
def bDict (st : Sto) (v : CV) : Option CV := ((lstOf st v).bind pairsOf).bind fun ps => (dictOf false [] ps).map (.dic false)
def bRng1 : CV → Option CV
  | .int b => if rngOk 0 b then some (.lst (rangeL 0 b)) else none
  | _ => none
def bRng2 : CV → CV → Option CV
  | .int a, .int b => if rngOk a b then some (.lst (rangeL a b)) else none
  | _, _ => none
/-- all ints, or all pairs of ints -/
def bSorted (st : Sto) (v : CV) : Option CV := (lstOf st v).bind fun xs => match intsOf xs with
  | some ns => some (.lst ((ns.mergeSort fun a b => decide (a ≤ b)).map .int))
  | none => (pairsI xs).map fun ps => .lst ((ps.mergeSort lexLe).map fun p => .tup [.int p.1, .int p.2])
/-- sorted, each once -/
def insS (a : Int) : List Int → List Int
  | [] => [a]
  | b :: r => if a < b then a :: b :: r else if a = b then b :: r else b :: insS a r
def sortDist : List Int → List Int
  | [] => []
  | a :: r => insS a (sortDist r)
def bSortSet (st : Sto) (v : CV) : Option CV := ((lstOf st v).bind intsOf).bind fun ns => if ns.length < 64 then some (.lst ((sortDist ns).map .int)) else none
def bfnop (st : Sto) (b : Bfn) (as : List CV) : Option CV := match b with
  | .len => one (bLen st) as
  | .int => one bInt as
  | .str => one bStr as
  | .abs => one bAbs as
  | .min2 => two bMin2 as
  | .max2 => two bMax2 as
  | .maxl => one (bMaxl st) as
  | .minl => one (bMinl st) as
  | .sum => one (fun v => ((lstOf st v).bind intsOf).map fun ns => .int ns.sum) as
  | .all => one (fun v => ((lstOf st v).bind blsOf).map fun bs => .bl (bs.all id)) as
  | .any => one (fun v => ((lstOf st v).bind blsOf).map fun bs => .bl (bs.any id)) as
  | .list => one (fun v => (seqOf st v).map .lst) as
  | .tuple => one (bTuple st) as
  | .dict => one (bDict st) as
  | .rng1 => one bRng1 as
  | .rng2 => two bRng2 as
  | .sorted => one (bSorted st) as
  | .litems => one (fun v => (dicOf st v).map fun d => .lst (d.2.map fun p => .tup [p.1, p.2])) as
  | .titems => one (fun v => (dicOf st v).map fun d => .tup (d.2.map fun p => .tup [p.1, p.2])) as
  | .sortset => one (bSortSet st) as
  | .lenset => none
  | .repr => none

/-- a method of a built-in type: its value, the store behind it -/
def mAppend (st : Sto) (a x : CV) : Option (CV × Sto) := (lstAt st a).bind fun q => if lenOk q.2.length then some (.non, st.set q.1 (.lst (q.2 ++ [x]))) else none
def mExtend (st : Sto) (a x : CV) : Option (CV × Sto) := (lstAt st a).bind fun q => (lstOf st x).bind fun ys => if lenOk (q.2.length + ys.length) then some (.non, st.set q.1 (.lst (q.2 ++ ys))) else none
def mPop (st : Sto) (a : CV) : Option (CV × Sto) := (lstAt st a).bind fun q => q.2[q.2.length - 1]?.map fun x => (x, st.set q.1 (.lst q.2.dropLast))
def mPopAt (st : Sto) (a i : CV) : Option (CV × Sto) := match i with
  | .int i => if i.natAbs ≤ 1000000000 then (lstAt st a).bind fun q => (ixOf q.2.length i).bind fun k => q.2[k]?.map fun x => (x, st.set q.1 (.lst (q.2.eraseIdx k))) else none
  | _ => none
def mGet (st : Sto) (a k d : CV) : Option (CV × Sto) := (dicOf st a).bind fun q => (keyOf k).bind fun y => if okKey q.1 k then some ((dget q.2 y).getD d, st) else none
def mSplit (st : Sto) (a x : CV) : Option (CV × Sto) := match a, x with
  | .str z, .str [c] => if lenOk z.length && decide (c < 256) then some (.lst ((splitL c z).map .str), st) else none
  | _, _ => none
def mJoin (st : Sto) (a v : CV) : Option (CV × Sto) := match a with
  | .str sep => ((seqOf st v).bind strsOf).bind fun xs => if lenOk ((xs.map (·.length)).sum + xs.length * sep.length) then some (.str (joinL sep xs), st) else none
  | _ => none
def bmop (st : Sto) (m : Bm) (a : CV) (as : List CV) : Option (CV × Sto) := match m with
  | .append => match as with
    | [x] => mAppend st a x
    | _ => none
  | .extend => match as with
    | [x] => mExtend st a x
    | _ => none
  | .pop => match as with
    | [] => mPop st a
    | _ => none
  | .popAt => match as with
    | [i] => mPopAt st a i
    | _ => none
  | .get1 => match as with
    | [k] => mGet st a k .non
    | _ => none
  | .get2 => match as with
    | [k, d] => mGet st a k d
    | _ => none
  | .split => match as with
    | [c] => mSplit st a c
    | _ => none
  | .join => match as with
    | [v] => mJoin st a v
    | _ => none
  | _ => none
end MP
end MPa_text

section MPb_text
/-! The evaluator. -/
set_option maxRecDepth 10000
namespace MP

/-! ### no place of the store is named -/
inductive NoLoc : CV → Prop
  | non : NoLoc .non
  | bl (b : Bool) : NoLoc (.bl b)
  | int (i : Int) : NoLoc (.int i)
  | str (s : List Nat) : NoLoc (.str s)
  | tup {xs : List CV} (h : ∀ x ∈ xs, NoLoc x) : NoLoc (.tup xs)
  | lst {xs : List CV} (h : ∀ x ∈ xs, NoLoc x) : NoLoc (.lst xs)
  | dic {t : Bool} {kvs : List (CV × CV)} (h : ∀ p ∈ kvs, NoLoc p.1) (h2 : ∀ p ∈ kvs, NoLoc p.2) : NoLoc (.dic t kvs)
  | scr (ns : List Int) : NoLoc (.scr ns)
  | kt (ns : List Int) : NoLoc (.kt ns)
  | rcd {c : Nat} {fs : List (Nat × CV)} (h : ∀ p ∈ fs, NoLoc p.2) : NoLoc (.rcd c fs)
def NoLocO : CO → Prop
  | .gone => True
  | .lst xs => ∀ x ∈ xs, NoLoc x
  | .dic _ kvs => ∀ p ∈ kvs, NoLoc p.1 ∧ NoLoc p.2
  | .ins _ fs => ∀ p ∈ fs, NoLoc p.2
/-- the store's new places can be forgotten behind a call -/
def Drops (old st : Sto) (v : CV) : Prop := NoLoc v ∧ ∀ i, i < old.length → st[i]? = old[i]? ∨ ∃ o, st[i]? = some o ∧ NoLocO o
open Classical in
/-- a call's end -/
noncomputable def exitR (old : Sto) (v : CV) (st : Sto) : R CV := if Drops old st v then .ok v (st.take old.length) else .ok v st

/-! ### the program's tables -/
structure FnI where
  name : List Nat
  arity : Nat
  dfl : List CV
  slots : Nat
  body : CSs
structure ClsI where
  name : List Nat
  init : Option Nat
  meths : List (Nat × Nat)
  props : List (Nat × Nat)
  /-- attributes of its instances -/
  flds : List Nat
  frozen : Bool
  supers : List Nat
structure Prog where
  fns : List FnI
  clss : List ClsI
  attrs : List (List Nat)
  globs : List (List Nat × CV)
def Prog.cls (P : Prog) (c : Nat) : ClsI := P.clss.getD c ⟨[], none, [], [], [], false, []⟩

abbrev Fns := Nat → List CV → Sto → R CV

inductive Fl where
  | nx (env : Env) (s : Sto) | ret (v : CV) (s : Sto) | exc (c : Nat) (v : CV) (env : Env) (s : Sto) | err
  deriving Inhabited
def Fl.ofR {α : Type} (env : Env) (x : R α) (f : α → Sto → Fl) : Fl := match x with
  | .ok a s => f a s
  | .exc c v s => .exc c v env s
  | .err => .err
@[simp] theorem Fl.ofR_ok {α : Type} (env : Env) (a : α) (s : Sto) (f : α → Sto → Fl) : Fl.ofR env (.ok a s) f = f a s := rfl
@[simp] theorem Fl.ofR_exc {α : Type} (env : Env) (c : Nat) (v : CV) (s : Sto) (f : α → Sto → Fl) : Fl.ofR env (.exc c v s : R α) f = .exc c v env s := rfl
@[simp] theorem Fl.ofR_err {α : Type} (env : Env) (f : α → Sto → Fl) : Fl.ofR env (.err : R α) f = .err := rfl
/-- new names and a new store alone -/
def Fl.only (x : Fl) : Fl := match x with
  | .nx env s => .nx env s
  | _ => .err
@[simp] theorem Fl.only_nx (env : Env) (s : Sto) : (Fl.nx env s).only = .nx env s := rfl
/-- no exception is let out -/
def okF {α : Type} (x : R α) (f : α → Sto → Fl) : Fl := match x with
  | .ok a s => f a s
  | _ => .err
@[simp] theorem okF_ok {α : Type} (a : α) (s : Sto) (f : α → Sto → Fl) : okF (.ok a s) f = f a s := rfl
def Fl.then (x : Fl) (f : Env → Sto → Fl) : Fl := match x with
  | .nx env s => f env s
  | .ret v s => .ret v s
  | .exc c v env s => .exc c v env s
  | .err => .err
@[simp] theorem Fl.then_nx (env : Env) (s : Sto) (f : Env → Sto → Fl) : (Fl.nx env s).then f = f env s := rfl
@[simp] theorem Fl.then_ret (v : CV) (s : Sto) (f : Env → Sto → Fl) : (Fl.ret v s).then f = .ret v s := rfl
@[simp] theorem Fl.then_exc (c : Nat) (v : CV) (env : Env) (s : Sto) (f : Env → Sto → Fl) : (Fl.exc c v env s).then f = .exc c v env s := rfl
@[simp] theorem Fl.then_err (f : Env → Sto → Fl) : Fl.err.then f = .err := rfl

def getV (env : Env) (i : Nat) : Option CV := (env[i]?).getD none
def setV (env : Env) (i : Nat) (v : CV) : Env := env.set i (some v)
def wipeV (env : Env) : List Nat → Env
  | [] => env
  | i :: r => (wipeV env r).set i none

/-! ### pieces -/
/-- what is walked: its items; its own place, out of reach meanwhile -/
structure Src where
  items : List CV
  lock : Option (Nat × List CV)
def Src.on (x : Src) (st : Sto) : Sto := match x.lock with
  | some (l, _) => st.set l .gone
  | none => st
def Src.off (x : Src) (st : Sto) : Sto := match x.lock with
  | some (l, ys) => st.set l (.lst ys)
  | none => st
def Src.offR {α : Type} (x : Src) (r : R α) : R α := match r with
  | .ok a s => .ok a (x.off s)
  | .exc c v s => .exc c v (x.off s)
  | .err => .err
def Src.offF (x : Src) (r : Fl) : Fl := match r with
  | .nx env s => .nx env (x.off s)
  | .ret v s => .ret v (x.off s)
  | .exc c v env s => .exc c v env (x.off s)
  | .err => .err
def walk (v : CV) (st : Sto) (f : List CV → List CV) : R Src := match v with
  | .tup xs => .ok ⟨f xs, none⟩ st
  | .lst xs => .ok ⟨f xs, none⟩ st
  | .str x => .ok ⟨f (x.map fun c => .str [c]), none⟩ st
  | .scr ns => .ok ⟨f (ns.map .int), none⟩ st
  | .kt ns => .ok ⟨f (ns.map .int), none⟩ st
  | .loc l => match st[l]? with
    | some (.lst xs) => .ok ⟨f xs, some (l, xs)⟩ st
    | _ => .err
  | _ => .err
/-- a comprehension's turns: what each one adds, if anything. No exception leaves one -/
def compL (f : CV → Sto → R (Option CV)) : List CV → Sto → R (List CV)
  | [], st => .ok [] st
  | x :: r, st => match f x st with
    | .ok o st1 => match compL f r st1 with
      | .ok ys st2 => .ok (match o with
        | some y => y :: ys
        | none => ys) st2
      | _ => .err
    | _ => .err
def compL2 (f : CV → Sto → R (List CV)) : List CV → Sto → R (List CV)
  | [], st => .ok [] st
  | x :: r, st => match f x st with
    | .ok o st1 => match compL2 f r st1 with
      | .ok ys st2 => .ok (o ++ ys) st2
      | _ => .err
    | _ => .err
def forL (f : CV → Env → Sto → Fl) : List CV → Env → Sto → Fl
  | [], env, st => .nx env st
  | x :: r, env, st => (f x env st).then fun env1 st1 => forL f r env1 st1
def whileN (c : Env → Sto → R CV) (b : Env → Sto → Fl) : Nat → Env → Sto → Fl
  | 0, _, _ => .err
  | n + 1, env, st => Fl.ofR env (c env st) fun v st1 => match v with
    | .bl true => (b env st1).then fun env2 st2 => whileN c b n env2 st2
    | .bl false => .nx env st1
    | _ => .err
open Classical in
noncomputable def whileR (c : Env → Sto → R CV) (b : Env → Sto → Fl) (env : Env) (st : Sto) : Fl :=
  if h : ∃ n, whileN c b n env st ≠ .err then whileN c b (Classical.choose h) env st else .err

def enumL (xs : List CV) : List CV := (List.range xs.length).zipWith (fun i x => CV.tup [.int (i : Nat), x]) xs
def pairUp (xs ys : List CV) : List CV := xs.zipWith (fun x y => CV.tup [x, y]) ys
/-- two lists, or two tuples -/
def triples : List CV → List CV → List CV → List CV
  | x :: xs, y :: ys, z :: zs => .tup [x, y, z] :: triples xs ys zs
  | _, _, _ => []
def zip3L : List CV → Option (List CV)
  | [.lst xs, .lst ys, .lst zs] => some (triples xs ys zs)
  | _ => none
def zipL : List CV → Option (List CV)
  | [.lst xs, .lst ys] => some (pairUp xs ys)
  | [.tup xs, .tup ys] => some (pairUp xs ys)
  | _ => none

def attrIn (P : Prog) (F : Fns) (a : CV) (c : Nat) (fs : List (Nat × CV)) (f : Nat) (st : Sto) : R CV := match fs.lookup f with
  | some v => if (P.cls c).flds.contains f then .ok v st else .err
  | none => match (P.cls c).props.lookup f with
    | some g => match F g [a] st with
      | .ok v s => .ok v s
      | _ => .err
    | none => .err
def putF (f : Nat) (v : CV) : List (Nat × CV) → List (Nat × CV)
  | [] => [(f, v)]
  | (g, w) :: r => if g = f then (f, v) :: r else (g, w) :: putF f v r
def clsOf (st : Sto) : CV → Option (Nat × List (Nat × CV))
  | .rcd c fs => some (c, fs)
  | .loc l => match st[l]? with
    | some (.ins c fs) => some (c, fs)
    | _ => none
  | _ => none
def attrOf (P : Prog) (F : Fns) (a : CV) (f : Nat) (st : Sto) : R CV := match clsOf st a with
  | some (c, fs) => attrIn P F a c fs f st
  | none => .err
/-- the def behind a method's name -/
def methOf (P : Prog) (st : Sto) (a : CV) (m : Nat) : Option Nat := match clsOf st a with
  | some (c, fs) => match fs.lookup m with
    | none => (P.cls c).meths.lookup m
    | some _ => none
  | none => none
/-- what a method of a built-in type stands on -/
def bmTy (st : Sto) (m : Bm) (a : CV) : Bool := match m with
  | .append | .extend | .pop | .popAt | .index => (lstOf st a).isSome
  | .get1 | .get2 | .update => (dicOf st a).isSome
  | .split | .join | .replace | .upper => match a with
    | .str _ => true
    | _ => false
noncomputable def newOf (P : Prog) (F : Fns) (c : Nat) (as : List CV) (st : Sto) : R CV := match (P.cls c).init with
  | some g => (F g (.loc st.length :: as) (st ++ [.ins c []])).bind fun v st1 => match v, st1[st.length]? with
    | .non, some (.ins c' fs) => if c' = c then (if (P.cls c).frozen then exitR st (.rcd c fs) (st1.set st.length .gone) else .ok (.loc st.length) st1) else .err
    | _, _ => .err
  | none => .err
def clsIs (P : Prog) (c : Nat) : Ity → Bool
  | .cls d => c == d || (P.cls c).supers.contains d
  | _ => false
def isIn (P : Prog) (st : Sto) (a : CV) (t : Ity) : Option Bool := match deref st a with
  | .non => some false
  | .bl _ => some (t == .int || t == .bool)
  | .int _ => some (t == .int)
  | .str _ => some (t == .str)
  | .tup _ => some (t == .tuple)
  | .lst _ => some (t == .list)
  | .dic _ _ => some (t == .dict)
  | .scr _ => some (t == .list)
  | .kt _ => some (t == .tuple)
  | v => match clsOf st v with
    | some (c, _) => if c < P.clss.length then some (clsIs P c t) else none
    | none => none
/-- the place's value, that no one changes any more -/
def frozen : Nat → CV → Sto → Option (CV × Sto)
  | 0, _, _ => none
  | n + 1, v, st => match v with
    | .loc l => match st[l]? with
      | some (.lst xs) => (frozenL (frozen n) xs (st.set l .gone)).map fun (ys, s) => (.lst ys, s)
      | some (.dic t kvs) => (frozenL (frozen n) (kvs.map (·.2)) (st.set l .gone)).map fun (ys, s) => (.dic t ((kvs.map (·.1)).zip ys), s)
      | _ => none
    | v => some (v, st)
where
  frozenL (f : CV → Sto → Option (CV × Sto)) : List CV → Sto → Option (List CV × Sto)
    | [], st => some ([], st)
    | x :: r, st => (f x st).bind fun (y, s) => (frozenL f r s).map fun (ys, s2) => (y :: ys, s2)
/-- a new place of this value -/
def boxed (v : CV) (st : Sto) : Option (CV × Sto) := match v with
  | .lst xs => some (.loc st.length, st ++ [.lst xs])
  | .dic t kvs => some (.loc st.length, st ++ [.dic t kvs])
  | _ => none
def setItem (st : Sto) (o i v : CV) : Option Sto := match lstAt st o with
  | some (l, xs) => match i with
    | .int k => (ixOf xs.length k).map fun j => st.set l (.lst (xs.set j v))
    | _ => none
  | none => match dicAt st o with
    | some (l, t, kvs) => if okKey t i && lenOk kvs.length then some (st.set l (.dic t (dput kvs i v))) else none
    | none => none
def setAttr (P : Prog) (st : Sto) (o : CV) (f : Nat) (v : CV) : Option Sto := match o with
  | .loc l => match st[l]? with
    | some (.ins c fs) => if decide (fs.length < 900) && (P.cls c).flds.contains f then some (st.set l (.ins c (putF f v fs))) else none
    | _ => none
  | _ => none
def asIntO : CV → Option Int
  | .int i => some i
  | _ => none
def partTxt : CV → Option (List Nat)
  | .str x => if lenOk x.length then some x else none
  | .int i => if i.natAbs.log2 < 1900 then some (intStr i) else none
  | _ => none
def concat : List CV → List Nat → Option (List Nat)
  | [], acc => some acc
  | v :: r, acc => (partTxt v).bind fun x => if lenOk (acc ++ x).length then concat r (acc ++ x) else none

def CV.isLst : CV → Bool
  | .lst _ | .scr _ | .loc _ => true
  | _ => false
/-- a list or a tuple -/
def CV.isRow : CV → Bool
  | .lst _ | .scr _ | .loc _ | .tup _ => true
  | _ => false
def CEs.star : CEs → Bool
  | .nil => false
  | .cons b _ r => b || r.star
def CEs.len : CEs → Nat
  | .nil => 0
  | .cons _ _ r => r.len + 1
def CTs.len : CTs → Nat
  | .nil => 0
  | .cons _ r => r.len + 1
/-! ### targets' names -/
mutual
def CT.names : CT → List Nat
  | .var i => [i]
  | .tup ts => ts.names
  | _ => []
def CTs.names : CTs → List Nat
  | .nil => []
  | .cons t r => t.names ++ r.names
end

section
variable (P : Prog) (F : Fns)
mutual
noncomputable def evE : CE → Env → Sto → R CV
  | .non, _, st => .ok .non st
  | .bool b, _, st => .ok (.bl b) st
  | .int i, _, st => .ok (.int i) st
  | .str s, _, st => .ok (.str s) st
  | .var i, env, st => ofO (getV env i) st
  | .glob k, _, st => ofO (P.globs[k]?.map (·.2)) st
  | .bin o a b, env, st => (evE a env st).bind fun x s1 => (evE b env s1).bind fun y s2 => ofO (binop s2 o x y) s2
  | .neg a, env, st => (evE a env st).bind fun x s1 => match x with
    | .int i => .ok (.int (-i)) s1
    | _ => .err
  | .not a, env, st => (evE a env st).bind fun x s1 => match x with
    | .bl b => .ok (.bl (!b)) s1
    | _ => .err
  | .cmp o a b, env, st => (evE a env st).bind fun x s1 => (evE b env s1).bind fun y s2 => ofO ((cmpop s2 o x y).map .bl) s2
  | .chain o p a b c, env, st => (evE a env st).bind fun x s1 => (evE b env s1).bind fun y s2 => match cmpop s2 o x y with
    | some true => (evE c env s2).bind fun z s3 => ofO ((cmpop s3 p y z).map .bl) s3
    | some false => .ok (.bl false) s2
    | none => .err
  | .isc neg k a, env, st => (evE a env st).bind fun x s1 => match k with
    | none => .ok (.bl (if x.isNon then !neg else neg)) s1
    | some b => match x with
      | .bl c => .ok (.bl (if b = c then !neg else neg)) s1
      | _ => .err
  | .bools isAnd es, env, st => evB isAnd es env st
  | .ite c a b, env, st => (evE c env st).bind fun x s1 => match x with
    | .bl true => evE a env s1
    | .bl false => evE b env s1
    | _ => .err
  | .idx a b, env, st => (evE a env st).bind fun x s1 => (evE b env s1).bind fun y s2 => ofO (item s2 x y) s2
  | .slice a lo hi, env, st => (evE a env st).bind fun x s1 => (evP lo env s1).bind fun l s2 => (evP hi env s2).bind fun h s3 => ofO (sliced s3 x l h) s3
  | .rev a, env, st => (evE a env st).bind fun x s1 => ofO (reved s1 x) s1
  | .attr a f, env, st => (evE a env st).bind fun x s1 => attrOf P F x f s1
  | .call f es, env, st => (evEs es env st).bind fun as s1 => F f as s1
  | .new c es, env, st => (evEs es env st).bind fun as s1 => newOf P F c as s1
  | .meth a m es, env, st => (evE a env st).bind fun x s1 => match methOf P s1 x m with
    | some g => (evEs es env s1).bind fun as s2 => F g (x :: as) s2
    | none => .err
  | .bfn b es, env, st => (evEs es env st).bind fun as s1 => ofO (bfnop s1 b as) s1
  | .bm m a es, env, st => (evE a env st).bind fun x s1 => if bmTy s1 m x then (evEs es env s1).bind fun as s2 => match bmop s2 m x as with
      | some (v, s3) => .ok v s3
      | none => .err
    else .err
  | .isin a t, env, st => (evE a env st).bind fun x s1 => ofO ((isIn P s1 x t).map .bl) s1
  | .tup es, env, st => (evEs es env st).bind fun as s1 => if lenOk as.length then .ok (.tup as) s1 else .err
  | .lst es, env, st => (evEs es env st).bind fun as s1 => if lenOk as.length then .ok (.lst as) s1 else .err
  | .dic t kvs, env, st => (evD kvs env st).bind fun ps s1 => if ps.length ≤ 15 then ofO ((dictOf t [] ps).map (.dic t)) s1 else .err
  | .comp elt t it c, env, st => (evI it env st).bind fun src s1 => (src.offR (compL (fun x s => match evT t x (wipeV env t.names) s with
      | .nx env2 s2 => (evC c env2 s2).bind fun b s3 => if b then (evE elt env2 s3).bind fun y s4 => .ok (some y) s4 else .ok none s3
      | _ => .err) src.items (src.on s1))).bind fun ys s2 => if lenOk src.items.length then .ok (.lst ys) s2 else .err
  | .comp2 elt t it t2 it2, env, st => (evI it env st).bind fun src s1 => (src.offR (compL2 (fun x s => match evT t x (wipeV env (t.names ++ t2.names)) s with
      | .nx env2 s2 => (evI it2 env2 s2).bind fun src2 s3 => src2.offR (compL (fun z s => match evT t2 z env2 s with
        | .nx env3 s4 => (evE elt env3 s4).bind fun y s5 => .ok (some y) s5
        | _ => .err) src2.items (src2.on s3))
      | _ => .err) src.items (src.on s1))).bind fun ys s2 => if lenOk ys.length then .ok (.lst ys) s2 else .err
  | .dcomp tk k v t it, env, st => (evI it env st).bind fun src s1 => (src.offR (compL (fun x s => match evT t x (wipeV env t.names) s with
      | .nx env2 s2 => (evE k env2 s2).bind fun a s3 => (evE v env2 s3).bind fun b s4 => .ok (some (.tup [a, b])) s4
      | _ => .err) src.items (src.on s1))).bind fun ys s2 => if lenOk src.items.length then ofO (((pairsOf ys).bind (dictOf tk [])).map (.dic tk)) s2 else .err
  | .fstr es, env, st => (evEs es env st).bind fun as s1 => ofO ((concat as []).map .str) s1
  | .box a, env, st => (evE a env st).bind fun x s1 => match boxed x s1 with
    | some (v, s2) => .ok v s2
    | none => .err
  | .frz a, env, st => (evE a env st).bind fun x s1 => match frozen 9 x s1 with
    | some (v, s2) => .ok v s2
    | none => .err
noncomputable def evP : CP → Env → Sto → R (Option Int)
  | .no, _, st => .ok none st
  | .yes e, env, st => (evE e env st).bind fun x s1 => match x with
    | .int i => .ok (some i) s1
    | _ => .err
noncomputable def evC : CP → Env → Sto → R Bool
  | .no, _, st => .ok true st
  | .yes e, env, st => (evE e env st).bind fun x s1 => match x with
    | .bl b => .ok b s1
    | _ => .err
noncomputable def evB (isAnd : Bool) : CEs → Env → Sto → R CV
  | .nil, _, _ => .err
  | .cons _ a .nil, env, st => evE a env st
  | .cons _ a r, env, st => (evE a env st).bind fun x s1 => match x with
    | .bl b => if b = isAnd then evB isAnd r env s1 else .ok (.bl b) s1
    | _ => .err
noncomputable def evEs : CEs → Env → Sto → R (List CV)
  | .nil, _, st => .ok [] st
  | .cons false a r, env, st => (evE a env st).bind fun x s1 => (evEs r env s1).bind fun xs s2 => .ok (x :: xs) s2
  | .cons true a r, env, st => (evE a env st).bind fun x s1 => (ofO (seqOf s1 x) s1).bind fun ys s2 => (evEs r env s2).bind fun xs s3 => .ok (ys ++ xs) s3
noncomputable def evD : CKs → Env → Sto → R (List (CV × CV))
  | .nil, _, st => .ok [] st
  | .cons k v r, env, st => (evE k env st).bind fun x s1 => (evE v env s1).bind fun y s2 => (evD r env s2).bind fun ps s3 => .ok ((x, y) :: ps) s3
noncomputable def evI : CI → Env → Sto → R Src
  | .seq e, env, st => (evE e env st).bind fun x s1 => walk x s1 id
  | .rng1 a, env, st => (evE a env st).bind fun x s1 => match x with
    | .int b => if rngOk 0 b then .ok ⟨rangeL 0 b, none⟩ s1 else .err
    | _ => .err
  | .rng2 a b, env, st => (evE a env st).bind fun x s1 => (evE b env s1).bind fun y s2 => match x, y with
    | .int i, .int j => if rngOk i j then .ok ⟨rangeL i j, none⟩ s2 else .err
    | _, _ => .err
  | .rng3 a b c, env, st => (evE a env st).bind fun x s1 => (evE b env s1).bind fun y s2 => match x, y with
    | .int i, .int j => if rngOk i j && c == -1 then .ok ⟨(List.range (i - j).toNat).map fun (n : Nat) => .int (i - (n : Int)), none⟩ s2 else .err
    | _, _ => .err
  | .enum e, env, st => (evE e env st).bind fun x s1 => if x.isRow then walk x s1 enumL else .err
  | .zip es, env, st => (evEs es env st).bind fun as s1 => ofO ((zipL as).map fun xs => ⟨xs, none⟩) s1
  | .items e, env, st => (evE e env st).bind fun x s1 => match x with
    | .dic _ kvs => .ok ⟨kvs.map fun p => .tup [p.1, p.2], none⟩ s1
    | _ => .err
  | .keys e, env, st => (evE e env st).bind fun x s1 => match x with
    | .dic _ kvs => .ok ⟨kvs.map (·.1), none⟩ s1
    | _ => .err
  | .lit xs, _, st => .ok ⟨xs, none⟩ st
/-- a target is given a value -/
noncomputable def evT : CT → CV → Env → Sto → Fl
  | .var i, v, env, st => .nx (setV env i v) st
  | .tup ts, v, env, st => match v with
    | .tup xs => evTs ts xs env st
    | .kt ns => evTs ts (ns.map .int) env st
    | _ => .err
  | .attr e f, v, env, st => okF (evE e env st) fun o s1 => match setAttr P s1 o f v with
    | some s2 => .nx env s2
    | none => .err
  | .idx e i, v, env, st => okF (evE e env st) fun o s1 => okF (evE i env s1) fun x s2 => match setItem s2 o x v with
    | some s3 => .nx env s3
    | none => .err
noncomputable def evTs : CTs → List CV → Env → Sto → Fl
  | .nil, [], env, st => .nx env st
  | .cons t r, x :: xs, env, st => (evT t x env st).then fun env1 s1 => evTs r xs env1 s1
  | _, _, _, _ => .err
end
def setVs : List Nat → List CV → Env → Option Env
  | [], [], env => some env
  | i :: is, v :: vs, env => setVs is vs (setV env i v)
  | _, _, _ => none
mutual
noncomputable def evS : CS → Env → Sto → Fl
  | .pass, env, st => .nx env st
  | .expr e, env, st => Fl.ofR env (evE P F e env st) fun _ s1 => .nx env s1
  | .asg t e, env, st => Fl.ofR env (evE P F e env st) fun v s1 => (evT P F t v env s1).only
  | .par is es, env, st => Fl.ofR env (evEs P F es env st) fun vs s1 => match setVs is vs env with
    | some env1 => .nx env1 s1
    | none => .err
  | .aug i o e, env, st => match getV env i with
    | some v => Fl.ofR env (evE P F e env st) fun x s1 => match v, x with
      | .int a, .int b => match binop s1 o (.int a) (.int b) with
        | some z => .nx (setV env i z) s1
        | none => .err
      | _, _ => .err
    | none => .err
  | .ifs c a b, env, st => Fl.ofR env (evE P F c env st) fun x s1 => match x with
    | .bl true => evSs a env s1
    | .bl false => evSs b env s1
    | _ => .err
  | .fors t it b, env, st => Fl.ofR env (evI P F it env st) fun src s1 => src.offF (forL (fun x env s => (evT P F t x env s).only.then fun env2 s2 => evSs b env2 s2) src.items env (src.on s1))
  | .whiles c b, env, st => whileR (fun env st => evE P F c env st) (fun env st => evSs b env st) env st
  | .ret .no, _, st => .ret .non st
  | .ret (.yes e), env, st => Fl.ofR env (evE P F e env st) fun v s1 => .ret v s1
  | .raise c e, env, st => Fl.ofR env (evE P F e env st) fun v s1 => .exc c v env s1
  | .never, _, _ => .err
  | .zipc i es j elt t c, env, st => Fl.ofR env (evEs P F es env st) fun as s1 => match zip3L as with
    | some xs => Fl.ofR (wipeV env [i]) (evE P F (.comp elt t (.lit xs) c) (wipeV env [i]) s1) fun v s2 => .nx (setV (wipeV env [i]) j v) s2
    | none => .err
noncomputable def evSs : CSs → Env → Sto → Fl
  | .nil, env, st => .nx env st
  | .cons s r, env, st => (evS s env st).then fun env1 s1 => evSs r env1 s1
end
/-- a def's arguments, the defaults behind them -/
def fillArgs (d : FnI) (as : List CV) : Option (List CV) :=
  if as.length ≤ d.arity ∧ d.arity ≤ as.length + d.dfl.length then some (as ++ d.dfl.drop (as.length + d.dfl.length - d.arity)) else none
noncomputable def runFn (d : FnI) (as : List CV) (st : Sto) : R CV := match fillArgs d as with
  | none => .err
  | some vs => match evSs P F d.body (vs.map some ++ List.replicate (d.slots - d.arity) none) st with
    | .nx _ s => exitR st .non s
    | .ret v s => exitR st v s
    | .exc c v _ s => match exitR st v s with
      | .ok v2 s2 => .exc c v2 s2
      | _ => .err
    | .err => .err
end
/-- the program's functions, calls n deep -/
noncomputable def sem (P : Prog) : Nat → Fns
  | 0, _, _, _ => .err
  | n + 1, f, as, st => match P.fns[f]? with
    | some d => runFn P (sem P n) d as st
    | none => .err
end MP
end MPb_text

section MH_text
set_option Elab.async false
set_option linter.all false
set_option maxRecDepth 100000
/-! What the head reads off the program's top: definitions alone, so that the head can be run ahead of all else. -/
namespace MP
open PySem PySem.Spec PyProof.Rows L2
abbrev SS (s : List Nat) : Str := ⟨s.toArray⟩
def kdIs (P : Prog) : Option Ity → Ity → Bool
  | none, _ => false
  | some .bool, t => t == .int || t == .bool
  | some (.cls c), .cls d => c == d || (P.cls c).supers.contains d
  | some (.cls _), _ => false
  | some a, t => t == a
/-- the built-in names that stand for themselves -/
def bltNames : List String := ["len", "abs", "min", "max", "sum", "all", "any", "sorted", "int", "str", "list", "tuple", "dict", "bool", "isinstance", "range", "enumerate", "zip", "set", "repr", "reversed"]
/-- a def: the class it stands in (empty: none), its name, whether it is a property's getter; its text; the names of its slots -/
structure FX where
  cls : Str
  nm : Str
  prop : Bool
  qual : Str
  params : Arguments
  body : List Stmt
  scope : Scope
  dfl : List He.Dv
  ps : List Str
  N : List Str
/-- where a class's name leads -/
def propAt (K : PySem.W.Frag) (c m : Str) : Addr := He.ma K (He.ga K c) m
def fadr (K : PySem.W.Frag) (x : FX) : Addr := if x.cls = Str.empty then He.ga K x.nm else if x.prop then (match PySem.W.recIn K (propAt K x.cls x.nm) "property" with
  | some (.ref g :: _) => g
  | _ => 0) else He.ma K (He.ga K x.cls) x.nm
abbrev FnQ : Type := Option (Str × Str × Arguments × FuncBody × Scope × Addr × List (Str × Addr) × Addr)
def fnQ (K : PySem.W.Frag) (a : Addr) : FnQ := match K.lookup a with
  | some ⟨_, _, .func u, _⟩ => some (u.name, u.qualname, u.params, u.body, u.scope, u.globals, u.closure, u.builtins)
  | _ => none
def FX.val (x : FX) : FnQ := some (x.nm, x.qual, x.params, .stmts x.body, x.scope, mainGlobals, [], builtinsNs)
def FX.dvs (K : PySem.W.Frag) (x : FX) : List V := x.dfl.map (He.Dv.v K)
def FX.ok (K : PySem.W.Frag) (x : FX) : Bool := PySem.W.keepIn K (.ref (fadr K x)) && (match K.lookup (fadr K x) with
  | some ⟨_, _, .func u, _⟩ => PySem.W.codeIn K u.code x.qual && He.dflB K u.defaults (x.dvs K)
  | _ => false)
/-! ### what is read off K -/
section
variable (P : Prog) (xs : List FX) (K : PySem.W.Frag)
def caK (c : Nat) : Addr := He.ga K (SS (P.cls c).name)
def faK (f : Nat) : Addr := match xs[f]? with
  | some x => fadr K x
  | none => 0
def anP (f : Nat) : Str := match P.attrs[f]? with
  | some x => SS x
  | none => SS (List.replicate (f + 1) 0)
def itys : List Ity := [.int, .bool, .str, .tuple, .list, .dict] ++ (List.range P.clss.length).map .cls
def kdOpts : List (Option Ity) := none :: (itys P).map some
def ityK : Ity → Value
  | .int => .type "int" | .bool => .type "bool" | .str => .type "str" | .tuple => .type "tuple" | .list => .type "list" | .dict => .type "dict" | .cls c => .ref (caK P K c)
def kdK : Option Ity → Value
  | none => .type "NoneType"
  | some t => ityK P K t
def glB (p : List Nat × CV) : Bool := match p.2 with
  | .int i => (He.Fa.int (SS p.1) i).ok K
  | .str s => (He.Fa.str (SS p.1) (SS s)).ok K
  | .kt ns => (He.Fa.glo (SS p.1)).ok K && He.tupB K (SS p.1) (ns.map He.Dv.int)
  | _ => false
def clsB (i : ClsI) : Bool :=
  let C := He.ga K (SS i.name)
  ((He.Fa.cls (SS i.name)).ok K && (He.Fa.glo (SS i.name)).ok K) && ((decide (PySem.W.findIn K (.ref C) "__class__" = some (some (.builtin "object.__class__"))) && decide (PySem.W.mroIn K C (.type "object") = some true)) &&
  ((i.flds.all fun f => decide (PySem.W.findIn K (.ref C) (anP P f) = some none)) &&
  ((i.meths.all fun m => (decide (PySem.W.findIn K (.ref C) (anP P m.1) = some (some (.ref (faK xs K m.2)))) && (PySem.W.isFn K (.ref (faK xs K m.2)) && PySem.W.keepIn K (.ref (faK xs K m.2)))) && decide (m.2 < P.fns.length)) &&
  ((i.props.all fun m => let p := propAt K (SS i.name) (anP P m.1)
      (decide (PySem.W.findIn K (.ref C) (anP P m.1) = some (some (.ref p))) && (decide (PySem.W.specialIn K (.ref p) "__get__" = some (some (.builtin "property.__get__"))) && decide (PySem.W.takesIn K (.ref p) = some true))) && (match PySem.W.recIn K p "property" with
        | some (.ref g :: _) => decide (g = faK xs K m.2)
        | _ => false)) &&
  (match i.init with
    | none => true
    | some g => (PySem.W.makesIn K C && (decide (PySem.W.findIn K (.ref C) "__init__" = some (some (.ref (faK xs K g)))) && (PySem.W.isFn K (.ref (faK xs K g)) && PySem.W.keepIn K (.ref C)))) && decide (g < P.fns.length))))))
def chkK : Bool :=
  (xs.all fun x => x.ok K) && ((xs.all fun x => decide (x.cls ≠ Str.empty) || (He.Fa.glo x.nm).ok K) && ((bltNames.all fun s => (He.Fa.free (Str.ofString s)).ok K) && ((P.globs.all fun p => glB K p) && ((P.clss.all fun i => clsB P xs K i) &&
  ((decide (PySem.W.specialIn K (.builtin "object.__class__") "__get__" = some (some (.builtin "getset_descriptor.__get__"))) && decide (PySem.W.takesIn K (.builtin "object.__class__") = some true)) &&
  ((kdOpts P).all fun a => (itys P).all fun t => decide (PySem.W.kitOne K (kdK P K a) (ityK P K t) = some (kdIs P a t))))))))
end
def SaysX (P : Prog) (xs : List FX) (K : PySem.W.Frag) : Prop := chkK P xs K = true ∧ xs.map (fun x => fnQ K (fadr K x)) = xs.map FX.val
abbrev AlX : Type := Bool × List FnQ
def obsX (P : Prog) (xs : List FX) (K : PySem.W.Frag) : AlX := (chkK P xs K, xs.map fun x => fnQ K (fadr K x))
def valX (xs : List FX) : AlX := (true, xs.map FX.val)
/-- the addresses that are not seen yet; seen ones as bits of a number -/
def newAs : List Addr → Nat → List Addr → Nat × List Addr
  | [], seen, acc => (seen, acc)
  | a :: r, seen, acc => match Nat.beq (Nat.land (Nat.shiftRight seen a) 1) 1 with
    | true => newAs r seen acc
    | false => newAs r (Nat.lor seen (Nat.shiftLeft 1 a)) (a :: acc)
def refsAt (g : Addr → Option Obj) : List Addr → List Addr
  | [] => []
  | a :: r => (match g a with
    | some o => He.refsD o
    | none => []) ++ refsAt g r
/-- what is reached from some addresses in so many steps -/
def reach (g : Addr → Option Obj) : Nat → Nat → List Addr → List Addr → List Addr
  | 0, _, _, all => all
  | n + 1, seen, front, all => match newAs (refsAt g front) seen [] with
    | (seen1, new) => reach g n seen1 new (new ++ all)
def obsXG (n : Nat) (P : Prog) (xs : List FX) (g : Addr → Option Obj) : AlX := obsX P xs (He.frG g (cStatics :: reach g n (Nat.shiftLeft 1 mainGlobals) [mainGlobals] [mainGlobals]))
theorem saysX {P : Prog} {xs : List FX} {K : PySem.W.Frag} (e : obsX P xs K = valX xs) : SaysX P xs K := ⟨congrArg (fun z : AlX => z.1) e, congrArg (fun z : AlX => z.2) e⟩
def hookX (n : Nat) (P : Prog) (xs : List FX) : PySem.W.Hook where
  α := AlX
  obs := fun s => obsXG n P xs s.heap.get?
  val := fun _ => valX xs
  says := fun _ h => ∃ K : PySem.W.Frag, K.In h ∧ SaysX P xs K
  of := fun _ _ e => ⟨_, He.frG_in, saysX e⟩
  keeps := fun _ _ _ ⟨K, a, c⟩ k => ⟨K, PySem.W.Frag.In.keeps a k, c⟩
theorem obsXG_eq {n : Nat} {P : Prog} {xs : List FX} {g : Addr → Option Obj} {s : Shared} (h : ∀ a, g a = s.heap.get? a) : obsXG n P xs g = (hookX n P xs).obs s := by
  obtain rfl : g = s.heap.get? := funext h
  rfl
end MP
end MH_text

section K82C_text
set_option Elab.async false
set_option linter.all false
set_option maxRecDepth 100000
set_option maxHeartbeats 4000000
/-! The clean program. -/
namespace LW
open MP
abbrev f_is_integer : Nat := 0
abbrev f_is_tuple : Nat := 1
abbrev f_is_said : Nat := 2
abbrev f_integer_in : Nat := 3
abbrev f_common : Nat := 4
abbrev f_number : Nat := 5
abbrev f_is_number : Nat := 6
abbrev f_is_size : Nat := 7
abbrev f_is_below : Nat := 8
abbrev f_number_in : Nat := 9
abbrev f_step_in : Nat := 10
abbrev f_space_at : Nat := 11
abbrev f_parts_of : Nat := 12
abbrev f_text_by : Nat := 13
abbrev f_worths_by : Nat := 14
abbrev f_space_of : Nat := 15
abbrev f_is_part : Nat := 16
abbrev f_is_lot : Nat := 17
abbrev f_check_lot : Nat := 18
abbrev f_Rule_init : Nat := 19
abbrev f_Rule_text : Nat := 20
abbrev f_Rule_box : Nat := 21
abbrev f_Rule_bound : Nat := 22
abbrev f_Rule_steps : Nat := 23
abbrev f_Rule_worth : Nat := 24
abbrev f_Rule_reckoned : Nat := 25
abbrev f_Rule_with_worth : Nat := 26
abbrev f_worths : Nat := 27
abbrev f_rest_beside : Nat := 28
abbrev f_endless_worth : Nat := 29
abbrev f_true_steps : Nat := 30
abbrev f_least_table : Nat := 31
abbrev f_steps_within : Nat := 32
abbrev f_lot_by : Nat := 33
abbrev f_endless_lot : Nat := 34
abbrev f_judged : Nat := 35
abbrev f_check_sound : Nat := 36
abbrev f_most : Nat := 37
abbrev f_size_amid : Nat := 38
abbrev f_first_room : Nat := 39
abbrev f_greatest : Nat := 40
abbrev f_most_beside : Nat := 41
abbrev f_is_sound_with : Nat := 42
abbrev f_shows_greatest : Nat := 43
abbrev f__law_pot : Nat := 44
abbrev f__law_take : Nat := 45
abbrev f__law_some : Nat := 46
abbrev f__law_cells : Nat := 47
abbrev f__law_number : Nat := 48
abbrev f__law_text : Nat := 49
abbrev f__law_rule : Nat := 50
abbrev f__law_spot : Nat := 51
abbrev f__law_space : Nat := 52
abbrev f__law_join : Nat := 53
abbrev f__law_at : Nat := 54
abbrev f__law_worth : Nat := 55
abbrev f__law_is_endless : Nat := 56
abbrev f__law_worths : Nat := 57
abbrev f__law_is_best : Nat := 58
abbrev f__law_is_greatest : Nat := 59
abbrev f__law_text_by : Nat := 60
abbrev f__law_lore_of : Nat := 61
abbrev f__law_fills : Nat := 62
abbrev f__law_numbered : Nat := 63
abbrev f__law_is_small_right : Nat := 64
abbrev f__law_right : Nat := 65
abbrev f_law : Nat := 66
abbrev c_Rule : Nat := 0
abbrev g_BLANK : Nat := 0
abbrev g_FEED : Nat := 1
abbrev g_DIGITS : Nat := 2
abbrev g_MOST_BOX : Nat := 3
abbrev g_PAIR : Nat := 4
abbrev g_BOX : Nat := 5
abbrev g_BOUND : Nat := 6
abbrev g_FROM : Nat := 7
abbrev g_BEYOND : Nat := 8
abbrev g_MOST_WORTH : Nat := 9
abbrev g_TRIPLE_rules : Nat := 10
abbrev g_SOUND : Nat := 11
abbrev g_BROKEN : Nat := 12
abbrev g_GREATEST : Nat := 13
abbrev g_ROOM : Nat := 14
abbrev g_TRIPLE_greatest : Nat := 15
abbrev a_init : Nat := 0
abbrev a_text : Nat := 1
abbrev a_box : Nat := 2
abbrev a_bound : Nat := 3
abbrev a_steps : Nat := 4
abbrev a_worth : Nat := 5
abbrev a_reckoned : Nat := 6
abbrev a_with_worth : Nat := 7
abbrev a_own_worths : Nat := 8
abbrev a_own_steps : Nat := 9
abbrev a_own_bound : Nat := 10
abbrev a_own_box : Nat := 11
abbrev a_own_text : Nat := 12
def b_is_integer : CSs := (.cons (.ifs (.bools false (.cons false (.not (.isin (.var 0) .int)) (.cons false (.isin (.var 0) .bool) .nil))) (.cons (.ret (.yes (.bool false))) .nil) .nil) (.cons (.ret (.yes (.bools true (.cons false (.bools false (.cons false (.isc false none (.var 1)) (.cons false (.cmp .le (.var 1) (.var 0)) .nil))) (.cons false (.bools false (.cons false (.isc false none (.var 2)) (.cons false (.cmp .le (.var 0) (.var 2)) .nil))) .nil))))) .nil))
def d_is_integer : FnI := ⟨[105, 115, 95, 105, 110, 116, 101, 103, 101, 114], 3, [.non, .non], 3, b_is_integer⟩
def b_is_tuple : CSs := (.cons (.ret (.yes (.bools true (.cons false (.isin (.var 0) .tuple) (.cons false (.cmp .le (.var 1) (.bfn .len (.cons false (.var 0) .nil))) (.cons false (.bools false (.cons false (.isc false none (.var 2)) (.cons false (.cmp .le (.bfn .len (.cons false (.var 0) .nil)) (.var 2)) .nil))) .nil)))))) .nil)
def d_is_tuple : FnI := ⟨[105, 115, 95, 116, 117, 112, 108, 101], 3, [.non], 3, b_is_tuple⟩
def b_is_said : CSs := (.cons (.ret (.yes (.bools true (.cons false (.isin (.var 0) .str) (.cons false (.cmp .inn (.var 0) (.var 1)) .nil))))) .nil)
def d_is_said : FnI := ⟨[105, 115, 95, 115, 97, 105, 100], 2, [], 2, b_is_said⟩
def b_integer_in : CSs := (.cons (.asg (.var 1) (.ite (.cmp .eq (.slice (.var 0) .no (.yes (.int 1))) (.str [45])) (.slice (.var 0) (.yes (.int 1)) .no) (.var 0))) (.cons (.ifs (.bools false (.cons false (.cmp .eq (.var 1) (.str [])) (.cons false (.not (.bfn .all (.cons false (.comp (.cmp .inn (.var 2) (.glob g_DIGITS)) (.var 2) (.seq (.var 1)) .no) .nil))) .nil))) (.cons (.ret (.yes .non)) .nil) .nil) (.cons (.ifs (.bools true (.cons false (.cmp .eq (.idx (.var 1) (.int 0)) (.str [48])) (.cons false (.cmp .ne (.var 0) (.str [48])) .nil))) (.cons (.ret (.yes .non)) .nil) .nil) (.cons (.ret (.yes (.bfn .int (.cons false (.var 0) .nil)))) .nil))))
def d_integer_in : FnI := ⟨[105, 110, 116, 101, 103, 101, 114, 95, 105, 110], 1, [], 3, b_integer_in⟩
def b_common : CSs := (.cons (.whiles (.cmp .gt (.var 1) (.int 0)) (.cons (.par [0, 1] (.cons false (.var 1) (.cons false (.bin .mod (.var 0) (.var 1)) .nil))) .nil)) (.cons (.ret (.yes (.var 0))) .nil))
def d_common : FnI := ⟨[99, 111, 109, 109, 111, 110], 2, [], 2, b_common⟩
def b_number : CSs := (.cons (.asg (.var 2) (.call f_common (.cons false (.var 0) (.cons false (.var 1) .nil)))) (.cons (.ret (.yes (.tup (.cons false (.bin .fdiv (.var 0) (.var 2)) (.cons false (.bin .fdiv (.var 1) (.var 2)) .nil))))) .nil))
def d_number : FnI := ⟨[110, 117, 109, 98, 101, 114], 2, [], 3, b_number⟩
def b_is_number : CSs := (.cons (.ifs (.bools false (.cons false (.not (.call f_is_tuple (.cons false (.var 0) (.cons false (.glob g_PAIR) (.cons false (.glob g_PAIR) .nil))))) (.cons false (.not (.call f_is_integer (.cons false (.idx (.var 0) (.int 0)) (.cons false (.int 0) .nil)))) (.cons false (.not (.call f_is_integer (.cons false (.idx (.var 0) (.int 1)) (.cons false (.int 1) .nil)))) .nil)))) (.cons (.ret (.yes (.bool false))) .nil) .nil) (.cons (.ret (.yes (.cmp .eq (.call f_common (.cons false (.idx (.var 0) (.int 0)) (.cons false (.idx (.var 0) (.int 1)) .nil))) (.int 1)))) .nil))
def d_is_number : FnI := ⟨[105, 115, 95, 110, 117, 109, 98, 101, 114], 1, [], 1, b_is_number⟩
def b_is_size : CSs := (.cons (.ret (.yes (.bools true (.cons false (.call f_is_number (.cons false (.var 0) .nil)) (.cons false (.chain .lt .le (.int 0) (.idx (.var 0) (.int 0)) (.bin .mul (.var 1) (.idx (.var 0) (.int 1)))) .nil))))) .nil)
def d_is_size : FnI := ⟨[105, 115, 95, 115, 105, 122, 101], 2, [], 2, b_is_size⟩
def b_is_below : CSs := (.cons (.ret (.yes (.cmp .lt (.bin .mul (.idx (.var 0) (.int 0)) (.idx (.var 1) (.int 1))) (.bin .mul (.idx (.var 1) (.int 0)) (.idx (.var 0) (.int 1)))))) .nil)
def d_is_below : FnI := ⟨[105, 115, 95, 98, 101, 108, 111, 119], 2, [], 2, b_is_below⟩
def b_number_in : CSs := (.cons (.asg (.var 3) (.bm .split (.var 0) (.cons false (.glob g_BLANK) .nil))) (.cons (.asg (.var 4) (.ite (.bools true (.cons false (.cmp .eq (.bfn .len (.cons false (.var 3) .nil)) (.glob g_PAIR)) (.cons false (.cmp .eq (.idx (.var 3) (.int 0)) (.var 1)) .nil))) (.call f_integer_in (.cons false (.idx (.var 3) (.int 1)) .nil)) .non)) (.cons (.ret (.yes (.ite (.bools true (.cons false (.isc true none (.var 4)) (.cons false (.chain .le .le (.int 1) (.var 4) (.var 2)) .nil))) (.var 4) .non))) .nil)))
def d_number_in : FnI := ⟨[110, 117, 109, 98, 101, 114, 95, 105, 110], 3, [], 5, b_number_in⟩
def b_step_in : CSs := (.cons (.asg (.var 2) (.bm .split (.var 0) (.cons false (.glob g_BLANK) .nil))) (.cons (.ifs (.bools false (.cons false (.cmp .ne (.bfn .len (.cons false (.var 2) .nil)) (.glob g_TRIPLE_rules)) (.cons false (.cmp .notin (.idx (.var 2) (.int 0)) (.tup (.cons false (.glob g_FROM) (.cons false (.glob g_BEYOND) .nil)))) .nil))) (.cons (.ret (.yes .non)) .nil) .nil) (.cons (.par [3, 4] (.cons false (.call f_integer_in (.cons false (.idx (.var 2) (.int 1)) .nil)) (.cons false (.call f_integer_in (.cons false (.idx (.var 2) (.neg (.int 1))) .nil)) .nil))) (.cons (.asg (.var 5) (.ite (.cmp .eq (.idx (.var 2) (.int 0)) (.glob g_FROM)) (.int 1) (.int 0))) (.cons (.ifs (.bools false (.cons false (.isc false none (.var 3)) (.cons false (.isc false none (.var 4)) (.cons false (.not (.chain .le .lt (.var 5) (.var 3) (.bin .add (.var 1) (.var 5)))) (.cons false (.not (.chain .le .le (.int 0) (.var 4) (.glob g_MOST_WORTH))) .nil))))) (.cons (.ret (.yes .non)) .nil) .nil) (.cons (.ret (.yes (.tup (.cons false (.idx (.var 2) (.int 0)) (.cons false (.var 3) (.cons false (.var 4) .nil)))))) .nil))))))
def d_step_in : FnI := ⟨[115, 116, 101, 112, 95, 105, 110], 2, [], 6, b_step_in⟩
def b_space_at : CSs := (.cons (.ret (.yes (.bin .add (.bin .mul (.glob g_PAIR) (.idx (.var 0) (.int 1))) (.bfn .int (.cons false (.cmp .eq (.idx (.var 0) (.int 0)) (.glob g_BEYOND)) .nil))))) .nil)
def d_space_at : FnI := ⟨[115, 112, 97, 99, 101, 95, 97, 116], 1, [], 1, b_space_at⟩
def b_parts_of : CSs := (.cons (.ifs (.not (.isin (.var 0) .str)) (.cons .never .nil) .nil) (.cons (.asg (.var 1) (.bm .split (.var 0) (.cons false (.glob g_FEED) .nil))) (.cons (.asg (.var 2) (.call f_number_in (.cons false (.idx (.var 1) (.int 0)) (.cons false (.glob g_BOX) (.cons false (.glob g_MOST_BOX) .nil))))) (.cons (.ifs (.isc false none (.var 2)) (.cons .never .nil) .nil) (.cons (.asg (.var 3) (.ite (.cmp .gt (.bfn .len (.cons false (.var 1) .nil)) (.int 1)) (.call f_number_in (.cons false (.idx (.var 1) (.int 1)) (.cons false (.glob g_BOUND) (.cons false (.glob g_MOST_WORTH) .nil)))) .non)) (.cons (.ifs (.isc false none (.var 3)) (.cons .never .nil) .nil) (.cons (.asg (.var 4) (.box (.lst .nil))) (.cons (.fors (.tup (.cons (.var 5) (.cons (.var 6) .nil))) (.enum (.slice (.var 1) (.yes (.glob g_PAIR)) .no)) (.cons (.asg (.var 7) (.call f_step_in (.cons false (.var 6) (.cons false (.var 2) .nil)))) (.cons (.ifs (.bools false (.cons false (.isc false none (.var 7)) (.cons false (.bools true (.cons false (.cmp .ne (.var 4) (.lst .nil)) (.cons false (.cmp .le (.call f_space_at (.cons false (.var 7) .nil)) (.call f_space_at (.cons false (.idx (.var 4) (.neg (.int 1))) .nil))) .nil))) .nil))) (.cons .never .nil) .nil) (.cons (.expr (.bm .append (.var 4) (.cons false (.var 7) .nil))) .nil)))) (.cons (.ret (.yes (.tup (.cons false (.var 2) (.cons false (.var 3) (.cons false (.bfn .tuple (.cons false (.var 4) .nil)) .nil)))))) .nil)))))))))
def d_parts_of : FnI := ⟨[112, 97, 114, 116, 115, 95, 111, 102], 1, [], 8, b_parts_of⟩
def b_text_by : CSs := (.cons (.asg (.var 3) (.lst (.cons false (.fstr (.cons false (.glob g_BOX) (.cons false (.str [32]) (.cons false (.var 0) .nil)))) (.cons false (.fstr (.cons false (.glob g_BOUND) (.cons false (.str [32]) (.cons false (.var 1) .nil)))) .nil)))) (.cons (.ret (.yes (.bm .join (.glob g_FEED) (.cons false (.lst (.cons true (.var 3) (.cons true (.comp (.fstr (.cons false (.var 4) (.cons false (.str [32]) (.cons false (.var 5) (.cons false (.str [32]) (.cons false (.var 6) .nil)))))) (.tup (.cons (.var 4) (.cons (.var 5) (.cons (.var 6) .nil)))) (.seq (.var 2)) .no) .nil))) .nil)))) .nil))
def d_text_by : FnI := ⟨[116, 101, 120, 116, 95, 98, 121], 3, [], 7, b_text_by⟩
def b_worths_by : CSs := (.cons (.asg (.var 2) (.dcomp false (.call f_space_at (.cons false (.var 3) .nil)) (.idx (.var 3) (.neg (.int 1))) (.var 3) (.seq (.var 1)))) (.cons (.asg (.var 4) (.box (.lst (.cons false (.int 0) .nil)))) (.cons (.fors (.var 5) (.rng2 (.int 1) (.bin .add (.bin .mul (.glob g_PAIR) (.var 0)) (.int 1))) (.cons (.expr (.bm .append (.var 4) (.cons false (.bm .get2 (.var 2) (.cons false (.var 5) (.cons false (.idx (.var 4) (.neg (.int 1))) .nil))) .nil))) .nil)) (.cons (.ret (.yes (.bfn .tuple (.cons false (.var 4) .nil)))) .nil))))
def d_worths_by : FnI := ⟨[119, 111, 114, 116, 104, 115, 95, 98, 121], 2, [], 6, b_worths_by⟩
def b_space_of : CSs := (.cons (.asg (.tup (.cons (.var 1) (.cons (.var 2) .nil))) (.var 0)) (.cons (.ret (.yes (.bin .add (.bin .mul (.glob g_PAIR) (.bin .fdiv (.var 1) (.var 2))) (.bfn .int (.cons false (.cmp .gt (.bin .mod (.var 1) (.var 2)) (.int 0)) .nil))))) .nil))
def d_space_of : FnI := ⟨[115, 112, 97, 99, 101, 95, 111, 102], 1, [], 3, b_space_of⟩
def b_is_part : CSs := (.cons (.ifs (.bools false (.cons false (.not (.call f_is_tuple (.cons false (.var 0) (.cons false (.glob g_PAIR) (.cons false (.glob g_PAIR) .nil))))) (.cons false (.not (.call f_is_integer (.cons false (.idx (.var 0) (.int 1)) (.cons false (.int 1) .nil)))) (.cons false (.not (.call f_is_number (.cons false (.idx (.var 0) (.int 0)) .nil))) .nil)))) (.cons (.ret (.yes (.bool false))) .nil) .nil) (.cons (.ret (.yes (.ite (.isc false none (.var 1)) (.cmp .gt (.idx (.idx (.var 0) (.int 0)) (.int 0)) (.int 0)) (.call f_is_size (.cons false (.idx (.var 0) (.int 0)) (.cons false (.var 1) .nil)))))) .nil))
def d_is_part : FnI := ⟨[105, 115, 95, 112, 97, 114, 116], 2, [], 2, b_is_part⟩
def b_is_lot : CSs := (.cons (.ifs (.bools false (.cons false (.not (.call f_is_tuple (.cons false (.var 0) (.cons false (.int 0) .nil)))) (.cons false (.not (.bfn .all (.cons false (.comp (.call f_is_part (.cons false (.var 2) (.cons false (.var 1) .nil))) (.var 2) (.seq (.var 0)) .no) .nil))) .nil))) (.cons (.ret (.yes (.bool false))) .nil) .nil) (.cons (.ret (.yes (.cmp .eq (.bfn .len (.cons false (.dcomp true (.var 3) (.bool true) (.tup (.cons (.var 3) (.cons (.var 4) .nil))) (.seq (.var 0))) .nil)) (.bfn .len (.cons false (.var 0) .nil))))) .nil))
def d_is_lot : FnI := ⟨[105, 115, 95, 108, 111, 116], 2, [], 5, b_is_lot⟩
def b_check_lot : CSs := (.cons (.ifs (.not (.call f_is_lot (.cons false (.var 0) (.cons false (.var 1) .nil)))) (.cons .never .nil) .nil) .nil)
def d_check_lot : FnI := ⟨[99, 104, 101, 99, 107, 95, 108, 111, 116], 2, [], 2, b_check_lot⟩
def b_Rule_init : CSs := (.cons (.asg (.tup (.cons (.var 2) (.cons (.var 3) (.cons (.var 4) .nil)))) (.call f_parts_of (.cons false (.var 1) .nil))) (.cons (.asg (.attr (.var 0) a_own_text) (.var 1)) (.cons (.asg (.attr (.var 0) a_own_box) (.var 2)) (.cons (.asg (.attr (.var 0) a_own_bound) (.var 3)) (.cons (.asg (.attr (.var 0) a_own_steps) (.var 4)) (.cons (.asg (.attr (.var 0) a_own_worths) (.call f_worths_by (.cons false (.var 2) (.cons false (.var 4) .nil)))) .nil))))))
def d_Rule_init : FnI := ⟨[], 2, [], 5, b_Rule_init⟩
def b_Rule_text : CSs := (.cons (.ret (.yes (.attr (.var 0) a_own_text))) .nil)
def d_Rule_text : FnI := ⟨[], 1, [], 1, b_Rule_text⟩
def b_Rule_box : CSs := (.cons (.ret (.yes (.attr (.var 0) a_own_box))) .nil)
def d_Rule_box : FnI := ⟨[], 1, [], 1, b_Rule_box⟩
def b_Rule_bound : CSs := (.cons (.ret (.yes (.attr (.var 0) a_own_bound))) .nil)
def d_Rule_bound : FnI := ⟨[], 1, [], 1, b_Rule_bound⟩
def b_Rule_steps : CSs := (.cons (.ret (.yes (.attr (.var 0) a_own_steps))) .nil)
def d_Rule_steps : FnI := ⟨[], 1, [], 1, b_Rule_steps⟩
def b_Rule_worth : CSs := (.cons (.ifs (.not (.call f_is_size (.cons false (.var 1) (.cons false (.attr (.var 0) a_own_box) .nil)))) (.cons .never .nil) .nil) (.cons (.ret (.yes (.idx (.attr (.var 0) a_own_worths) (.call f_space_of (.cons false (.var 1) .nil))))) .nil))
def d_Rule_worth : FnI := ⟨[], 2, [], 2, b_Rule_worth⟩
def b_Rule_reckoned : CSs := (.cons (.expr (.call f_check_lot (.cons false (.var 1) (.cons false (.attr (.var 0) a_own_box) .nil)))) (.cons (.ret (.yes (.bfn .sum (.cons false (.comp (.bin .mul (.var 3) (.idx (.attr (.var 0) a_own_worths) (.call f_space_of (.cons false (.var 2) .nil)))) (.tup (.cons (.var 2) (.cons (.var 3) .nil))) (.seq (.var 1)) .no) .nil)))) .nil))
def d_Rule_reckoned : FnI := ⟨[], 2, [], 4, b_Rule_reckoned⟩
def b_Rule_with_worth : CSs := (.cons (.ifs (.not (.call f_is_integer (.cons false (.var 1) (.cons false (.int 0) (.cons false (.bin .sub (.bfn .len (.cons false (.attr (.var 0) a_own_steps) .nil)) (.int 1)) .nil))))) (.cons .never .nil) .nil) (.cons (.ifs (.not (.call f_is_integer (.cons false (.var 2) (.cons false (.int 0) (.cons false (.glob g_MOST_WORTH) .nil))))) (.cons .never .nil) .nil) (.cons (.asg (.tup (.cons (.var 3) (.cons (.var 4) (.cons (.var 5) .nil)))) (.idx (.attr (.var 0) a_own_steps) (.var 1))) (.cons (.asg (.var 6) (.lst (.cons true (.slice (.attr (.var 0) a_own_steps) .no (.yes (.var 1))) (.cons false (.tup (.cons false (.var 3) (.cons false (.var 4) (.cons false (.var 2) .nil)))) (.cons true (.slice (.attr (.var 0) a_own_steps) (.yes (.bin .add (.var 1) (.int 1))) .no) .nil))))) (.cons (.ret (.yes (.new c_Rule (.cons false (.call f_text_by (.cons false (.attr (.var 0) a_own_box) (.cons false (.attr (.var 0) a_own_bound) (.cons false (.var 6) .nil)))) .nil)))) .nil)))))
def d_Rule_with_worth : FnI := ⟨[], 3, [], 7, b_Rule_with_worth⟩
def b_worths : CSs := (.cons (.ret (.yes (.attr (.var 0) a_own_worths))) .nil)
def d_worths : FnI := ⟨[119, 111, 114, 116, 104, 115], 1, [], 1, b_worths⟩
def b_rest_beside : CSs := (.cons (.asg (.var 2) (.bin .sub (.var 0) (.var 1))) (.cons (.ret (.yes (.bin .add (.var 2) (.bfn .int (.cons false (.bools true (.cons false (.cmp .eq (.bin .mod (.var 1) (.glob g_PAIR)) (.int 1)) (.cons false (.cmp .eq (.bin .mod (.var 2) (.glob g_PAIR)) (.int 0)) .nil))) .nil))))) .nil))
def d_rest_beside : FnI := ⟨[114, 101, 115, 116, 95, 98, 101, 115, 105, 100, 101], 2, [], 3, b_rest_beside⟩
def b_endless_worth : CSs := (.cons (.ret (.yes (.idx (.attr (.var 0) a_own_worths) (.int 1)))) .nil)
def d_endless_worth : FnI := ⟨[101, 110, 100, 108, 101, 115, 115, 95, 119, 111, 114, 116, 104], 1, [], 1, b_endless_worth⟩
def b_true_steps : CSs := (.cons (.ret (.yes (.comp (.tup (.cons false (.call f_space_at (.cons false (.var 1) .nil)) (.cons false (.idx (.var 1) (.neg (.int 1))) .nil))) (.var 1) (.seq (.attr (.var 0) a_steps)) (.yes (.cmp .gt (.idx (.var 1) (.neg (.int 1))) (.int 0)))))) .nil)
def d_true_steps : FnI := ⟨[116, 114, 117, 101, 95, 115, 116, 101, 112, 115], 1, [], 2, b_true_steps⟩
def b_least_table : CSs := (.cons (.asg (.tup (.cons (.var 1) (.cons (.var 2) .nil))) (.tup (.cons false (.box (.lst (.cons false (.int 0) .nil))) (.cons false (.call f_true_steps (.cons false (.var 0) .nil)) .nil)))) (.cons (.fors (.var 3) (.rng2 (.int 1) (.bin .add (.bin .mul (.glob g_PAIR) (.attr (.var 0) a_box)) (.int 1))) (.cons (.asg (.var 4) (.comp (.tup (.cons false (.call f_rest_beside (.cons false (.var 3) (.cons false (.var 5) .nil))) (.cons false (.var 6) .nil))) (.tup (.cons (.var 5) (.cons (.var 6) .nil))) (.seq (.var 2)) .no)) (.cons (.expr (.bm .append (.var 1) (.cons false (.bfn .maxl (.cons false (.lst (.cons false (.idx (.var 1) (.neg (.int 1))) (.cons true (.comp (.bin .add (.idx (.var 1) (.var 7)) (.var 6)) (.tup (.cons (.var 7) (.cons (.var 6) .nil))) (.seq (.var 4)) (.yes (.cmp .ge (.var 7) (.int 0)))) .nil))) .nil)) .nil))) .nil))) (.cons (.ret (.yes (.bfn .tuple (.cons false (.var 1) .nil)))) .nil)))
def d_least_table : FnI := ⟨[108, 101, 97, 115, 116, 95, 116, 97, 98, 108, 101], 1, [], 8, b_least_table⟩
def b_steps_within : CSs := (.cons (.asg (.var 3) (.box (.lst .nil))) (.cons (.whiles (.cmp .gt (.idx (.var 1) (.var 2)) (.int 0)) (.cons (.ifs (.cmp .eq (.idx (.var 1) (.var 2)) (.idx (.var 1) (.bin .sub (.var 2) (.int 1)))) (.cons (.aug 2 .sub (.int 1)) .nil) (.cons (.asg (.var 4) (.box (.lst .nil))) (.cons (.fors (.var 5) (.seq (.attr (.var 0) a_steps)) (.cons (.asg (.var 6) (.call f_rest_beside (.cons false (.var 2) (.cons false (.call f_space_at (.cons false (.var 5) .nil)) .nil)))) (.cons (.ifs (.bools true (.cons false (.cmp .gt (.idx (.var 5) (.neg (.int 1))) (.int 0)) (.cons false (.cmp .ge (.var 6) (.int 0)) (.cons false (.cmp .eq (.bin .add (.idx (.var 1) (.var 6)) (.idx (.var 5) (.neg (.int 1)))) (.idx (.var 1) (.var 2))) .nil)))) (.cons (.expr (.bm .append (.var 4) (.cons false (.tup (.cons false (.var 5) (.cons false (.var 6) .nil))) .nil))) .nil) .nil) .nil))) (.cons (.expr (.bm .append (.var 3) (.cons false (.idx (.idx (.var 4) (.int 0)) (.int 0)) .nil))) (.cons (.asg (.var 2) (.idx (.idx (.var 4) (.int 0)) (.int 1))) .nil))))) .nil)) (.cons (.ret (.yes (.frz (.var 3)))) .nil)))
def d_steps_within : FnI := ⟨[115, 116, 101, 112, 115, 95, 119, 105, 116, 104, 105, 110], 3, [], 7, b_steps_within⟩
def b_lot_by : CSs := (.cons (.asg (.var 1) (.bin .add (.bfn .len (.cons false (.comp (.var 2) (.var 2) (.seq (.var 0)) (.yes (.cmp .eq (.idx (.var 2) (.int 0)) (.glob g_BEYOND)))) .nil)) (.int 1))) (.cons (.asg (.var 3) (.box (.dic true .nil))) (.cons (.fors (.tup (.cons (.var 4) (.cons (.var 5) (.cons (.var 6) .nil)))) (.seq (.var 0)) (.cons (.asg (.var 7) (.ite (.cmp .eq (.var 4) (.glob g_BEYOND)) (.call f_number (.cons false (.bin .add (.bin .mul (.var 5) (.var 1)) (.int 1)) (.cons false (.var 1) .nil))) (.tup (.cons false (.var 5) (.cons false (.int 1) .nil))))) (.cons (.asg (.idx (.var 3) (.var 7)) (.bin .add (.bm .get2 (.var 3) (.cons false (.var 7) (.cons false (.int 0) .nil))) (.int 1))) .nil))) (.cons (.ret (.yes (.bfn .titems (.cons false (.var 3) .nil)))) .nil))))
def d_lot_by : FnI := ⟨[108, 111, 116, 95, 98, 121], 1, [], 8, b_lot_by⟩
def b_endless_lot : CSs := (.cons (.asg (.var 1) (.bin .add (.bfn .max2 (.cons false (.attr (.var 0) a_box) (.cons false (.bin .fdiv (.attr (.var 0) a_bound) (.call f_endless_worth (.cons false (.var 0) .nil))) .nil))) (.int 1))) (.cons (.ret (.yes (.tup (.cons false (.tup (.cons false (.call f_number (.cons false (.attr (.var 0) a_box) (.cons false (.var 1) .nil))) (.cons false (.var 1) .nil))) .nil)))) .nil))
def d_endless_lot : FnI := ⟨[101, 110, 100, 108, 101, 115, 115, 95, 108, 111, 116], 1, [], 2, b_endless_lot⟩
def b_judged : CSs := (.cons (.ifs (.cmp .gt (.call f_endless_worth (.cons false (.var 0) .nil)) (.int 0)) (.cons (.ret (.yes (.tup (.cons false (.glob g_BROKEN) (.cons false (.call f_endless_lot (.cons false (.var 0) .nil)) .nil))))) .nil) .nil) (.cons (.asg (.var 1) (.call f_least_table (.cons false (.var 0) .nil))) (.cons (.ifs (.cmp .le (.idx (.var 1) (.neg (.int 1))) (.attr (.var 0) a_bound)) (.cons (.ret (.yes (.tup (.cons false (.glob g_SOUND) (.cons false (.var 1) .nil))))) .nil) .nil) (.cons (.ret (.yes (.tup (.cons false (.glob g_BROKEN) (.cons false (.call f_lot_by (.cons false (.call f_steps_within (.cons false (.var 0) (.cons false (.var 1) (.cons false (.bin .sub (.bfn .len (.cons false (.var 1) .nil)) (.int 1)) .nil)))) .nil)) .nil))))) .nil))))
def d_judged : FnI := ⟨[106, 117, 100, 103, 101, 100], 1, [], 2, b_judged⟩
def b_check_sound : CSs := (.cons (.asg (.var 1) (.call f_judged (.cons false (.var 0) .nil))) (.cons (.ifs (.cmp .eq (.idx (.var 1) (.int 0)) (.glob g_BROKEN)) (.cons .never .nil) .nil) .nil))
def d_check_sound : FnI := ⟨[99, 104, 101, 99, 107, 95, 115, 111, 117, 110, 100], 1, [], 2, b_check_sound⟩
def b_most : CSs := (.cons (.ifs (.not (.call f_is_size (.cons false (.var 1) (.cons false (.attr (.var 0) a_box) .nil)))) (.cons .never .nil) .nil) (.cons (.ifs (.cmp .gt (.call f_endless_worth (.cons false (.var 0) .nil)) (.int 0)) (.cons .never .nil) .nil) (.cons (.ret (.yes (.idx (.call f_least_table (.cons false (.var 0) .nil)) (.call f_space_of (.cons false (.var 1) .nil))))) .nil)))
def d_most : FnI := ⟨[109, 111, 115, 116], 2, [], 2, b_most⟩
def b_size_amid : CSs := (.cons (.ret (.yes (.call f_number (.cons false (.var 0) (.cons false (.glob g_PAIR) .nil))))) .nil)
def d_size_amid : FnI := ⟨[115, 105, 122, 101, 95, 97, 109, 105, 100], 1, [], 1, b_size_amid⟩
def b_first_room : CSs := (.cons (.par [1, 2, 3] (.cons false (.call f_worths (.cons false (.var 0) .nil)) (.cons false (.call f_least_table (.cons false (.var 0) .nil)) (.cons false (.bin .mul (.glob g_PAIR) (.attr (.var 0) a_box)) .nil)))) (.cons (.fors (.var 4) (.rng2 (.int 1) (.bin .add (.var 3) (.int 1))) (.cons (.ifs (.cmp .gt (.idx (.var 2) (.var 4)) (.idx (.var 1) (.var 4))) (.cons (.ret (.yes (.tup (.cons false (.call f_size_amid (.cons false (.var 4) .nil)) (.cons false (.tup (.cons false (.idx (.var 2) (.var 4)) (.cons false (.int 1) .nil))) .nil))))) .nil) .nil) .nil)) (.cons (.fors (.var 4) (.rng3 (.var 3) (.int 0) (-1)) (.cons (.asg (.var 5) (.bin .sub (.bin .sub (.attr (.var 0) a_bound) (.idx (.var 1) (.var 4))) (.idx (.var 1) (.bin .sub (.var 3) (.var 4))))) (.cons (.ifs (.cmp .gt (.var 5) (.int 0)) (.cons (.ret (.yes (.tup (.cons false (.call f_size_amid (.cons false (.var 4) .nil)) (.cons false (.call f_number (.cons false (.bin .add (.bin .mul (.idx (.var 1) (.var 4)) (.bin .fdiv (.var 3) (.var 4))) (.var 5)) (.cons false (.bin .fdiv (.var 3) (.var 4)) .nil))) .nil))))) .nil) .nil) .nil))) (.cons (.ret (.yes .non)) .nil))))
def d_first_room : FnI := ⟨[102, 105, 114, 115, 116, 95, 114, 111, 111, 109], 1, [], 6, b_first_room⟩
def b_greatest : CSs := (.cons (.expr (.call f_check_sound (.cons false (.var 0) .nil))) (.cons (.asg (.var 1) (.call f_first_room (.cons false (.var 0) .nil))) (.cons (.ret (.yes (.ite (.isc false none (.var 1)) (.tup (.cons false (.glob g_GREATEST) .nil)) (.tup (.cons false (.glob g_ROOM) (.cons true (.var 1) .nil)))))) .nil)))
def d_greatest : FnI := ⟨[103, 114, 101, 97, 116, 101, 115, 116], 1, [], 2, b_greatest⟩
def b_most_beside : CSs := (.cons (.asg (.var 3) (.bin .sub (.attr (.var 0) a_box) (.bin .fdiv (.var 2) (.glob g_PAIR)))) (.cons (.par [4, 5] (.cons false (.bin .mul (.var 3) (.idx (.var 1) (.int 1))) (.cons false (.idx (.var 1) (.int 0)) .nil))) (.cons (.ret (.yes (.ite (.cmp .eq (.bin .mod (.var 2) (.glob g_PAIR)) (.int 0)) (.bin .fdiv (.var 4) (.var 5)) (.bin .fdiv (.bin .sub (.var 4) (.int 1)) (.var 5))))) .nil)))
def d_most_beside : FnI := ⟨[109, 111, 115, 116, 95, 98, 101, 115, 105, 100, 101], 3, [], 6, b_most_beside⟩
def b_is_sound_with : CSs := (.cons (.fors (.tup (.cons (.var 3) (.cons (.var 4) .nil))) (.enum (.call f_least_table (.cons false (.var 0) .nil))) (.cons (.asg (.var 5) (.call f_most_beside (.cons false (.var 0) (.cons false (.var 1) (.cons false (.var 3) .nil))))) (.cons (.ifs (.bools true (.cons false (.cmp .gt (.var 5) (.int 0)) (.cons false (.cmp .gt (.bin .mul (.var 5) (.idx (.var 2) (.int 0))) (.bin .mul (.bin .sub (.attr (.var 0) a_bound) (.var 4)) (.idx (.var 2) (.int 1)))) .nil))) (.cons (.ret (.yes (.bool false))) .nil) .nil) .nil))) (.cons (.ret (.yes (.bool true))) .nil))
def d_is_sound_with : FnI := ⟨[105, 115, 95, 115, 111, 117, 110, 100, 95, 119, 105, 116, 104], 3, [], 6, b_is_sound_with⟩
def b_shows_greatest : CSs := (.cons (.expr (.call f_check_sound (.cons false (.var 0) .nil))) (.cons (.ifs (.call f_is_tuple (.cons false (.var 1) (.cons false (.int 1) (.cons false (.int 1) .nil)))) (.cons (.ret (.yes (.bools true (.cons false (.call f_is_said (.cons false (.idx (.var 1) (.int 0)) (.cons false (.tup (.cons false (.glob g_GREATEST) .nil)) .nil))) (.cons false (.isc false none (.call f_first_room (.cons false (.var 0) .nil))) .nil))))) .nil) .nil) (.cons (.ifs (.bools false (.cons false (.not (.call f_is_tuple (.cons false (.var 1) (.cons false (.glob g_TRIPLE_greatest) (.cons false (.glob g_TRIPLE_greatest) .nil))))) (.cons false (.not (.call f_is_said (.cons false (.idx (.var 1) (.int 0)) (.cons false (.tup (.cons false (.glob g_ROOM) .nil)) .nil)))) .nil))) (.cons (.ret (.yes (.bool false))) .nil) .nil) (.cons (.ifs (.bools false (.cons false (.not (.call f_is_size (.cons false (.idx (.var 1) (.int 1)) (.cons false (.attr (.var 0) a_box) .nil)))) (.cons false (.not (.call f_is_number (.cons false (.idx (.var 1) (.neg (.int 1))) .nil))) .nil))) (.cons (.ret (.yes (.bool false))) .nil) .nil) (.cons (.asg (.var 2) (.idx (.call f_worths (.cons false (.var 0) .nil)) (.call f_space_of (.cons false (.idx (.var 1) (.int 1)) .nil)))) (.cons (.ret (.yes (.bools true (.cons false (.call f_is_below (.cons false (.tup (.cons false (.var 2) (.cons false (.int 1) .nil))) (.cons false (.idx (.var 1) (.neg (.int 1))) .nil))) (.cons false (.call f_is_sound_with (.cons false (.var 0) (.cons false (.idx (.var 1) (.int 1)) (.cons false (.idx (.var 1) (.neg (.int 1))) .nil)))) .nil))))) .nil))))))
def d_shows_greatest : FnI := ⟨[115, 104, 111, 119, 115, 95, 103, 114, 101, 97, 116, 101, 115, 116], 2, [], 3, b_shows_greatest⟩
def b__law_pot : CSs := (.cons (.asg (.var 2) (.ite (.cmp .lt (.var 1) (.bfn .len (.cons false (.var 0) .nil))) (.idx (.var 0) (.var 1)) (.bin .add (.bin .mul (.int 293) (.var 1)) (.int 139)))) (.cons (.asg (.var 3) (.bin .mul (.bin .mod (.bfn .int (.cons false (.bfn .abs (.cons false (.var 2) .nil)) .nil)) (.bin .pow (.bin .pow (.int 10) (.int 60)) (.int 5))) (.bfn .int (.cons false (.cmp .ge (.bfn .abs (.cons false (.var 2) .nil)) (.bin .pow (.int 10) (.int 18))) .nil)))) (.cons (.asg (.var 4) (.bin .mod (.bfn .int (.cons false (.var 2) .nil)) (.int 2305843009213693951))) (.cons (.ret (.yes (.box (.lst (.cons false (.var 3) (.cons false (.bin .mod (.bfn .int (.cons false (.bin .add (.bin .add (.bin .mul (.var 4) (.int 74561)) (.bin .mul (.bin .mul (.int 7841) (.var 1)) (.var 1))) (.int 211)) .nil)) (.int 2305843009213693921)) (.cons false (.int 0) .nil))))))) .nil))))
def d__law_pot : FnI := ⟨[95, 108, 97, 119, 95, 112, 111, 116], 2, [], 5, b__law_pot⟩
def b__law_take : CSs := (.cons (.ifs (.cmp .gt (.idx (.var 0) (.int 0)) (.int 0)) (.cons (.asg (.var 2) (.bin .mod (.bfn .int (.cons false (.idx (.var 0) (.int 0)) .nil)) (.var 1))) (.cons (.asg (.idx (.var 0) (.int 0)) (.bin .fdiv (.idx (.var 0) (.int 0)) (.var 1))) (.cons (.ret (.yes (.var 2))) .nil))) .nil) (.cons (.asg (.idx (.var 0) (.int 2)) (.bin .add (.idx (.var 0) (.int 2)) (.int 1))) (.cons (.asg (.var 3) (.idx (.lst (.cons false (.int 2147483647) (.cons false (.int 2147483629) (.cons false (.int 2147483587) (.cons false (.int 2147483579) (.cons false (.int 2147483563) .nil)))))) (.bin .mod (.bfn .int (.cons false (.idx (.var 0) (.int 2)) .nil)) (.int 5)))) (.cons (.asg (.var 4) (.bin .mod (.bfn .int (.cons false (.bin .pow (.bfn .int (.cons false (.bin .add (.bin .add (.idx (.var 0) (.int 1)) (.bin .mul (.bin .mul (.int 98897) (.idx (.var 0) (.int 2))) (.idx (.var 0) (.int 2)))) (.int 101)) .nil)) (.int 3)) .nil)) (.var 3))) (.cons (.asg (.var 4) (.bin .mod (.bfn .int (.cons false (.bin .mul (.var 4) (.bin .add (.bin .mod (.bfn .int (.cons false (.var 4) .nil)) (.int 10531)) (.bin .mul (.int 197) (.idx (.var 0) (.int 2))))) .nil)) (.int 2305843009213693907))) (.cons (.ret (.yes (.bin .mod (.bfn .int (.cons false (.bin .fdiv (.var 4) (.int 179)) .nil)) (.var 1)))) .nil))))))
def d__law_take : FnI := ⟨[95, 108, 97, 119, 95, 116, 97, 107, 101], 2, [], 5, b__law_take⟩
def b__law_some : CSs := (.cons (.par [3, 4] (.cons false (.box (.bfn .list (.cons false (.var 1) .nil))) (.cons false (.box (.lst .nil)) .nil))) (.cons (.fors (.var 5) (.rng1 (.var 2)) (.cons (.expr (.bm .append (.var 4) (.cons false (.bm .popAt (.var 3) (.cons false (.call f__law_take (.cons false (.var 0) (.cons false (.bfn .len (.cons false (.var 3) .nil)) .nil))) .nil)) .nil))) .nil)) (.cons (.ret (.yes (.frz (.var 4)))) .nil)))
def d__law_some : FnI := ⟨[95, 108, 97, 119, 95, 115, 111, 109, 101], 3, [], 6, b__law_some⟩
def b__law_cells : CSs := (.cons (.ret (.yes (.bfn .rng1 (.cons false (.bfn .max2 (.cons false (.int 1) (.cons false (.bfn .min2 (.cons false (.var 1) (.cons false (.bfn .len (.cons false (.var 0) .nil)) .nil))) .nil))) .nil)))) .nil)
def d__law_cells : FnI := ⟨[95, 108, 97, 119, 95, 99, 101, 108, 108, 115], 2, [], 2, b__law_cells⟩
def b__law_number : CSs := (.cons (.par [2, 3] (.cons false (.bfn .int (.cons false (.var 0) .nil)) (.cons false (.bfn .int (.cons false (.var 1) .nil)) .nil))) (.cons (.whiles (.cmp .gt (.var 3) (.int 0)) (.cons (.par [2, 3] (.cons false (.var 3) (.cons false (.bin .mod (.var 2) (.var 3)) .nil))) .nil)) (.cons (.ret (.yes (.tup (.cons false (.bin .fdiv (.bfn .int (.cons false (.var 0) .nil)) (.var 2)) (.cons false (.bin .fdiv (.bfn .int (.cons false (.var 1) .nil)) (.var 2)) .nil))))) .nil)))
def d__law_number : FnI := ⟨[95, 108, 97, 119, 95, 110, 117, 109, 98, 101, 114], 2, [], 4, b__law_number⟩
def b__law_text : CSs := (.cons (.asg (.var 1) (.lst (.cons false (.bin .add (.str [98, 111, 120, 32]) (.bfn .str (.cons false (.idx (.var 0) (.str [98, 111, 120])) .nil))) (.cons false (.bin .add (.str [98, 111, 117, 110, 100, 32]) (.bfn .str (.cons false (.idx (.var 0) (.str [98, 111, 117, 110, 100])) .nil))) .nil)))) (.cons (.ret (.yes (.bm .join (.str [10]) (.cons false (.bin .add (.var 1) (.comp (.bin .add (.bin .add (.bin .add (.bin .add (.var 2) (.str [32])) (.bfn .str (.cons false (.var 3) .nil))) (.str [32])) (.bfn .str (.cons false (.var 4) .nil))) (.tup (.cons (.var 2) (.cons (.var 3) (.cons (.var 4) .nil)))) (.seq (.idx (.var 0) (.str [115, 116, 101, 112, 115]))) .no)) .nil)))) .nil))
def d__law_text : FnI := ⟨[95, 108, 97, 119, 95, 116, 101, 120, 116], 1, [], 5, b__law_text⟩
def b__law_rule : CSs := (.cons (.ret (.yes (.new c_Rule (.cons false (.call f__law_text (.cons false (.var 0) .nil)) .nil)))) .nil)
def d__law_rule : FnI := ⟨[95, 108, 97, 119, 95, 114, 117, 108, 101], 1, [], 1, b__law_rule⟩
def b__law_spot : CSs := (.cons (.ret (.yes (.bin .add (.bin .mul (.int 2) (.idx (.var 0) (.int 1))) (.bfn .int (.cons false (.cmp .eq (.idx (.var 0) (.int 0)) (.str [98, 101, 121, 111, 110, 100])) .nil))))) .nil)
def d__law_spot : FnI := ⟨[95, 108, 97, 119, 95, 115, 112, 111, 116], 1, [], 1, b__law_spot⟩
def b__law_space : CSs := (.cons (.asg (.var 1) (.bin .fdiv (.idx (.var 0) (.int 0)) (.idx (.var 0) (.int 1)))) (.cons (.ret (.yes (.bin .add (.bin .mul (.int 2) (.var 1)) (.bfn .int (.cons false (.cmp .lt (.bin .mul (.var 1) (.idx (.var 0) (.int 1))) (.idx (.var 0) (.int 0))) .nil))))) .nil))
def d__law_space : FnI := ⟨[95, 108, 97, 119, 95, 115, 112, 97, 99, 101], 1, [], 2, b__law_space⟩
def b__law_join : CSs := (.cons (.ret (.yes (.bin .sub (.bin .add (.var 0) (.var 1)) (.bfn .int (.cons false (.bools true (.cons false (.cmp .eq (.bin .mod (.var 0) (.int 2)) (.int 1)) (.cons false (.cmp .eq (.bin .mod (.var 1) (.int 2)) (.int 1)) .nil))) .nil))))) .nil)
def d__law_join : FnI := ⟨[95, 108, 97, 119, 95, 106, 111, 105, 110], 2, [], 2, b__law_join⟩
def b__law_at : CSs := (.cons (.asg (.var 2) (.comp (.idx (.var 3) (.int 2)) (.var 3) (.seq (.idx (.var 0) (.str [115, 116, 101, 112, 115]))) (.yes (.cmp .le (.call f__law_spot (.cons false (.var 3) .nil)) (.var 1))))) (.cons (.ret (.yes (.ite (.bools true (.cons false (.cmp .ne (.var 2) (.lst .nil)) (.cons false (.cmp .gt (.var 1) (.int 0)) .nil))) (.idx (.var 2) (.neg (.int 1))) (.int 0)))) .nil))
def d__law_at : FnI := ⟨[95, 108, 97, 119, 95, 97, 116], 2, [], 4, b__law_at⟩
def b__law_worth : CSs := (.cons (.ret (.yes (.call f__law_at (.cons false (.var 0) (.cons false (.call f__law_space (.cons false (.var 1) .nil)) .nil))))) .nil)
def d__law_worth : FnI := ⟨[95, 108, 97, 119, 95, 119, 111, 114, 116, 104], 2, [], 2, b__law_worth⟩
def b__law_is_endless : CSs := (.cons (.ret (.yes (.cmp .gt (.call f__law_at (.cons false (.var 0) (.cons false (.int 1) .nil))) (.int 0)))) .nil)
def d__law_is_endless : FnI := ⟨[95, 108, 97, 119, 95, 105, 115, 95, 101, 110, 100, 108, 101, 115, 115], 1, [], 1, b__law_is_endless⟩
def b__law_worths : CSs := (.cons (.ret (.yes (.comp (.call f__law_at (.cons false (.var 0) (.cons false (.var 1) .nil))) (.var 1) (.rng1 (.bin .add (.bin .mul (.int 2) (.idx (.var 0) (.str [98, 111, 120]))) (.int 1))) .no))) .nil)
def d__law_worths : FnI := ⟨[95, 108, 97, 119, 95, 119, 111, 114, 116, 104, 115], 1, [], 2, b__law_worths⟩
def b__law_is_best : CSs := (.cons (.asg (.var 3) (.bin .mul (.int 2) (.var 0))) (.cons (.ifs (.bfn .any (.cons false (.comp (.cmp .gt (.var 4) (.var 5)) (.tup (.cons (.var 4) (.cons (.var 5) .nil))) (.zip (.cons false (.var 2) (.cons false (.slice (.var 2) (.yes (.int 1)) .no) .nil))) .no) .nil)) (.cons (.ret (.yes (.bool false))) .nil) .nil) (.cons (.ifs (.bfn .any (.cons false (.comp (.cmp .ne (.bin .add (.idx (.var 2) (.var 6)) (.idx (.var 2) (.bin .sub (.var 3) (.var 6)))) (.var 1)) (.var 6) (.rng1 (.bin .add (.var 3) (.int 1))) .no) .nil)) (.cons (.ret (.yes (.bool false))) .nil) .nil) (.cons (.fors (.var 4) (.rng2 (.int 1) (.bin .add (.var 3) (.int 1))) (.cons (.fors (.var 5) (.rng2 (.int 1) (.bin .add (.var 4) (.int 1))) (.cons (.asg (.var 7) (.call f__law_join (.cons false (.var 4) (.cons false (.var 5) .nil)))) (.cons (.ifs (.bools true (.cons false (.cmp .le (.var 7) (.var 3)) (.cons false (.cmp .gt (.bin .add (.idx (.var 2) (.var 4)) (.idx (.var 2) (.var 5))) (.idx (.var 2) (.var 7))) .nil))) (.cons (.ret (.yes (.bool false))) .nil) .nil) .nil))) .nil)) (.cons (.ret (.yes (.bool true))) .nil)))))
def d__law_is_best : FnI := ⟨[95, 108, 97, 119, 95, 105, 115, 95, 98, 101, 115, 116], 3, [], 8, b__law_is_best⟩
def b__law_is_greatest : CSs := (.cons (.ret (.yes (.call f__law_is_best (.cons false (.idx (.var 0) (.str [98, 111, 120])) (.cons false (.idx (.var 0) (.str [98, 111, 117, 110, 100])) (.cons false (.call f__law_worths (.cons false (.var 0) .nil)) .nil)))))) .nil)
def d__law_is_greatest : FnI := ⟨[95, 108, 97, 119, 95, 105, 115, 95, 103, 114, 101, 97, 116, 101, 115, 116], 1, [], 1, b__law_is_greatest⟩
def b__law_text_by : CSs := (.cons (.asg (.var 3) (.box (.lst .nil))) (.cons (.fors (.var 4) (.rng2 (.int 1) (.bin .add (.bin .mul (.int 2) (.var 0)) (.int 1))) (.cons (.ifs (.cmp .ne (.idx (.var 2) (.var 4)) (.idx (.var 2) (.bin .sub (.var 4) (.int 1)))) (.cons (.expr (.bm .append (.var 3) (.cons false (.tup (.cons false (.idx (.lst (.cons false (.str [102, 114, 111, 109]) (.cons false (.str [98, 101, 121, 111, 110, 100]) .nil))) (.bin .mod (.var 4) (.int 2))) (.cons false (.bin .fdiv (.var 4) (.int 2)) (.cons false (.idx (.var 2) (.var 4)) .nil)))) .nil))) .nil) .nil) .nil)) (.cons (.ret (.yes (.call f__law_text (.cons false (.dic false (.cons (.str [98, 111, 120]) (.var 0) (.cons (.str [98, 111, 117, 110, 100]) (.var 1) (.cons (.str [115, 116, 101, 112, 115]) (.frz (.var 3)) .nil)))) .nil)))) .nil)))
def d__law_text_by : FnI := ⟨[95, 108, 97, 119, 95, 116, 101, 120, 116, 95, 98, 121], 3, [], 5, b__law_text_by⟩
def b__law_lore_of : CSs := (.cons (.asg (.var 1) (.comp (.bm .split (.var 2) (.cons false (.str [32]) .nil)) (.var 2) (.seq (.bm .split (.var 0) (.cons false (.str [10]) .nil))) .no)) (.cons (.ifs (.bools false (.cons false (.cmp .ne (.comp (.idx (.var 2) (.int 0)) (.var 2) (.seq (.slice (.var 1) .no (.yes (.int 2)))) .no) (.lst (.cons false (.str [98, 111, 120]) (.cons false (.str [98, 111, 117, 110, 100]) .nil)))) (.cons false (.cmp .ne (.comp (.bfn .len (.cons false (.var 2) .nil)) (.var 2) (.seq (.slice (.var 1) .no (.yes (.int 2)))) .no) (.lst (.cons false (.int 2) (.cons false (.int 2) .nil)))) .nil))) (.cons (.ret (.yes .non)) .nil) .nil) (.cons (.ifs (.not (.bfn .all (.cons false (.comp (.bools true (.cons false (.cmp .eq (.bfn .len (.cons false (.var 2) .nil)) (.int 3)) (.cons false (.cmp .inn (.idx (.var 2) (.int 0)) (.tup (.cons false (.str [102, 114, 111, 109]) (.cons false (.str [98, 101, 121, 111, 110, 100]) .nil)))) .nil))) (.var 2) (.seq (.slice (.var 1) (.yes (.int 2)) .no)) .no) .nil))) (.cons (.ret (.yes .non)) .nil) .nil) (.cons (.asg (.var 3) (.comp (.tup (.cons false (.idx (.var 2) (.int 0)) (.cons false (.bfn .int (.cons false (.idx (.var 2) (.int 1)) .nil)) (.cons false (.bfn .int (.cons false (.idx (.var 2) (.int 2)) .nil)) .nil)))) (.var 2) (.seq (.slice (.var 1) (.yes (.int 2)) .no)) .no)) (.cons (.ret (.yes (.dic false (.cons (.str [98, 111, 120]) (.bfn .int (.cons false (.idx (.idx (.var 1) (.int 0)) (.int 1)) .nil)) (.cons (.str [98, 111, 117, 110, 100]) (.bfn .int (.cons false (.idx (.idx (.var 1) (.int 1)) (.int 1)) .nil)) (.cons (.str [115, 116, 101, 112, 115]) (.var 3) .nil)))))) .nil)))))
def d__law_lore_of : FnI := ⟨[95, 108, 97, 119, 95, 108, 111, 114, 101, 95, 111, 102], 1, [], 4, b__law_lore_of⟩
def b__law_fills : CSs := (.cons (.asg (.var 1) (.bin .add (.lst (.cons false (.int 0) .nil)) (.comp (.call f__law_worth (.cons false (.var 0) (.cons false (.call f__law_number (.cons false (.var 2) (.cons false (.int 24) .nil))) .nil))) (.var 2) (.rng2 (.int 1) (.bin .add (.bin .mul (.int 24) (.idx (.var 0) (.str [98, 111, 120]))) (.int 1))) .no))) (.cons (.asg (.var 3) (.box (.lst (.cons false (.int 0) .nil)))) (.cons (.fors (.var 4) (.rng2 (.int 1) (.bfn .len (.cons false (.var 1) .nil))) (.cons (.expr (.bm .append (.var 3) (.cons false (.bfn .maxl (.cons false (.comp (.bfn .int (.cons false (.bin .add (.idx (.var 3) (.bin .sub (.var 4) (.var 2))) (.idx (.var 1) (.var 2))) .nil)) (.var 2) (.rng2 (.int 1) (.bin .add (.var 4) (.int 1))) .no) .nil)) .nil))) .nil)) (.cons (.ret (.yes (.frz (.var 3)))) .nil))))
def d__law_fills : FnI := ⟨[95, 108, 97, 119, 95, 102, 105, 108, 108, 115], 1, [], 5, b__law_fills⟩
def b__law_numbered : CSs := (.cons (.par [3, 4] (.cons false (.box (.lst (.cons false (.int 0) .nil))) (.cons false (.var 2) .nil))) (.cons (.fors (.var 5) (.rng1 (.bin .mul (.int 2) (.var 0))) (.cons (.expr (.bm .append (.var 3) (.cons false (.bin .mod (.var 4) (.int 4)) .nil))) (.cons (.asg (.var 4) (.bin .fdiv (.var 4) (.int 4))) .nil))) (.cons (.ret (.yes (.dic false (.cons (.str [98, 111, 120]) (.var 0) (.cons (.str [98, 111, 117, 110, 100]) (.var 1) (.cons (.str [115, 116, 101, 112, 115]) (.idx (.call f__law_lore_of (.cons false (.call f__law_text_by (.cons false (.var 0) (.cons false (.var 1) (.cons false (.var 3) .nil)))) .nil)) (.str [115, 116, 101, 112, 115])) .nil)))))) .nil)))
def d__law_numbered : FnI := ⟨[95, 108, 97, 119, 95, 110, 117, 109, 98, 101, 114, 101, 100], 3, [], 6, b__law_numbered⟩
def b__law_is_small_right : CSs := (.cons (.par [2, 3] (.cons false (.call f__law_rule (.cons false (.var 1) .nil)) (.cons false (.call f__law_fills (.cons false (.var 1) .nil)) .nil))) (.cons (.asg (.var 4) (.cmp .le (.idx (.var 3) (.neg (.int 1))) (.idx (.var 1) (.str [98, 111, 117, 110, 100])))) (.cons (.ifs (.cmp .ne (.cmp .eq (.idx (.call f_judged (.cons false (.var 2) .nil)) (.int 0)) (.str [115, 111, 117, 110, 100])) (.var 4)) (.cons (.ret (.yes (.bool false))) .nil) .nil) (.cons (.ifs (.not (.call f__law_is_endless (.cons false (.var 1) .nil))) (.cons (.fors (.var 5) (.seq (.call f__law_some (.cons false (.var 0) (.cons false (.bfn .rng2 (.cons false (.int 1) (.cons false (.bin .add (.bin .mul (.int 12) (.idx (.var 1) (.str [98, 111, 120]))) (.int 1)) .nil))) (.cons false (.int 4) .nil))))) (.cons (.ifs (.cmp .ne (.call f_most (.cons false (.var 2) (.cons false (.call f__law_number (.cons false (.var 5) (.cons false (.int 12) .nil))) .nil))) (.idx (.var 3) (.bin .mul (.int 2) (.var 5)))) (.cons (.ret (.yes (.bool false))) .nil) .nil) .nil)) .nil) .nil) (.cons (.ifs (.not (.var 4)) (.cons (.ret (.yes (.bool true))) .nil) .nil) (.cons (.fors (.tup (.cons (.var 6) (.cons (.tup (.cons (.var 7) (.cons (.var 8) (.cons (.var 9) .nil)))) .nil))) (.enum (.idx (.var 1) (.str [115, 116, 101, 112, 115]))) (.cons (.ifs (.cmp .ne (.idx (.call f_judged (.cons false (.meth (.var 2) a_with_worth (.cons false (.var 6) (.cons false (.bfn .max2 (.cons false (.int 0) (.cons false (.bin .sub (.var 9) (.int 1)) .nil))) .nil))) .nil)) (.int 0)) (.str [115, 111, 117, 110, 100])) (.cons (.ret (.yes (.bool false))) .nil) .nil) .nil)) (.cons (.ifs (.cmp .eq (.call f_greatest (.cons false (.var 2) .nil)) (.tup (.cons false (.str [103, 114, 101, 97, 116, 101, 115, 116]) .nil))) (.cons (.fors (.var 5) (.seq (.call f__law_some (.cons false (.var 0) (.cons false (.bfn .rng2 (.cons false (.int 1) (.cons false (.bin .add (.bin .mul (.int 12) (.idx (.var 1) (.str [98, 111, 120]))) (.int 1)) .nil))) (.cons false (.int 4) .nil))))) (.cons (.asg (.var 10) (.call f__law_number (.cons false (.var 5) (.cons false (.int 12) .nil)))) (.cons (.ifs (.isc true (some false) (.call f_shows_greatest (.cons false (.var 2) (.cons false (.tup (.cons false (.str [114, 111, 111, 109]) (.cons false (.var 10) (.cons false (.call f__law_number (.cons false (.bin .add (.bin .mul (.int 2) (.call f__law_worth (.cons false (.var 1) (.cons false (.var 10) .nil)))) (.int 1)) (.cons false (.int 2) .nil))) .nil)))) .nil)))) (.cons (.ret (.yes (.bool false))) .nil) .nil) .nil))) .nil) .nil) (.cons (.ret (.yes (.cmp .eq (.cmp .eq (.call f_greatest (.cons false (.var 2) .nil)) (.tup (.cons false (.str [103, 114, 101, 97, 116, 101, 115, 116]) .nil))) (.call f__law_is_greatest (.cons false (.var 1) .nil))))) .nil))))))))
def d__law_is_small_right : FnI := ⟨[95, 108, 97, 119, 95, 105, 115, 95, 115, 109, 97, 108, 108, 95, 114, 105, 103, 104, 116], 2, [], 11, b__law_is_small_right⟩
def b__law_right : CSs := (.cons (.par [1, 2] (.cons false (.bin .add (.int 1) (.call f__law_take (.cons false (.var 0) (.cons false (.int 3) .nil)))) (.cons false (.bin .add (.int 1) (.call f__law_take (.cons false (.var 0) (.cons false (.int 4) .nil)))) .nil))) (.cons (.asg (.var 3) (.idx (.lst (.cons false (.int 16) (.cons false (.int 256) (.cons false (.int 4096) .nil)))) (.bin .sub (.var 1) (.int 1)))) (.cons (.par [4, 5] (.cons false (.call f__law_take (.cons false (.var 0) (.cons false (.var 3) .nil))) (.cons false (.bin .add (.int 1) (.call f__law_take (.cons false (.var 0) (.cons false (.int 97) .nil)))) .nil))) (.cons (.fors (.var 6) (.rng1 (.int 30)) (.cons (.ifs (.not (.call f__law_is_small_right (.cons false (.var 0) (.cons false (.call f__law_numbered (.cons false (.var 1) (.cons false (.var 2) (.cons false (.bin .mod (.bin .add (.var 4) (.bin .mul (.var 6) (.var 5))) (.var 3)) .nil)))) .nil)))) (.cons (.ret (.yes (.bool false))) .nil) .nil) .nil)) (.cons (.ret (.yes (.bool true))) .nil)))))
def d__law_right : FnI := ⟨[95, 108, 97, 119, 95, 114, 105, 103, 104, 116], 1, [], 7, b__law_right⟩
def b_law : CSs := (.cons (.ret (.yes (.bfn .all (.cons false (.comp (.call f__law_right (.cons false (.call f__law_pot (.cons false (.var 0) (.cons false (.var 1) .nil))) .nil)) (.var 1) (.seq (.call f__law_cells (.cons false (.var 0) (.cons false (.int 3) .nil)))) .no) .nil)))) .nil)
def d_law : FnI := ⟨[108, 97, 119], 1, [], 2, b_law⟩
def k_Rule : ClsI := ⟨[82, 117, 108, 101], some f_Rule_init, [(a_worth, f_Rule_worth), (a_reckoned, f_Rule_reckoned), (a_with_worth, f_Rule_with_worth)], [(a_text, f_Rule_text), (a_box, f_Rule_box), (a_bound, f_Rule_bound), (a_steps, f_Rule_steps)], [a_own_text, a_own_box, a_own_bound, a_own_steps, a_own_worths], true, []⟩
def fnsL0 : List FnI := [d_is_integer, d_is_tuple, d_is_said, d_integer_in, d_common, d_number, d_is_number, d_is_size, d_is_below, d_number_in, d_step_in, d_space_at, d_parts_of, d_text_by, d_worths_by, d_space_of, d_is_part, d_is_lot, d_check_lot, d_Rule_init]
def fnsL1 : List FnI := [d_Rule_text, d_Rule_box, d_Rule_bound, d_Rule_steps, d_Rule_worth, d_Rule_reckoned, d_Rule_with_worth, d_worths, d_rest_beside, d_endless_worth, d_true_steps, d_least_table, d_steps_within, d_lot_by, d_endless_lot, d_judged, d_check_sound, d_most, d_size_amid, d_first_room]
def fnsL2 : List FnI := [d_greatest, d_most_beside, d_is_sound_with, d_shows_greatest, d__law_pot, d__law_take, d__law_some, d__law_cells, d__law_number, d__law_text, d__law_rule, d__law_spot, d__law_space, d__law_join, d__law_at, d__law_worth, d__law_is_endless, d__law_worths, d__law_is_best, d__law_is_greatest]
def fnsL3 : List FnI := [d__law_text_by, d__law_lore_of, d__law_fills, d__law_numbered, d__law_is_small_right, d__law_right, d_law]
def fnsL : List FnI := fnsL0 ++ fnsL1 ++ fnsL2 ++ fnsL3
def clssL0 : List ClsI := [k_Rule]
def clssL : List ClsI := clssL0
def attrsL0 : List (List Nat) := [[95, 95, 105, 110, 105, 116, 95, 95], [116, 101, 120, 116], [98, 111, 120], [98, 111, 117, 110, 100], [115, 116, 101, 112, 115], [119, 111, 114, 116, 104], [114, 101, 99, 107, 111, 110, 101, 100], [119, 105, 116, 104, 95, 119, 111, 114, 116, 104], [111, 119, 110, 95, 119, 111, 114, 116, 104, 115], [111, 119, 110, 95, 115, 116, 101, 112, 115], [111, 119, 110, 95, 98, 111, 117, 110, 100], [111, 119, 110, 95, 98, 111, 120], [111, 119, 110, 95, 116, 101, 120, 116]]
def attrsL : List (List Nat) := attrsL0
def globsL0 : List (List Nat × CV) := [([66, 76, 65, 78, 75], .str [32]), ([70, 69, 69, 68], .str [10]), ([68, 73, 71, 73, 84, 83], .str [48, 49, 50, 51, 52, 53, 54, 55, 56, 57]), ([77, 79, 83, 84, 95, 66, 79, 88], .int 60), ([80, 65, 73, 82], .int 2), ([66, 79, 88], .str [98, 111, 120]), ([66, 79, 85, 78, 68], .str [98, 111, 117, 110, 100]), ([70, 82, 79, 77], .str [102, 114, 111, 109]), ([66, 69, 89, 79, 78, 68], .str [98, 101, 121, 111, 110, 100]), ([77, 79, 83, 84, 95, 87, 79, 82, 84, 72], .int 999999999), ([84, 82, 73, 80, 76, 69, 95, 114, 117, 108, 101, 115], .int 3), ([83, 79, 85, 78, 68], .str [115, 111, 117, 110, 100]), ([66, 82, 79, 75, 69, 78], .str [98, 114, 111, 107, 101, 110]), ([71, 82, 69, 65, 84, 69, 83, 84], .str [103, 114, 101, 97, 116, 101, 115, 116]), ([82, 79, 79, 77], .str [114, 111, 111, 109]), ([84, 82, 73, 80, 76, 69, 95, 103, 114, 101, 97, 116, 101, 115, 116], .int 3)]
def globsL : List (List Nat × CV) := globsL0
def prog : MP.Prog := ⟨fnsL, clssL, attrsL, globsL⟩
@[simp] theorem gv_BLANK : prog.globs[g_BLANK]? = some ([66, 76, 65, 78, 75], .str [32]) := rfl
@[simp] theorem gv_FEED : prog.globs[g_FEED]? = some ([70, 69, 69, 68], .str [10]) := rfl
@[simp] theorem gv_DIGITS : prog.globs[g_DIGITS]? = some ([68, 73, 71, 73, 84, 83], .str [48, 49, 50, 51, 52, 53, 54, 55, 56, 57]) := rfl
@[simp] theorem gv_MOST_BOX : prog.globs[g_MOST_BOX]? = some ([77, 79, 83, 84, 95, 66, 79, 88], .int 60) := rfl
@[simp] theorem gv_PAIR : prog.globs[g_PAIR]? = some ([80, 65, 73, 82], .int 2) := rfl
@[simp] theorem gv_BOX : prog.globs[g_BOX]? = some ([66, 79, 88], .str [98, 111, 120]) := rfl
@[simp] theorem gv_BOUND : prog.globs[g_BOUND]? = some ([66, 79, 85, 78, 68], .str [98, 111, 117, 110, 100]) := rfl
@[simp] theorem gv_FROM : prog.globs[g_FROM]? = some ([70, 82, 79, 77], .str [102, 114, 111, 109]) := rfl
@[simp] theorem gv_BEYOND : prog.globs[g_BEYOND]? = some ([66, 69, 89, 79, 78, 68], .str [98, 101, 121, 111, 110, 100]) := rfl
@[simp] theorem gv_MOST_WORTH : prog.globs[g_MOST_WORTH]? = some ([77, 79, 83, 84, 95, 87, 79, 82, 84, 72], .int 999999999) := rfl
@[simp] theorem gv_TRIPLE_rules : prog.globs[g_TRIPLE_rules]? = some ([84, 82, 73, 80, 76, 69, 95, 114, 117, 108, 101, 115], .int 3) := rfl
@[simp] theorem gv_SOUND : prog.globs[g_SOUND]? = some ([83, 79, 85, 78, 68], .str [115, 111, 117, 110, 100]) := rfl
@[simp] theorem gv_BROKEN : prog.globs[g_BROKEN]? = some ([66, 82, 79, 75, 69, 78], .str [98, 114, 111, 107, 101, 110]) := rfl
@[simp] theorem gv_GREATEST : prog.globs[g_GREATEST]? = some ([71, 82, 69, 65, 84, 69, 83, 84], .str [103, 114, 101, 97, 116, 101, 115, 116]) := rfl
@[simp] theorem gv_ROOM : prog.globs[g_ROOM]? = some ([82, 79, 79, 77], .str [114, 111, 111, 109]) := rfl
@[simp] theorem gv_TRIPLE_greatest : prog.globs[g_TRIPLE_greatest]? = some ([84, 82, 73, 80, 76, 69, 95, 103, 114, 101, 97, 116, 101, 115, 116], .int 3) := rfl
@[simp] theorem kv_Rule : prog.cls c_Rule = k_Rule := rfl
end LW
end K82C_text

section K82X_text
set_option Elab.async false
set_option linter.all false
set_option maxRecDepth 100000
set_option maxHeartbeats 4000000
/-! The defs as they stand. -/
namespace LW
open MP PySem PySem.Spec PyProof.Rows L2
def top (i : Nat) : Stmt := PySem.Challenge.pw_sizesreckoned_k82_whole_small_rules_by_t.main.body.getD i (.Pass ⟨0, 0, 0, 0⟩)
def x_is_integer : FX := ⟨"", "is_integer", false, "is_integer", defArgs (top 16), defBody (top 16), defScope (top 16), [.non, .non], ["value", "low", "high"], ["value", "low", "high"]⟩
def x_is_tuple : FX := ⟨"", "is_tuple", false, "is_tuple", defArgs (top 17), defBody (top 17), defScope (top 17), [.non], ["value", "few", "most"], ["value", "few", "most"]⟩
def x_is_said : FX := ⟨"", "is_said", false, "is_said", defArgs (top 18), defBody (top 18), defScope (top 18), [], ["value", "some"], ["value", "some"]⟩
def x_integer_in : FX := ⟨"", "integer_in", false, "integer_in", defArgs (top 19), defBody (top 19), defScope (top 19), [], ["word"], ["word", "size", "sign"]⟩
def x_common : FX := ⟨"", "common", false, "common", defArgs (top 20), defBody (top 20), defScope (top 20), [], ["one", "other"], ["one", "other"]⟩
def x_number : FX := ⟨"", "number", false, "number", defArgs (top 21), defBody (top 21), defScope (top 21), [], ["over", "under"], ["over", "under", "share"]⟩
def x_is_number : FX := ⟨"", "is_number", false, "is_number", defArgs (top 22), defBody (top 22), defScope (top 22), [], ["value"], ["value"]⟩
def x_is_size : FX := ⟨"", "is_size", false, "is_size", defArgs (top 23), defBody (top 23), defScope (top 23), [], ["value", "box"], ["value", "box"]⟩
def x_is_below : FX := ⟨"", "is_below", false, "is_below", defArgs (top 24), defBody (top 24), defScope (top 24), [], ["one", "other"], ["one", "other"]⟩
def x_number_in : FX := ⟨"", "number_in", false, "number_in", defArgs (top 32), defBody (top 32), defScope (top 32), [], ["line", "word", "high"], ["line", "word", "high", "words", "found"]⟩
def x_step_in : FX := ⟨"", "step_in", false, "step_in", defArgs (top 33), defBody (top 33), defScope (top 33), [], ["line", "box"], ["line", "box", "words", "place", "worth", "low"]⟩
def x_space_at : FX := ⟨"", "space_at", false, "space_at", defArgs (top 34), defBody (top 34), defScope (top 34), [], ["step"], ["step"]⟩
def x_parts_of : FX := ⟨"", "parts_of", false, "parts_of", defArgs (top 35), defBody (top 35), defScope (top 35), [], ["text"], ["text", "lines", "box", "bound", "steps", "at", "line", "step"]⟩
def x_text_by : FX := ⟨"", "text_by", false, "text_by", defArgs (top 36), defBody (top 36), defScope (top 36), [], ["box", "bound", "steps"], ["box", "bound", "steps", "lines", "word", "place", "worth"]⟩
def x_worths_by : FX := ⟨"", "worths_by", false, "worths_by", defArgs (top 37), defBody (top 37), defScope (top 37), [], ["box", "steps"], ["box", "steps", "table", "step", "found", "space"]⟩
def x_space_of : FX := ⟨"", "space_of", false, "space_of", defArgs (top 38), defBody (top 38), defScope (top 38), [], ["size"], ["size", "over", "under"]⟩
def x_is_part : FX := ⟨"", "is_part", false, "is_part", defArgs (top 39), defBody (top 39), defScope (top 39), [], ["value", "box"], ["value", "box"]⟩
def x_is_lot : FX := ⟨"", "is_lot", false, "is_lot", defArgs (top 40), defBody (top 40), defScope (top 40), [], ["value", "box"], ["value", "box", "one", "size", "many"]⟩
def x_check_lot : FX := ⟨"", "check_lot", false, "check_lot", defArgs (top 41), defBody (top 41), defScope (top 41), [], ["value", "box"], ["value", "box"]⟩
def x_Rule_init : FX := ⟨"Rule", "__init__", false, "Rule.__init__", defArgs (inClass (top 42) 0), defBody (inClass (top 42) 0), defScope (inClass (top 42) 0), [], ["self", "text"], ["self", "text", "box", "bound", "steps"]⟩
def x_Rule_text : FX := ⟨"Rule", "text", true, "Rule.text", defArgs (inClass (top 42) 1), defBody (inClass (top 42) 1), defScope (inClass (top 42) 1), [], ["self"], ["self"]⟩
def x_Rule_box : FX := ⟨"Rule", "box", true, "Rule.box", defArgs (inClass (top 42) 2), defBody (inClass (top 42) 2), defScope (inClass (top 42) 2), [], ["self"], ["self"]⟩
def x_Rule_bound : FX := ⟨"Rule", "bound", true, "Rule.bound", defArgs (inClass (top 42) 3), defBody (inClass (top 42) 3), defScope (inClass (top 42) 3), [], ["self"], ["self"]⟩
def x_Rule_steps : FX := ⟨"Rule", "steps", true, "Rule.steps", defArgs (inClass (top 42) 4), defBody (inClass (top 42) 4), defScope (inClass (top 42) 4), [], ["self"], ["self"]⟩
def x_Rule_worth : FX := ⟨"Rule", "worth", false, "Rule.worth", defArgs (inClass (top 42) 8), defBody (inClass (top 42) 8), defScope (inClass (top 42) 8), [], ["self", "size"], ["self", "size"]⟩
def x_Rule_reckoned : FX := ⟨"Rule", "reckoned", false, "Rule.reckoned", defArgs (inClass (top 42) 9), defBody (inClass (top 42) 9), defScope (inClass (top 42) 9), [], ["self", "lot"], ["self", "lot", "size", "many"]⟩
def x_Rule_with_worth : FX := ⟨"Rule", "with_worth", false, "Rule.with_worth", defArgs (inClass (top 42) 12), defBody (inClass (top 42) 12), defScope (inClass (top 42) 12), [], ["self", "number", "worth"], ["self", "number", "worth", "word", "place", "elder", "steps"]⟩
def x_worths : FX := ⟨"", "worths", false, "worths", defArgs (top 46), defBody (top 46), defScope (top 46), [], ["rule"], ["rule"]⟩
def x_rest_beside : FX := ⟨"", "rest_beside", false, "rest_beside", defArgs (top 47), defBody (top 47), defScope (top 47), [], ["space", "other"], ["space", "other", "rest"]⟩
def x_endless_worth : FX := ⟨"", "endless_worth", false, "endless_worth", defArgs (top 48), defBody (top 48), defScope (top 48), [], ["rule"], ["rule"]⟩
def x_true_steps : FX := ⟨"", "true_steps", false, "true_steps", defArgs (top 49), defBody (top 49), defScope (top 49), [], ["rule"], ["rule", "step"]⟩
def x_least_table : FX := ⟨"", "least_table", false, "least_table", defArgs (top 50), defBody (top 50), defScope (top 50), [], ["rule"], ["rule", "found", "steps", "space", "rests", "other", "worth", "rest"]⟩
def x_steps_within : FX := ⟨"", "steps_within", false, "steps_within", defArgs (top 51), defBody (top 51), defScope (top 51), [], ["rule", "table", "space"], ["rule", "table", "space", "found", "some", "step", "rest"]⟩
def x_lot_by : FX := ⟨"", "lot_by", false, "lot_by", defArgs (top 52), defBody (top 52), defScope (top 52), [], ["steps"], ["steps", "many", "step", "counts", "word", "place", "worth", "size"]⟩
def x_endless_lot : FX := ⟨"", "endless_lot", false, "endless_lot", defArgs (top 53), defBody (top 53), defScope (top 53), [], ["rule"], ["rule", "many"]⟩
def x_judged : FX := ⟨"", "judged", false, "judged", defArgs (top 54), defBody (top 54), defScope (top 54), [], ["rule"], ["rule", "table"]⟩
def x_check_sound : FX := ⟨"", "check_sound", false, "check_sound", defArgs (top 55), defBody (top 55), defScope (top 55), [], ["rule"], ["rule", "told"]⟩
def x_most : FX := ⟨"", "most", false, "most", defArgs (top 56), defBody (top 56), defScope (top 56), [], ["rule", "size"], ["rule", "size"]⟩
def x_size_amid : FX := ⟨"", "size_amid", false, "size_amid", defArgs (top 61), defBody (top 61), defScope (top 61), [], ["space"], ["space"]⟩
def x_first_room : FX := ⟨"", "first_room", false, "first_room", defArgs (top 62), defBody (top 62), defScope (top 62), [], ["rule"], ["rule", "mine", "within", "whole", "space", "short"]⟩
def x_greatest : FX := ⟨"", "greatest", false, "greatest", defArgs (top 63), defBody (top 63), defScope (top 63), [], ["rule"], ["rule", "room"]⟩
def x_most_beside : FX := ⟨"", "most_beside", false, "most_beside", defArgs (top 64), defBody (top 64), defScope (top 64), [], ["rule", "size", "space"], ["rule", "size", "space", "free", "over", "under"]⟩
def x_is_sound_with : FX := ⟨"", "is_sound_with", false, "is_sound_with", defArgs (top 65), defBody (top 65), defScope (top 65), [], ["rule", "size", "worth"], ["rule", "size", "worth", "space", "most", "many"]⟩
def x_shows_greatest : FX := ⟨"", "shows_greatest", false, "shows_greatest", defArgs (top 66), defBody (top 66), defScope (top 66), [], ["rule", "value"], ["rule", "value", "mine"]⟩
def x__law_pot : FX := ⟨"", "_law_pot", false, "_law_pot", defArgs (top 68), defBody (top 68), defScope (top 68), [], ["script", "place"], ["script", "place", "cell", "own", "small"]⟩
def x__law_take : FX := ⟨"", "_law_take", false, "_law_take", defArgs (top 69), defBody (top 69), defScope (top 69), [], ["pot", "upto"], ["pot", "upto", "digit", "prime", "mixed"]⟩
def x__law_some : FX := ⟨"", "_law_some", false, "_law_some", defArgs (top 70), defBody (top 70), defScope (top 70), [], ["pot", "pool", "amount"], ["pot", "pool", "amount", "left", "found", "turn"]⟩
def x__law_cells : FX := ⟨"", "_law_cells", false, "_law_cells", defArgs (top 71), defBody (top 71), defScope (top 71), [], ["script", "limit"], ["script", "limit"]⟩
def x__law_number : FX := ⟨"", "_law_number", false, "_law_number", defArgs (top 72), defBody (top 72), defScope (top 72), [], ["over", "under"], ["over", "under", "one", "other"]⟩
def x__law_text : FX := ⟨"", "_law_text", false, "_law_text", defArgs (top 73), defBody (top 73), defScope (top 73), [], ["lore"], ["lore", "rows", "word", "at", "worth"]⟩
def x__law_rule : FX := ⟨"", "_law_rule", false, "_law_rule", defArgs (top 74), defBody (top 74), defScope (top 74), [], ["lore"], ["lore"]⟩
def x__law_spot : FX := ⟨"", "_law_spot", false, "_law_spot", defArgs (top 75), defBody (top 75), defScope (top 75), [], ["step"], ["step"]⟩
def x__law_space : FX := ⟨"", "_law_space", false, "_law_space", defArgs (top 76), defBody (top 76), defScope (top 76), [], ["size"], ["size", "whole"]⟩
def x__law_join : FX := ⟨"", "_law_join", false, "_law_join", defArgs (top 77), defBody (top 77), defScope (top 77), [], ["one", "other"], ["one", "other"]⟩
def x__law_at : FX := ⟨"", "_law_at", false, "_law_at", defArgs (top 78), defBody (top 78), defScope (top 78), [], ["lore", "space"], ["lore", "space", "some", "step"]⟩
def x__law_worth : FX := ⟨"", "_law_worth", false, "_law_worth", defArgs (top 79), defBody (top 79), defScope (top 79), [], ["lore", "size"], ["lore", "size"]⟩
def x__law_is_endless : FX := ⟨"", "_law_is_endless", false, "_law_is_endless", defArgs (top 80), defBody (top 80), defScope (top 80), [], ["lore"], ["lore"]⟩
def x__law_worths : FX := ⟨"", "_law_worths", false, "_law_worths", defArgs (top 81), defBody (top 81), defScope (top 81), [], ["lore"], ["lore", "space"]⟩
def x__law_is_best : FX := ⟨"", "_law_is_best", false, "_law_is_best", defArgs (top 82), defBody (top 82), defScope (top 82), [], ["box", "bound", "worths_v"], ["box", "bound", "worths_v", "last", "one", "other", "space", "both"]⟩
def x__law_is_greatest : FX := ⟨"", "_law_is_greatest", false, "_law_is_greatest", defArgs (top 83), defBody (top 83), defScope (top 83), [], ["lore"], ["lore"]⟩
def x__law_text_by : FX := ⟨"", "_law_text_by", false, "_law_text_by", defArgs (top 84), defBody (top 84), defScope (top 84), [], ["box", "bound", "worths_v"], ["box", "bound", "worths_v", "steps", "space"]⟩
def x__law_lore_of : FX := ⟨"", "_law_lore_of", false, "_law_lore_of", defArgs (top 85), defBody (top 85), defScope (top 85), [], ["text"], ["text", "lines", "line", "steps"]⟩
def x__law_fills : FX := ⟨"", "_law_fills", false, "_law_fills", defArgs (top 86), defBody (top 86), defScope (top 86), [], ["lore"], ["lore", "worths_v", "part", "found", "fill"]⟩
def x__law_numbered : FX := ⟨"", "_law_numbered", false, "_law_numbered", defArgs (top 87), defBody (top 87), defScope (top 87), [], ["box", "bound", "number_v"], ["box", "bound", "number_v", "worths_v", "rest", "space"]⟩
def x__law_is_small_right : FX := ⟨"", "_law_is_small_right", false, "_law_is_small_right", defArgs (top 88), defBody (top 88), defScope (top 88), [], ["pot", "lore"], ["pot", "lore", "rule", "fills", "is_sound", "part", "number_v", "word", "at", "worth", "size"]⟩
def x__law_right : FX := ⟨"", "_law_right", false, "_law_right", defArgs (top 89), defBody (top 89), defScope (top 89), [], ["pot"], ["pot", "box", "bound", "every", "number_v", "step", "lap"]⟩
def x_law : FX := ⟨"", "law", false, "law", defArgs (top 90), defBody (top 90), defScope (top 90), [], ["script"], ["script", "place"]⟩
def xsL0 : List FX := [x_is_integer, x_is_tuple, x_is_said, x_integer_in, x_common, x_number, x_is_number, x_is_size, x_is_below, x_number_in, x_step_in, x_space_at, x_parts_of, x_text_by, x_worths_by, x_space_of, x_is_part, x_is_lot, x_check_lot, x_Rule_init]
def xsL1 : List FX := [x_Rule_text, x_Rule_box, x_Rule_bound, x_Rule_steps, x_Rule_worth, x_Rule_reckoned, x_Rule_with_worth, x_worths, x_rest_beside, x_endless_worth, x_true_steps, x_least_table, x_steps_within, x_lot_by, x_endless_lot, x_judged, x_check_sound, x_most, x_size_amid, x_first_room]
def xsL2 : List FX := [x_greatest, x_most_beside, x_is_sound_with, x_shows_greatest, x__law_pot, x__law_take, x__law_some, x__law_cells, x__law_number, x__law_text, x__law_rule, x__law_spot, x__law_space, x__law_join, x__law_at, x__law_worth, x__law_is_endless, x__law_worths, x__law_is_best, x__law_is_greatest]
def xsL3 : List FX := [x__law_text_by, x__law_lore_of, x__law_fills, x__law_numbered, x__law_is_small_right, x__law_right, x_law]
def xsL : List FX := xsL0 ++ xsL1 ++ xsL2 ++ xsL3
end LW
end K82X_text

section K82H_text
set_option Elab.async false
set_option linter.all false
set_option maxRecDepth 100000
set_option maxHeartbeats 0
/-! The head. -/
namespace LW
open MP PySem PySem.Spec PyProof.Rows L2
abbrev rowX : PySem.W.OpenRow := PySem.W.OpenLaw.row PySem.Challenge.rw_sizesreckoned_k82_whole_small_rules_by_t
def loose0 : List PySem.Str := ["_wall", "ReckonError", "BadRule", "BadSize", "BadLot", "NoStep", "BadWorth", "Broken", "Endless", "BLANK", "FEED", "DIGITS", "MOST_BOX", "PAIR", "is_integer", "is_tuple", "is_said", "integer_in", "common", "number"]
def loose1 : List PySem.Str := ["is_number", "is_size", "is_below", "BOX", "BOUND", "FROM", "BEYOND", "MOST_WORTH", "TRIPLE_rules", "number_in", "step_in", "space_at", "parts_of", "text_by", "worths_by", "space_of", "is_part", "is_lot", "check_lot", "Rule"]
def loose2 : List PySem.Str := ["SOUND", "BROKEN", "worths", "rest_beside", "endless_worth", "true_steps", "least_table", "steps_within", "lot_by", "endless_lot", "judged", "check_sound", "most", "GREATEST", "ROOM", "TRIPLE_greatest", "size_amid", "first_room", "greatest", "most_beside"]
def loose3 : List PySem.Str := ["is_sound_with", "shows_greatest", "_law_pot", "_law_take", "_law_some", "_law_cells", "_law_number", "_law_text", "_law_rule", "_law_spot", "_law_space", "_law_join", "_law_at", "_law_worth", "_law_is_endless", "_law_worths", "_law_is_best", "_law_is_greatest", "_law_text_by", "_law_lore_of"]
def loose4 : List PySem.Str := ["_law_fills", "_law_numbered", "_law_is_small_right", "_law_right"]
def loose : List PySem.Str := loose0 ++ loose1 ++ loose2 ++ loose3 ++ loose4
abbrev hk : PySem.W.Hook := hookX 6 prog xsL
def ob (s : PySem.W.SharedT) : AlX := obsXG 6 prog xsL (HandSHeadRun.getT s)
theorem ob_eq (s : PySem.W.SharedT) : ob s = hk.obs s.abs := obsXG_eq (HandSHeadRun.getT_eq s)
theorem run (w : World) : HandSHeadRun.RunEq rowX (PySem.W.view rowX.prog [90]) hk ob 6000 loose w := by
  intro os
  kernel_rfl
end LW
end K82H_text

section MPc_text
set_option Elab.async false
set_option linter.all false
set_option maxRecDepth 100000
/-! How the small Python's values and store lie in the layer's heap. -/
namespace MP
open PySem PySem.Spec PyProof.Rows L2

/-- what is written: K; where the classes stand; the attributes' names -/
structure Wd where
  K : PySem.W.Frag
  ca : Nat → Addr
  an : Nat → Str
  fa : Nat → Addr
  fd : Nat → PySem.FuncData
  ps : Nat → List Str

def CO.live : CO → Bool
  | .gone => false
  | _ => true
/-- the address of a place that may still change; κ: what is being made -/
def LiveP (ρ : List Addr) (st : Sto) (a : Addr) : Prop := ∃ (l : Nat) (o : CO), ρ[l]? = some a ∧ st[l]? = some o ∧ o.live = true
def Live (κ : Addr → Prop) (ρ : List Addr) (st : Sto) (a : Addr) : Prop := κ a ∨ LiveP ρ st a

/-- dict keys, int and text -/
inductive RepK : CV → Key → Prop
  | int (i : Int) : RepK (.int i) (.inl i)
  | str (s : List Nat) : RepK (.str s) (.inr (SS s))
/-- tuples of ints -/
def RepT (v : CV) (ks : List Key) : Prop := ∃ ns : List Int, v = .tup (ns.map CV.int) ∧ ks = ns.map Sum.inl

section
variable (G : Wd) (ρ : List Addr) (L : Addr → Prop) (H : Hp)
mutual
inductive RepV : CV → V → Prop
  | non : RepV .non .non
  | bl (b : Bool) : RepV (.bl b) (.bl b)
  | int (i : Int) : RepV (.int i) (.int i)
  | str (s : List Nat) : RepV (.str s) (.str (SS s))
  | tup {xs : List CV} {vs : List V} {a : Addr} (h : H a = some (.tup vs)) (n : ¬ L a) (r : RepVs xs vs) : RepV (.tup xs) (.ref a)
  | kt {ns : List Int} {a : Addr} (h : ∀ H' : Hp, SqT G.K H' a (ns.map V.int)) : RepV (.kt ns) (.ref a)
  | lst {xs : List CV} {vs : List V} {a : Addr} (h : H a = some (.lst vs)) (n : ¬ L a) (r : RepVs xs vs) : RepV (.lst xs) (.ref a)
  | dicK {xs : List (CV × CV)} {kvs : List (Key × V)} {a : Addr} (h : H a = some (.dK kvs)) (n : ¬ L a) (r : RepDs xs kvs) : RepV (.dic false xs) (.ref a)
  | dicT {xs : List (CV × CV)} {kvs : List (List Key × V)} {a : Addr} (h : H a = some (.dT kvs)) (n : ¬ L a) (r : RepTs xs kvs) : RepV (.dic true xs) (.ref a)
  | rcd {c : Nat} {fs : List (Nat × CV)} {fv : List (Str × V)} {a dx : Addr} (h : H a = some (.ins (G.ca c) dx fv)) (n : ¬ L a) (r : RepFs fs fv) : RepV (.rcd c fs) (.ref a)
  | loc {l : Nat} {a : Addr} (h : ρ[l]? = some a) : RepV (.loc l) (.ref a)
  | scr {ns : List Int} {a : Addr} (h : Rd H a (.lst (ns.map V.int))) (n : ¬ L a) : RepV (.scr ns) (.ref a)
  | scrK {ns : List Int} {a : Addr} (h : ∀ H' : Hp, SqL G.K H' a (ns.map V.int)) : RepV (.scr ns) (.ref a)
inductive RepVs : List CV → List V → Prop
  | nil : RepVs [] []
  | cons {x : CV} {v : V} {xs : List CV} {vs : List V} (h : RepV x v) (r : RepVs xs vs) : RepVs (x :: xs) (v :: vs)
inductive RepDs : List (CV × CV) → List (Key × V) → Prop
  | nil : RepDs [] []
  | cons {k : CV} {y : Key} {x : CV} {v : V} {xs : List (CV × CV)} {vs : List (Key × V)} (hk : RepK k y) (h : RepV x v) (r : RepDs xs vs) : RepDs ((k, x) :: xs) ((y, v) :: vs)
inductive RepTs : List (CV × CV) → List (List Key × V) → Prop
  | nil : RepTs [] []
  | cons {k : CV} {y : List Key} {x : CV} {v : V} {xs : List (CV × CV)} {vs : List (List Key × V)} (hk : RepT k y) (h : RepV x v) (r : RepTs xs vs) : RepTs ((k, x) :: xs) ((y, v) :: vs)
inductive RepFs : List (Nat × CV) → List (Str × V) → Prop
  | nil : RepFs [] []
  | cons {f : Nat} {x : CV} {v : V} {xs : List (Nat × CV)} {vs : List (Str × V)} (h : RepV x v) (r : RepFs xs vs) : RepFs ((f, x) :: xs) ((G.an f, v) :: vs)
end
/-- what stands at a place -/
def RepO : CO → Addr → Prop
  | .gone, a => (H a).isSome = true
  | .lst xs, a => ∃ vs, H a = some (.lst vs) ∧ RepVs G ρ L H xs vs
  | .dic false kvs, a => ∃ ws, H a = some (.dK ws) ∧ RepDs G ρ L H kvs ws
  | .dic true kvs, a => ∃ ws, H a = some (.dT ws) ∧ RepTs G ρ L H kvs ws
  | .ins c fs, a => ∃ dx fv, H a = some (.ins (G.ca c) dx fv) ∧ RepFs G ρ L H fs fv
end

/-- the store lies in the heap -/
structure HRel (G : Wd) (κ : Addr → Prop) (ρ : List Addr) (st : Sto) (H : Hp) : Prop where
  len : ρ.length = st.length
  nd : ρ.Nodup
  hid : ∀ a, κ a → (∃ o, H a = some o ∧ ∀ xs, o ≠ .tup xs) ∧ ¬ LiveP ρ st a
  obj : ∀ (l : Nat) (a : Addr) (o : CO), ρ[l]? = some a → st[l]? = some o → RepO G ρ (Live κ ρ st) H o a
/-- from one state to a later one -/
structure Ext (κ : Addr → Prop) (ρ : List Addr) (st : Sto) (H : Hp) (ρ' : List Addr) (st' : Sto) (H' : Hp) : Prop where
  pre : ρ <+: ρ'
  hk : ∀ a, κ a → H' a = H a
  keep : ∀ a o, H a = some o → ¬ Live κ ρ st a → H' a = some o ∧ ¬ Live κ ρ' st' a
  tr : ∀ a, H' a = none → H a = none
  nw : ∀ (l : Nat) (a : Addr), ρ'[l]? = some a → ρ[l]? = some a ∨ H a = none

section
variable {G : Wd} {κ κ' : Addr → Prop} {ρ ρ' ρ2 : List Addr} {st st' st2 : Sto} {H H' H2 : Hp}
/-- the values stay; what is being made may be another -/
structure Pre (κ : Addr → Prop) (ρ : List Addr) (st : Sto) (H : Hp) (κ' : Addr → Prop) (ρ' : List Addr) (st' : Sto) (H' : Hp) : Prop where
  pre : ρ <+: ρ'
  keep : ∀ a o, H a = some o → ¬ Live κ ρ st a → H' a = some o ∧ ¬ Live κ' ρ' st' a
theorem Ext.refl : Ext κ ρ st H ρ st H := ⟨List.prefix_refl _, fun _ _ => rfl, fun _ _ h n => ⟨h, n⟩, fun _ h => h, fun _ _ h => .inl h⟩
theorem Ext.trans (a : Ext κ ρ st H ρ' st' H') (b : Ext κ ρ' st' H' ρ2 st2 H2) : Ext κ ρ st H ρ2 st2 H2 :=
  ⟨a.pre.trans b.pre, fun c h => (b.hk c h).trans (a.hk c h), fun c o h n => let ⟨h1, n1⟩ := a.keep c o h n; b.keep c o h1 n1, fun c h => a.tr c (b.tr c h), fun l c h => (b.nw l c h).elim (a.nw l c) fun z => .inr (a.tr c z)⟩
theorem Ext.toPre (a : Ext κ ρ st H ρ' st' H') : Pre κ ρ st H κ ρ' st' H' := ⟨a.pre, a.keep⟩
theorem Pre.rd (e : Pre κ ρ st H κ' ρ' st' H') {a : Addr} {u : HO} (h : Rd H a u) (n : ¬ Live κ ρ st a) : Rd H' a u ∧ ¬ Live κ' ρ' st' a := by
  rcases h with h | ⟨o, h⟩
  · obtain ⟨h1, h2⟩ := e.keep a _ h n
    exact ⟨.inl h1, h2⟩
  · obtain ⟨h1, h2⟩ := e.keep a _ h n
    exact ⟨.inr ⟨o, h1⟩, h2⟩
theorem Pre.at_ (e : Pre κ ρ st H κ' ρ' st' H') {l : Nat} {a : Addr} (h : ρ[l]? = some a) : ρ'[l]? = some a := by
  obtain ⟨t, rfl⟩ := e.pre
  rw [List.getElem?_append_left (List.getElem?_eq_some_iff.mp h).1]
  exact h
mutual
theorem RepV.extP (e : Pre κ ρ st H κ' ρ' st' H') : ∀ {x : CV} {v : V}, RepV G ρ (Live κ ρ st) H x v → RepV G ρ' (Live κ' ρ' st') H' x v
  | _, _, .non => .non
  | _, _, .bl b => .bl b
  | _, _, .int i => .int i
  | _, _, .str s => .str s
  | _, _, .tup h n r => .tup (e.keep _ _ h n).1 (e.keep _ _ h n).2 (RepVs.extP e r)
  | _, _, .kt h => .kt h
  | _, _, .lst h n r => .lst (e.keep _ _ h n).1 (e.keep _ _ h n).2 (RepVs.extP e r)
  | _, _, .dicK h n r => .dicK (e.keep _ _ h n).1 (e.keep _ _ h n).2 (RepDs.extP e r)
  | _, _, .dicT h n r => .dicT (e.keep _ _ h n).1 (e.keep _ _ h n).2 (RepTs.extP e r)
  | _, _, .rcd h n r => .rcd (e.keep _ _ h n).1 (e.keep _ _ h n).2 (RepFs.extP e r)
  | _, _, .loc h => .loc (e.at_ h)
  | _, _, .scr h n => .scr (e.rd h n).1 (e.rd h n).2
  | _, _, .scrK h => .scrK h
theorem RepVs.extP (e : Pre κ ρ st H κ' ρ' st' H') : ∀ {x : List CV} {v : List V}, RepVs G ρ (Live κ ρ st) H x v → RepVs G ρ' (Live κ' ρ' st') H' x v
  | _, _, .nil => .nil
  | _, _, .cons h r => .cons (RepV.extP e h) (RepVs.extP e r)
theorem RepDs.extP (e : Pre κ ρ st H κ' ρ' st' H') : ∀ {x : List (CV × CV)} {v : List (Key × V)}, RepDs G ρ (Live κ ρ st) H x v → RepDs G ρ' (Live κ' ρ' st') H' x v
  | _, _, .nil => .nil
  | _, _, .cons k h r => .cons k (RepV.extP e h) (RepDs.extP e r)
theorem RepTs.extP (e : Pre κ ρ st H κ' ρ' st' H') : ∀ {x : List (CV × CV)} {v : List (List Key × V)}, RepTs G ρ (Live κ ρ st) H x v → RepTs G ρ' (Live κ' ρ' st') H' x v
  | _, _, .nil => .nil
  | _, _, .cons k h r => .cons k (RepV.extP e h) (RepTs.extP e r)
theorem RepFs.extP (e : Pre κ ρ st H κ' ρ' st' H') : ∀ {x : List (Nat × CV)} {v : List (Str × V)}, RepFs G ρ (Live κ ρ st) H x v → RepFs G ρ' (Live κ' ρ' st') H' x v
  | _, _, .nil => .nil
  | _, _, .cons h r => .cons (RepV.extP e h) (RepFs.extP e r)
end
theorem RepV.ext (e : Ext κ ρ st H ρ' st' H') {x : CV} {v : V} (r : RepV G ρ (Live κ ρ st) H x v) : RepV G ρ' (Live κ ρ' st') H' x v := r.extP e.toPre
theorem RepVs.ext (e : Ext κ ρ st H ρ' st' H') {x : List CV} {v : List V} (r : RepVs G ρ (Live κ ρ st) H x v) : RepVs G ρ' (Live κ ρ' st') H' x v := r.extP e.toPre
theorem RepDs.ext (e : Ext κ ρ st H ρ' st' H') {x : List (CV × CV)} {v : List (Key × V)} (r : RepDs G ρ (Live κ ρ st) H x v) : RepDs G ρ' (Live κ ρ' st') H' x v := r.extP e.toPre
theorem RepTs.ext (e : Ext κ ρ st H ρ' st' H') {x : List (CV × CV)} {v : List (List Key × V)} (r : RepTs G ρ (Live κ ρ st) H x v) : RepTs G ρ' (Live κ ρ' st') H' x v := r.extP e.toPre
theorem RepFs.ext (e : Ext κ ρ st H ρ' st' H') {x : List (Nat × CV)} {v : List (Str × V)} (r : RepFs G ρ (Live κ ρ st) H x v) : RepFs G ρ' (Live κ ρ' st') H' x v := r.extP e.toPre
theorem HRel.there (R : HRel G κ ρ st H) {l : Nat} {a : Addr} (h : ρ[l]? = some a) : ∃ o, H a = some o := by
  have hl : l < st.length := by rw [← R.len]; exact (List.getElem?_eq_some_iff.mp h).1
  have q := R.obj l a st[l] h (List.getElem?_eq_getElem hl)
  revert q
  cases st[l] with
  | gone => intro q; exact Option.isSome_iff_exists.mp q
  | lst xs => rintro ⟨vs, e, _⟩; exact ⟨_, e⟩
  | dic t kvs => cases t <;> (rintro ⟨ws, e, _⟩; exact ⟨_, e⟩)
  | ins c fs => rintro ⟨dx, fv, e, _⟩; exact ⟨_, e⟩
theorem HRel.noHid (R : HRel G κ ρ st H) {a : Addr} (h : H a = none) : ¬ κ a := fun q => by
  obtain ⟨⟨o, e, _⟩, _⟩ := R.hid a q
  rw [h] at e
  cases e
theorem HRel.noLive (R : HRel G κ ρ st H) {a : Addr} (h : H a = none) : ¬ Live κ ρ st a := fun q => by
  rcases q with q | ⟨l, o, h1, _⟩
  · exact R.noHid h q
  · obtain ⟨u, e⟩ := R.there h1
    rw [h] at e
    cases e
theorem HRel.notIn (R : HRel G κ ρ st H) {a : Addr} (h : H a = none) : a ∉ ρ := fun m => by
  obtain ⟨l, hl⟩ := List.getElem?_of_mem m
  obtain ⟨u, e⟩ := R.there hl
  rw [h] at e
  cases e
theorem RepO.extP (e : Pre κ ρ st H κ' ρ' st' H') {o : CO} {a : Addr} (hl : o.live = true) (h : RepO G ρ (Live κ ρ st) H o a) (hk : H' a = H a) : RepO G ρ' (Live κ' ρ' st') H' o a := by
  cases o with
  | gone => cases hl
  | lst xs => obtain ⟨vs, e1, r⟩ := h; exact ⟨vs, hk.trans e1, r.extP e⟩
  | dic t kvs =>
    cases t with
    | false => obtain ⟨ws, e1, r⟩ := h; exact ⟨ws, hk.trans e1, r.extP e⟩
    | true => obtain ⟨ws, e1, r⟩ := h; exact ⟨ws, hk.trans e1, r.extP e⟩
  | ins c fs => obtain ⟨dx, fv, e1, r⟩ := h; exact ⟨dx, fv, hk.trans e1, r.extP e⟩

theorem RepO.ext (e : Ext κ ρ st H ρ' st' H') {o : CO} {a : Addr} (hl : o.live = true) (h : RepO G ρ (Live κ ρ st) H o a) (hk : H' a = H a) : RepO G ρ' (Live κ ρ' st') H' o a := RepO.extP e.toPre hl h hk
/-! ### steps of the state -/
theorem upd_none {H : Hp} {p a : Addr} {u : HO} (h : upd H p u a = none) : H a = none := by
  unfold upd at h
  split at h
  · cases h
  · exact h
/-- the relation, given again at each place -/
theorem HRel.of (R : HRel G κ ρ st H) (e : Pre κ ρ st H κ' ρ st H') (hid : ∀ a, κ' a → (∃ o, H' a = some o ∧ ∀ xs, o ≠ .tup xs) ∧ ¬ LiveP ρ st a) (k : ∀ (l : Nat) (a : Addr), ρ[l]? = some a → H' a = H a) : HRel G κ' ρ st H' := by
  refine ⟨R.len, R.nd, hid, fun l a o h1 h2 => ?_⟩
  have q := R.obj l a o h1 h2
  have hk := k l a h1
  cases o with
  | gone => show (H' a).isSome = true; rw [hk]; exact q
  | lst xs => exact RepO.extP e rfl q hk
  | dic t xs => exact RepO.extP e rfl q hk
  | ins c xs => exact RepO.extP e rfl q hk
/-- a new object that no place names -/
theorem ext_new (R : HRel G κ ρ st H) {p : Addr} {u : HO} (hp : H p = none) : Ext κ ρ st H ρ st (upd H p u) :=
  ⟨List.prefix_refl _, fun a h => upd_ne fun e => R.noHid hp (e ▸ h), fun a o h n => ⟨by rw [upd_ne (ne_of_none h hp)]; exact h, n⟩, fun a h => upd_none h, fun _ _ h => .inl h⟩
theorem rel_new (R : HRel G κ ρ st H) {p : Addr} {u : HO} (hp : H p = none) : HRel G κ ρ st (upd H p u) :=
  R.of (ext_new R hp).toPre (fun a h => ⟨by rw [(ext_new R hp).hk a h]; exact (R.hid a h).1, (R.hid a h).2⟩) fun l a h1 => upd_ne (by
    obtain ⟨w, e⟩ := R.there h1
    exact ne_of_none e hp)
/-- a tuple is never out of reach -/
theorem HRel.tup (R : HRel G κ ρ st H) {a : Addr} {xs : List V} (h : H a = some (.tup xs)) : ¬ Live κ ρ st a := fun q => by
  rcases q with q | ⟨l, o, h1, h2, h3⟩
  · obtain ⟨⟨o, e, n⟩, _⟩ := R.hid a q
    rw [h] at e
    cases e
    exact n _ rfl
  · have q := R.obj l a o h1 h2
    cases o with
    | gone => cases h3
    | lst xs => obtain ⟨vs, e, _⟩ := q; rw [h] at e; cases e
    | dic t kvs => cases t <;> (obtain ⟨ws, e, _⟩ := q; rw [h] at e; cases e)
    | ins c fs => obtain ⟨dx, fv, e, _⟩ := q; rw [h] at e; cases e
/-- more is tracked, nothing else changed (over a call's own new things) -/
theorem ext_more (R : HRel G κ ρ st H) (k : ∀ b o, H b = some o → H' b = some o) : Ext κ ρ st H ρ st H' := ⟨List.prefix_refl _, fun a h => by
  obtain ⟨⟨o, e, _⟩, _⟩ := R.hid a h
  rw [e, k a o e], fun a o h n => ⟨k a o h, n⟩, fun a h => (by
    cases e : H a with
    | none => rfl
    | some o => rw [k a o e] at h; cases h), fun _ _ h => .inl h⟩
theorem rel_more (R : HRel G κ ρ st H) (k : ∀ b o, H b = some o → H' b = some o) : HRel G κ ρ st H' :=
  R.of (ext_more R k).toPre (fun a h => ⟨by rw [(ext_more R k).hk a h]; exact (R.hid a h).1, (R.hid a h).2⟩) fun l a h1 => by
    obtain ⟨w, e⟩ := R.there h1
    rw [e, k a w e]
/-- something is being made at p from now on -/
theorem pre_hide (R : HRel G κ ρ st H) {p : Addr} {u : HO} (hp : H p = none) : Pre κ ρ st H (fun b => κ b ∨ b = p) ρ st (upd H p u) :=
  ⟨List.prefix_refl _, fun a o h n => ⟨by rw [upd_ne (ne_of_none h hp)]; exact h, fun q => by
    rcases q with (q | q) | q
    · exact n (.inl q)
    · exact ne_of_none h hp q
    · exact n (.inr q)⟩⟩
theorem rel_hide (R : HRel G κ ρ st H) {p : Addr} {u : HO} (hp : H p = none) (hu : ∀ xs, u ≠ .tup xs) : HRel G (fun b => κ b ∨ b = p) ρ st (upd H p u) :=
  R.of (pre_hide R hp) (fun a h => by
    rcases h with h | h
    · exact ⟨by rw [(ext_new R hp).hk a h]; exact (R.hid a h).1, (R.hid a h).2⟩
    · subst h
      exact ⟨⟨u, upd_same, hu⟩, fun q => R.noLive hp (.inr q)⟩) fun l a h1 => upd_ne (by
    obtain ⟨w, e⟩ := R.there h1
    exact ne_of_none e hp)
/-- what is being made is written -/
theorem pre_made (R : HRel G κ ρ st H) {p : Addr} {u : HO} (hp : κ p) : Pre κ ρ st H κ ρ st (upd H p u) :=
  ⟨List.prefix_refl _, fun a o h n => ⟨by rw [upd_ne fun e => n (.inl (by rw [e]; exact hp))]; exact h, n⟩⟩
theorem rel_made (R : HRel G κ ρ st H) {p : Addr} {u : HO} (hp : κ p) (hu : ∀ xs, u ≠ .tup xs) : HRel G κ ρ st (upd H p u) := by
  refine ⟨R.len, R.nd, fun a h => ⟨?_, (R.hid a h).2⟩, fun l a o h1 h2 => ?_⟩
  · by_cases e : a = p
    · subst e; exact ⟨u, upd_same, hu⟩
    · rw [upd_ne e]; exact (R.hid a h).1
  · have q := R.obj l a o h1 h2
    have ne : o.live = true → a ≠ p := fun ho e => (R.hid p hp).2 ⟨l, o, e ▸ h1, h2, ho⟩
    cases o with
    | gone =>
      show (upd H p u a).isSome = true
      by_cases e : a = p
      · subst e; rw [upd_same]; rfl
      · rw [upd_ne e]; exact q
    | lst xs => exact RepO.extP (pre_made R hp) rfl q (upd_ne (ne rfl))
    | dic t xs => exact RepO.extP (pre_made R hp) rfl q (upd_ne (ne rfl))
    | ins c xs => exact RepO.extP (pre_made R hp) rfl q (upd_ne (ne rfl))
/-- it is made: a value from now on -/
theorem pre_show {p : Addr} : Pre (fun b => κ b ∨ b = p) ρ st H κ ρ st H :=
  ⟨List.prefix_refl _, fun a o h n => ⟨h, fun q => n (by
    rcases q with q | q
    · exact .inl (.inl q)
    · exact .inr q)⟩⟩
theorem rel_show {p : Addr} (R : HRel G (fun b => κ b ∨ b = p) ρ st H) : HRel G κ ρ st H :=
  R.of pre_show (fun a h => R.hid a (.inl h)) fun _ _ _ => rfl

/-- it was made: the way from the start -/
theorem made_not (R : HRel G κ ρ st H) {p : Addr} (hp : H p = none) (R2 : HRel G (fun b => κ b ∨ b = p) ρ2 st2 H2) : ¬ Live κ ρ2 st2 p := fun q => by
  rcases q with q | q
  · exact R.noHid hp q
  · exact (R2.hid p (.inr rfl)).2 q
theorem made_ext (R : HRel G κ ρ st H) {p : Addr} {u0 u : HO} (hp : H p = none) (E : Ext (fun b => κ b ∨ b = p) ρ st (upd H p u0) ρ2 st2 H2) : Ext κ ρ st H ρ2 st2 (upd H2 p u) :=
  ⟨E.pre, fun a h => by
    have ne : a ≠ p := fun e => R.noHid hp (e ▸ h)
    rw [upd_ne ne, E.hk a (.inl h), upd_ne ne], fun a o h n => by
    have ne : a ≠ p := ne_of_none h hp
    obtain ⟨k1, k2⟩ := (pre_hide (u := u0) R hp).keep a o h n
    obtain ⟨k3, k4⟩ := E.keep a o k1 k2
    exact ⟨by rw [upd_ne ne]; exact k3, (pre_show.keep a o k3 k4).2⟩, fun a h => upd_none (E.tr a (upd_none h)), fun l a h => (E.nw l a h).imp_right upd_none⟩
theorem made_pre {p : Addr} (R2 : HRel G (fun b => κ b ∨ b = p) ρ2 st2 H2) {u : HO} : Pre (fun b => κ b ∨ b = p) ρ2 st2 H2 κ ρ2 st2 (upd H2 p u) :=
  ⟨List.prefix_refl _, fun a o h n => ⟨by rw [upd_ne fun e => n (.inl (.inr e))]; exact h, (pre_show.keep a o h n).2⟩⟩
theorem made_rel {p : Addr} (R2 : HRel G (fun b => κ b ∨ b = p) ρ2 st2 H2) {u : HO} (hu : ∀ xs, u ≠ .tup xs) : HRel G κ ρ2 st2 (upd H2 p u) := rel_show (rel_made R2 (.inr rfl) hu)

theorem live_set {l : Nat} {o o' : CO} (h : st[l]? = some o) (h1 : o.live = true) (h2 : o'.live = true) (a : Addr) : LiveP ρ (st.set l o') a ↔ LiveP ρ st a := by
  have hl : l < st.length := (List.getElem?_eq_some_iff.mp h).1
  constructor
  · rintro ⟨i, u, e1, e2, e3⟩
    by_cases hi : l = i
    · subst hi
      exact ⟨l, o, e1, h, h1⟩
    · rw [List.getElem?_set_ne hi] at e2
      exact ⟨i, u, e1, e2, e3⟩
  · rintro ⟨i, u, e1, e2, e3⟩
    by_cases hi : l = i
    · subst hi
      exact ⟨l, o', e1, List.getElem?_set_self hl, h2⟩
    · exact ⟨i, u, e1, (List.getElem?_set_ne hi).trans e2, e3⟩
/-- a place's content changes -/
theorem ext_set (R : HRel G κ ρ st H) {l : Nat} {a : Addr} {o o' : CO} {u : HO} (ha : ρ[l]? = some a) (h : st[l]? = some o) (h1 : o.live = true) (h2 : o'.live = true) : Ext κ ρ st H ρ (st.set l o') (upd H a u) := by
  refine ⟨List.prefix_refl _, fun b hb => upd_ne fun z => (R.hid b hb).2 ⟨l, o, z ▸ ha, h, h1⟩, fun b w e n => ⟨?_, fun q => n (q.imp_right (live_set h h1 h2 b).mp)⟩, fun _ h => upd_none h, fun _ _ h => .inl h⟩
  have nb : b ≠ a := fun z => n (by rw [z]; exact .inr ⟨l, o, ha, h, h1⟩)
  rw [upd_ne nb]
  exact e
theorem HRel.inj (R : HRel G κ ρ st H) {l i : Nat} {a : Addr} (h1 : ρ[l]? = some a) (h2 : ρ[i]? = some a) : l = i := by
  obtain ⟨i1, z1⟩ := List.getElem?_eq_some_iff.mp h1
  obtain ⟨i2, z2⟩ := List.getElem?_eq_some_iff.mp h2
  exact (List.getElem_inj R.nd).mp (z1.trans z2.symm)
theorem rel_set (R : HRel G κ ρ st H) {l : Nat} {a : Addr} {o o' : CO} {u : HO} (ha : ρ[l]? = some a) (h : st[l]? = some o) (h1 : o.live = true) (h2 : o'.live = true) (new : RepO G ρ (Live κ ρ (st.set l o')) (upd H a u) o' a) : HRel G κ ρ (st.set l o') (upd H a u) := by
  have hl : l < st.length := (List.getElem?_eq_some_iff.mp h).1
  have e := ext_set (u := u) R ha h h1 h2
  refine ⟨by rw [List.length_set]; exact R.len, R.nd, fun b hb => ⟨by rw [e.hk b hb]; exact (R.hid b hb).1, fun q => (R.hid b hb).2 ((live_set h h1 h2 b).mp q)⟩, fun i b w e1 e2 => ?_⟩
  by_cases hi : l = i
  · subst hi
    rw [ha] at e1
    cases e1
    rw [List.getElem?_set_self hl] at e2
    cases e2
    exact new
  · rw [List.getElem?_set_ne hi] at e2
    have nb : b ≠ a := fun z => hi (R.inj (z ▸ ha) e1)
    have q := R.obj i b w e1 e2
    cases w with
    | gone => show (upd H a u b).isSome = true; rw [upd_ne nb]; exact q
    | lst xs => exact RepO.ext e rfl q (upd_ne nb)
    | dic t xs => exact RepO.ext e rfl q (upd_ne nb)
    | ins c xs => exact RepO.ext e rfl q (upd_ne nb)
/-- a new place, of an object just made -/
theorem live_push {p : Addr} {o : CO} (R : ρ.length = st.length) (a : Addr) : LiveP (ρ ++ [p]) (st ++ [o]) a ↔ LiveP ρ st a ∨ (a = p ∧ o.live = true) := by
  constructor
  · rintro ⟨i, u, e1, e2, e3⟩
    by_cases hi : i < ρ.length
    · rw [List.getElem?_append_left hi] at e1
      rw [List.getElem?_append_left (by omega)] at e2
      exact .inl ⟨i, u, e1, e2, e3⟩
    · rw [List.getElem?_append_right (by omega)] at e1
      have z : i - ρ.length = 0 := by
        have := (List.getElem?_eq_some_iff.mp e1).1
        simp at this
        omega
      rw [z] at e1
      cases e1
      rw [List.getElem?_append_right (by omega), ← R, z] at e2
      cases e2
      exact .inr ⟨rfl, e3⟩
  · rintro (⟨i, u, e1, e2, e3⟩ | ⟨rfl, ho⟩)
    · refine ⟨i, u, ?_, ?_, e3⟩
      · rw [List.getElem?_append_left (List.getElem?_eq_some_iff.mp e1).1]; exact e1
      · rw [List.getElem?_append_left (List.getElem?_eq_some_iff.mp e2).1]; exact e2
    · refine ⟨ρ.length, o, ?_, ?_, ho⟩
      · rw [List.getElem?_append_right (Nat.le_refl _)]; simp
      · rw [R, List.getElem?_append_right (Nat.le_refl _)]; simp
theorem ext_push (R : HRel G κ ρ st H) {p : Addr} {o : CO} {u : HO} (hp : H p = none) (ho : o.live = true) : Ext κ ρ st H (ρ ++ [p]) (st ++ [o]) (upd H p u) :=
  ⟨⟨[p], rfl⟩, fun a h => upd_ne fun e => R.noHid hp (e ▸ h), fun a w h n => ⟨by rw [upd_ne (ne_of_none h hp)]; exact h, fun q => by
    rcases q with q | q
    · exact n (.inl q)
    · rcases (live_push R.len a).mp q with z | z
      · exact n (.inr z)
      · exact ne_of_none h hp z.1⟩, fun _ h => upd_none h, fun l a h => by
    by_cases hl : l < ρ.length
    · rw [List.getElem?_append_left hl] at h; exact .inl h
    · right
      rw [List.getElem?_append_right (by omega)] at h
      have e := List.mem_of_getElem? h
      rw [List.mem_singleton.mp e]
      exact hp⟩
theorem rel_push (R : HRel G κ ρ st H) {p : Addr} {o : CO} {u : HO} (hp : H p = none) (ho : o.live = true) (new : RepO G (ρ ++ [p]) (Live κ (ρ ++ [p]) (st ++ [o])) (upd H p u) o p) : HRel G κ (ρ ++ [p]) (st ++ [o]) (upd H p u) := by
  have e := ext_push (u := u) R hp ho
  refine ⟨by rw [List.length_append, List.length_append, R.len]; rfl, ?_, fun a h => ⟨by rw [e.hk a h]; exact (R.hid a h).1, fun q => ?_⟩, fun l a w h1 h2 => ?_⟩
  · rw [List.nodup_append]
    refine ⟨R.nd, by simp, fun x hx y hy => ?_⟩
    rw [List.mem_singleton.mp hy]
    intro z
    exact R.notIn hp (z ▸ hx)
  · rcases (live_push R.len a).mp q with z | z
    · exact (R.hid a h).2 z
    · exact R.noHid hp (z.1 ▸ h)
  · by_cases hi : l < ρ.length
    · rw [List.getElem?_append_left hi] at h1
      rw [List.getElem?_append_left (by rw [← R.len]; exact hi)] at h2
      have ne : a ≠ p := by
        obtain ⟨w, e⟩ := R.there h1
        exact ne_of_none e hp
      have q := R.obj l a w h1 h2
      cases w with
      | gone => show (upd H p u a).isSome = true; rw [upd_ne ne]; exact q
      | lst xs => exact RepO.ext e rfl q (upd_ne ne)
      | dic t xs => exact RepO.ext e rfl q (upd_ne ne)
      | ins c xs => exact RepO.ext e rfl q (upd_ne ne)
    · rw [List.getElem?_append_right (by omega)] at h1
      have : l - ρ.length = 0 := by
        have := (List.getElem?_eq_some_iff.mp h1).1
        simp at this
        omega
      rw [this] at h1
      cases h1
      rw [List.getElem?_append_right (by rw [← R.len]; omega)] at h2
      have e2 : l - st.length = 0 := by rw [← R.len]; exact this
      rw [e2] at h2
      cases h2
      exact new
/-- what was made is a new place -/
theorem live_made {p : Addr} {o : CO} (l : ρ.length = st.length) (ho : o.live = true) (a : Addr) : Live κ (ρ ++ [p]) (st ++ [o]) a ↔ Live (fun b => κ b ∨ b = p) ρ st a := by
  constructor
  · rintro (q | q)
    · exact .inl (.inl q)
    · rcases (live_push l a).mp q with z | z
      · exact .inr z
      · exact .inl (.inr z.1)
  · rintro ((q | q) | q)
    · exact .inl q
    · exact .inr ((live_push l a).mpr (.inr ⟨q, ho⟩))
    · exact .inr ((live_push l a).mpr (.inl q))
theorem box_pre {p : Addr} {o : CO} (R2 : HRel G (fun b => κ b ∨ b = p) ρ st H) (ho : o.live = true) {u : HO} : Pre (fun b => κ b ∨ b = p) ρ st H κ (ρ ++ [p]) (st ++ [o]) (upd H p u) :=
  ⟨⟨[p], rfl⟩, fun a w h n => ⟨by rw [upd_ne fun e => n (.inl (.inr e))]; exact h, fun q => n ((live_made R2.len ho a).mp q)⟩⟩
theorem box_rel {p : Addr} {o : CO} (R2 : HRel G (fun b => κ b ∨ b = p) ρ st H) (ho : o.live = true) {u : HO} (np : p ∉ ρ) (nk : ¬ κ p) (new : RepO G (ρ ++ [p]) (Live κ (ρ ++ [p]) (st ++ [o])) (upd H p u) o p) : HRel G κ (ρ ++ [p]) (st ++ [o]) (upd H p u) := by
  have e := box_pre (u := u) R2 ho
  have ne : ∀ a, a ∈ ρ → a ≠ p := fun a ha z => np (z ▸ ha)
  refine ⟨by rw [List.length_append, List.length_append, R2.len]; rfl, ?_, fun a h => ⟨by rw [upd_ne fun z => nk (by rw [← z]; exact h)]; exact (R2.hid a (.inl h)).1, fun q => ?_⟩, fun l a w h1 h2 => ?_⟩
  · rw [List.nodup_append]
    refine ⟨R2.nd, by simp, fun x hx y hy => ?_⟩
    rw [List.mem_singleton.mp hy]
    exact ne x hx
  · rcases (live_push R2.len a).mp q with z | z
    · exact (R2.hid a (.inl h)).2 z
    · exact nk (z.1 ▸ h)
  · by_cases hi : l < ρ.length
    · rw [List.getElem?_append_left hi] at h1
      rw [List.getElem?_append_left (by rw [← R2.len]; exact hi)] at h2
      have n1 := ne a (List.mem_of_getElem? h1)
      have q := R2.obj l a w h1 h2
      cases w with
      | gone => show (upd H p u a).isSome = true; rw [upd_ne n1]; exact q
      | lst xs => exact RepO.extP e rfl q (upd_ne n1)
      | dic t xs => exact RepO.extP e rfl q (upd_ne n1)
      | ins c xs => exact RepO.extP e rfl q (upd_ne n1)
    · rw [List.getElem?_append_right (by omega)] at h1
      have z : l - ρ.length = 0 := by
        have := (List.getElem?_eq_some_iff.mp h1).1
        simp at this
        omega
      rw [z] at h1
      cases h1
      rw [List.getElem?_append_right (by rw [← R2.len]; omega)] at h2
      have e2 : l - st.length = 0 := by rw [← R2.len]; exact z
      rw [e2] at h2
      cases h2
      exact new
theorem box_ext (R : HRel G κ ρ st H) {p : Addr} {u0 u : HO} {o : CO} (hp : H p = none) (E : Ext (fun b => κ b ∨ b = p) ρ st (upd H p u0) ρ2 st2 H2) (R2 : HRel G (fun b => κ b ∨ b = p) ρ2 st2 H2) (ho : o.live = true) : Ext κ ρ st H (ρ2 ++ [p]) (st2 ++ [o]) (upd H2 p u) :=
  ⟨E.pre.trans ⟨[p], rfl⟩, (made_ext (u := u) R hp E).hk, fun a w h n => by
    have ne : a ≠ p := ne_of_none h hp
    obtain ⟨k1, k2⟩ := (pre_hide (u := u0) R hp).keep a w h n
    obtain ⟨k3, k4⟩ := E.keep a w k1 k2
    exact (box_pre R2 ho).keep a w k3 k4, (made_ext (u := u) R hp E).tr, fun l a h => by
    by_cases hl : l < ρ2.length
    · rw [List.getElem?_append_left hl] at h
      exact (E.nw l a h).imp_right upd_none
    · right
      rw [List.getElem?_append_right (by omega)] at h
      have e := List.mem_of_getElem? h
      rw [List.mem_singleton.mp e]
      exact hp⟩
theorem made_nin (R : HRel G κ ρ st H) {p : Addr} {u0 : HO} (hp : H p = none) (E : Ext (fun b => κ b ∨ b = p) ρ st (upd H p u0) ρ2 st2 H2) : p ∉ ρ2 := fun m => by
  obtain ⟨l, hl⟩ := List.getElem?_of_mem m
  rcases E.nw l p hl with z | z
  · exact R.notIn hp (List.mem_of_getElem? z)
  · rw [upd_same] at z; cases z
/-- a place is no more -/
theorem live_gone {l : Nat} (a : Addr) (h : LiveP ρ (st.set l .gone) a) : LiveP ρ st a := by
  obtain ⟨i, u, e1, e2, e3⟩ := h
  by_cases hi : l = i
  · subst hi
    have hl : l < st.length := by
      have := (List.getElem?_eq_some_iff.mp e2).1
      rw [List.length_set] at this
      exact this
    rw [List.getElem?_set_self hl] at e2
    cases e2
    cases e3
  · rw [List.getElem?_set_ne hi] at e2
    exact ⟨i, u, e1, e2, e3⟩
theorem ext_gone {l : Nat} : Ext κ ρ st H ρ (st.set l .gone) H := ⟨List.prefix_refl _, fun _ _ => rfl, fun a o h n => ⟨h, fun q => n (q.imp_right (live_gone a))⟩, fun _ h => h, fun _ _ h => .inl h⟩
theorem not_live_gone (R : HRel G κ ρ st H) {l : Nat} {a : Addr} (ha : ρ[l]? = some a) : ¬ LiveP ρ (st.set l .gone) a := by
  rintro ⟨i, u, e1, e2, e3⟩
  have hi : i = l := R.inj e1 ha
  subst hi
  have hl : i < st.length := by rw [← R.len]; exact (List.getElem?_eq_some_iff.mp ha).1
  rw [List.getElem?_set_self hl] at e2
  cases e2
  cases e3
theorem rel_gone (R : HRel G κ ρ st H) {l : Nat} : HRel G κ ρ (st.set l .gone) H := by
  refine ⟨by rw [List.length_set]; exact R.len, R.nd, fun a h => ⟨(R.hid a h).1, fun q => (R.hid a h).2 (live_gone a q)⟩, fun i a w h1 h2 => ?_⟩
  by_cases hi : l = i
  · subst hi
    have hl : l < st.length := by rw [← R.len]; exact (List.getElem?_eq_some_iff.mp h1).1
    rw [List.getElem?_set_self hl] at h2
    cases h2
    obtain ⟨u, e⟩ := R.there h1
    show (H a).isSome = true
    rw [e]
    rfl
  · rw [List.getElem?_set_ne hi] at h2
    have q := R.obj i a w h1 h2
    cases w with
    | gone => exact q
    | lst xs => exact RepO.ext ext_gone rfl q rfl
    | dic t xs => exact RepO.ext ext_gone rfl q rfl
    | ins c xs => exact RepO.ext ext_gone rfl q rfl
/-- a place is walked: it is kept as it is -/
theorem live_lock (R : HRel G κ ρ st H) {l : Nat} {p : Addr} {o : CO} (hp : ρ[l]? = some p) (h : st[l]? = some o) (h1 : o.live = true) (a : Addr) : Live (fun b => κ b ∨ b = p) ρ (st.set l .gone) a ↔ Live κ ρ st a := by
  constructor
  · rintro ((q | q) | q)
    · exact .inl q
    · exact .inr ⟨l, o, q ▸ hp, h, h1⟩
    · exact .inr (live_gone a q)
  · rintro (q | ⟨i, u, e1, e2, e3⟩)
    · exact .inl (.inl q)
    · by_cases hi : l = i
      · subst hi
        rw [hp] at e1
        cases e1
        exact .inl (.inr rfl)
      · exact .inr ⟨i, u, e1, (List.getElem?_set_ne hi).trans e2, e3⟩
theorem rel_lock (R : HRel G κ ρ st H) {l : Nat} {p : Addr} {xs : List CV} (hp : ρ[l]? = some p) (h : st[l]? = some (.lst xs)) : HRel G (fun b => κ b ∨ b = p) ρ (st.set l .gone) H := by
  have e : Pre κ ρ st H (fun b => κ b ∨ b = p) ρ (st.set l .gone) H := ⟨List.prefix_refl _, fun a w h2 n => ⟨h2, fun q => n ((live_lock R hp h rfl a).mp q)⟩⟩
  have hl : l < st.length := (List.getElem?_eq_some_iff.mp h).1
  refine ⟨by rw [List.length_set]; exact R.len, R.nd, fun a ha => ?_, fun i a w e1 e2 => ?_⟩
  · rcases ha with ha | ha
    · exact ⟨(R.hid a ha).1, fun q => (R.hid a ha).2 (live_gone a q)⟩
    · subst ha
      obtain ⟨vs, e1, _⟩ := R.obj l a _ hp h
      exact ⟨⟨_, e1, fun _ z => nomatch z⟩, not_live_gone R hp⟩
  · by_cases hi : l = i
    · subst hi
      rw [List.getElem?_set_self hl] at e2
      cases e2
      obtain ⟨u, e⟩ := R.there e1
      show (H a).isSome = true
      rw [e]
      rfl
    · rw [List.getElem?_set_ne hi] at e2
      have q := R.obj i a w e1 e2
      cases w with
      | gone => exact q
      | lst xs => exact RepO.extP e rfl q rfl
      | dic t xs => exact RepO.extP e rfl q rfl
      | ins c xs => exact RepO.extP e rfl q rfl
/-- the walk is over -/
theorem live_unlock {l : Nat} {p : Addr} {o : CO} (hp : ρ[l]? = some p) (h : st[l]? = some .gone) (h1 : o.live = true) (a : Addr) : Live κ ρ (st.set l o) a ↔ Live (fun b => κ b ∨ b = p) ρ st a := by
  have hl : l < st.length := (List.getElem?_eq_some_iff.mp h).1
  constructor
  · rintro (q | ⟨i, u, e1, e2, e3⟩)
    · exact .inl (.inl q)
    · by_cases hi : l = i
      · subst hi
        rw [hp] at e1
        cases e1
        exact .inl (.inr rfl)
      · rw [List.getElem?_set_ne hi] at e2
        exact .inr ⟨i, u, e1, e2, e3⟩
  · rintro ((q | q) | ⟨i, u, e1, e2, e3⟩)
    · exact .inl q
    · exact .inr ⟨l, o, q ▸ hp, List.getElem?_set_self hl, h1⟩
    · by_cases hi : l = i
      · subst hi
        rw [h] at e2
        cases e2
        cases e3
      · exact .inr ⟨i, u, e1, (List.getElem?_set_ne hi).trans e2, e3⟩
theorem rel_unlock {l : Nat} {p : Addr} {xs : List CV} (R : HRel G (fun b => κ b ∨ b = p) ρ st H) (nk : ¬ κ p) (hp : ρ[l]? = some p) (h : st[l]? = some .gone) (new : ∃ vs, H p = some (.lst vs) ∧ RepVs G ρ (Live (fun b => κ b ∨ b = p) ρ st) H xs vs) : HRel G κ ρ (st.set l (.lst xs)) H := by
  have e : Pre (fun b => κ b ∨ b = p) ρ st H κ ρ (st.set l (.lst xs)) H := ⟨List.prefix_refl _, fun a w h2 n => ⟨h2, fun q => n ((live_unlock hp h rfl a).mp q)⟩⟩
  have hl : l < st.length := (List.getElem?_eq_some_iff.mp h).1
  refine ⟨by rw [List.length_set]; exact R.len, R.nd, fun a ha => ⟨(R.hid a (.inl ha)).1, fun q => ?_⟩, fun i a w e1 e2 => ?_⟩
  · rcases (live_unlock (κ := fun _ => False) hp h rfl a).mp (.inr q) with (z | z) | z
    · exact z
    · exact nk (z ▸ ha)
    · exact (R.hid a (.inl ha)).2 z
  · by_cases hi : l = i
    · subst hi
      rw [List.getElem?_set_self hl] at e2
      cases e2
      rw [hp] at e1
      cases e1
      obtain ⟨vs, h1, r⟩ := new
      exact ⟨vs, h1, r.extP e⟩
    · rw [List.getElem?_set_ne hi] at e2
      have q := R.obj i a w e1 e2
      cases w with
      | gone => exact q
      | lst xs => exact RepO.extP e rfl q rfl
      | dic t xs => exact RepO.extP e rfl q rfl
      | ins c xs => exact RepO.extP e rfl q rfl
end

/-! ### lists of values -/
section
variable {G : Wd} {ρ : List Addr} {L : Addr → Prop} {H : Hp}
theorem RepVs.length : ∀ {xs : List CV} {vs : List V}, RepVs G ρ L H xs vs → xs.length = vs.length
  | _, _, .nil => rfl
  | _, _, .cons _ r => congrArg Nat.succ r.length
theorem RepVs.append : ∀ {xs ys : List CV} {vs ws : List V}, RepVs G ρ L H xs vs → RepVs G ρ L H ys ws → RepVs G ρ L H (xs ++ ys) (vs ++ ws)
  | _, _, _, _, .nil, s => s
  | _, _, _, _, .cons h r, s => .cons h (r.append s)
theorem RepVs.get : ∀ {xs : List CV} {vs : List V} {i : Nat} {x : CV}, RepVs G ρ L H xs vs → xs[i]? = some x → ∃ v, vs[i]? = some v ∧ RepV G ρ L H x v
  | _, _, _, _, .nil, e => by simp at e
  | _, _, 0, _, .cons h _, e => by simp at e; subst e; exact ⟨_, rfl, h⟩
  | _, _, i + 1, x, .cons _ t, e => by
    obtain ⟨u, h1, h2⟩ := RepVs.get (i := i) (x := x) t (by simpa using e)
    exact ⟨u, by simpa using h1, h2⟩
theorem RepVs.getV : ∀ {xs : List CV} {vs : List V} {i : Nat} {v : V}, RepVs G ρ L H xs vs → vs[i]? = some v → ∃ x, xs[i]? = some x ∧ RepV G ρ L H x v
  | _, _, _, _, .nil, e => by simp at e
  | _, _, 0, _, .cons h _, e => by simp at e; subst e; exact ⟨_, rfl, h⟩
  | _, _, i + 1, x, .cons _ t, e => by
    obtain ⟨u, h1, h2⟩ := RepVs.getV (i := i) (v := x) t (by simpa using e)
    exact ⟨u, by simpa using h1, h2⟩
theorem RepVs.take : ∀ {xs : List CV} {vs : List V} (n : Nat), RepVs G ρ L H xs vs → RepVs G ρ L H (xs.take n) (vs.take n)
  | _, _, 0, _ => .nil
  | _, _, _ + 1, .nil => .nil
  | _, _, n + 1, .cons h r => .cons h (r.take n)
theorem RepVs.drop : ∀ {xs : List CV} {vs : List V} (n : Nat), RepVs G ρ L H xs vs → RepVs G ρ L H (xs.drop n) (vs.drop n)
  | _, _, 0, r => r
  | _, _, _ + 1, .nil => .nil
  | _, _, n + 1, .cons _ r => r.drop n
theorem RepVs.set : ∀ {xs : List CV} {vs : List V} (i : Nat) {x : CV} {v : V}, RepV G ρ L H x v → RepVs G ρ L H xs vs → RepVs G ρ L H (xs.set i x) (vs.set i v)
  | _, _, _, _, _, _, .nil => .nil
  | _, _, 0, _, _, h, .cons _ t => .cons h t
  | _, _, i + 1, _, _, h, .cons q t => .cons q (RepVs.set i h t)
theorem RepVs.eraseIdx : ∀ {xs : List CV} {vs : List V} (i : Nat), RepVs G ρ L H xs vs → RepVs G ρ L H (xs.eraseIdx i) (vs.eraseIdx i)
  | _, _, _, .nil => .nil
  | _, _, 0, .cons _ t => t
  | _, _, i + 1, .cons q t => .cons q (t.eraseIdx i)
theorem RepVs.reverse : ∀ {xs : List CV} {vs : List V}, RepVs G ρ L H xs vs → RepVs G ρ L H xs.reverse vs.reverse
  | _, _, .nil => .nil
  | _, _, .cons h r => by
    rw [List.reverse_cons, List.reverse_cons]
    exact r.reverse.append (.cons h .nil)
theorem RepVs.flatRep {xs : List CV} {vs : List V} (h : RepVs G ρ L H xs vs) : ∀ k : Nat, RepVs G ρ L H (List.replicate k xs).flatten (List.replicate k vs).flatten
  | 0 => .nil
  | k + 1 => by
    rw [List.replicate_succ, List.replicate_succ, List.flatten_cons, List.flatten_cons]
    exact h.append (h.flatRep k)
theorem RepVs.dropLast {xs : List CV} {vs : List V} (h : RepVs G ρ L H xs vs) : RepVs G ρ L H xs.dropLast vs.dropLast := by
  rw [List.dropLast_eq_take, List.dropLast_eq_take, h.length]
  exact h.take _
theorem RepVs.ints : ∀ {xs : List CV} {vs : List V} {ns : List Int}, RepVs G ρ L H xs vs → intsOf xs = some ns → vs = ns.map V.int
  | _, _, _, .nil, e => by cases e; rfl
  | x :: xs, v :: vs, ns, .cons h r, e => by
    cases h with
    | int i =>
      unfold intsOf at e
      obtain ⟨ms, e1, rfl⟩ := Option.map_eq_some_iff.mp e
      rw [r.ints e1]
      rfl
    | _ => cases e
theorem RepVs.bls : ∀ {xs : List CV} {vs : List V} {ns : List Bool}, RepVs G ρ L H xs vs → blsOf xs = some ns → vs = ns.map V.bl
  | _, _, _, .nil, e => by cases e; rfl
  | x :: xs, v :: vs, ns, .cons h r, e => by
    cases h with
    | bl i =>
      unfold blsOf at e
      obtain ⟨ms, e1, rfl⟩ := Option.map_eq_some_iff.mp e
      rw [r.bls e1]
      rfl
    | _ => cases e
theorem RepVs.strs : ∀ {xs : List CV} {vs : List V} {ns : List (List Nat)}, RepVs G ρ L H xs vs → strsOf xs = some ns → vs = ns.map fun x => V.str (SS x)
  | _, _, _, .nil, e => by cases e; rfl
  | x :: xs, v :: vs, ns, .cons h r, e => by
    cases h with
    | str i =>
      unfold strsOf at e
      obtain ⟨ms, e1, rfl⟩ := Option.map_eq_some_iff.mp e
      rw [r.strs e1]
      rfl
    | _ => cases e
theorem repInts (ns : List Int) : RepVs G ρ L H (ns.map CV.int) (ns.map V.int) := by
  induction ns with
  | nil => exact .nil
  | cons n r ih => exact .cons (.int n) ih
theorem repStrs (ns : List (List Nat)) : RepVs G ρ L H (ns.map CV.str) (ns.map fun x => V.str (SS x)) := by
  induction ns with
  | nil => exact .nil
  | cons n r ih => exact .cons (.str n) ih
theorem RepFs.lookup : ∀ {fs : List (Nat × CV)} {fv : List (Str × V)} {f : Nat} {x : CV}, (∀ p ∈ fs, G.an p.1 = G.an f → p.1 = f) → RepFs G ρ L H fs fv → fs.lookup f = some x → ∃ v, fv.lookup (G.an f) = some v ∧ RepV G ρ L H x v
  | _, _, _, _, _, .nil, e => by simp at e
  | (g, y) :: fs, _, f, x, inj, .cons (v := v) h r, e => by
    rw [List.lookup_cons] at e ⊢
    by_cases hg : f = g
    · subst hg
      simp at e
      subst e
      exact ⟨v, by simp, h⟩
    · have h1 : (f == g) = false := by simpa using hg
      rw [h1] at e
      have h2 : (G.an f == G.an g) = false := by
        simp only [beq_eq_false_iff_ne, ne_eq]
        intro z
        exact hg (inj (g, y) List.mem_cons_self z.symm).symm
      rw [h2]
      exact RepFs.lookup (fun p hp => inj p (List.mem_cons_of_mem _ hp)) r e
theorem RepFs.lookupN : ∀ {fs : List (Nat × CV)} {fv : List (Str × V)} {f : Nat}, (∀ p ∈ fs, G.an p.1 = G.an f → p.1 = f) → RepFs G ρ L H fs fv → fs.lookup f = none → fv.lookup (G.an f) = none
  | _, _, _, _, .nil, e => rfl
  | (g, y) :: fs, _, f, inj, .cons (v := v) h r, e => by
    rw [List.lookup_cons] at e ⊢
    by_cases hg : f = g
    · subst hg
      simp at e
    · have h1 : (f == g) = false := by simpa using hg
      rw [h1] at e
      have h2 : (G.an f == G.an g) = false := by
        simp only [beq_eq_false_iff_ne, ne_eq]
        intro z
        exact hg (inj (g, y) List.mem_cons_self z.symm).symm
      rw [h2]
      exact RepFs.lookupN (fun p hp => inj p (List.mem_cons_of_mem _ hp)) r e
theorem RepFs.length : ∀ {fs : List (Nat × CV)} {fv : List (Str × V)}, RepFs G ρ L H fs fv → fs.length = fv.length
  | _, _, .nil => rfl
  | _, _, .cons _ r => congrArg Nat.succ r.length
end
end MP
end MPc_text

section MPd_text
set_option Elab.async false
set_option linter.all false
set_option maxRecDepth 100000
/-! Operators over the small Python's values keep what the layer's rules say. -/
namespace MP
open PySem PySem.Spec PyProof.Rows L2

/-- what follows a value; bx: it is to be a new place of the store -/
def Post (G : Wd) (κ : Addr → Prop) (ρ : List Addr) (st : Sto) (H : Hp) (v : CV) (st' : Sto) (Q : VK) : Prop := ∀ (x : V) (ρ' : List Addr) (H' : Hp), HRel G κ ρ' st' H' → Ext κ ρ st H ρ' st' H' → RepV G ρ' (Live κ ρ' st') H' v x → Q x H'
def VP (G : Wd) (bx : Bool) (κ : Addr → Prop) (ρ : List Addr) (st : Sto) (H : Hp) (v : CV) (Q : VK) : Prop := match bx with
  | false => Post G κ ρ st H v st Q
  | true => match boxed v st with
    | some (w, st') => Post G κ ρ st H w st' Q
    | none => False
section
variable {G : Wd} {bx : Bool} {κ : Addr → Prop} {ρ : List Addr} {st : Sto} {H : Hp} {Q : VK}
theorem VP.here (R : HRel G κ ρ st H) {v : CV} {x : V} (h : VP G bx κ ρ st H v Q) (r : RepV G ρ (Live κ ρ st) H v x) (hv : bx = true → boxed v st = none := by first | (intro _; rfl) | assumption | (intro q; cases q)) : Q x H := by
  cases bx with
  | false => exact h x ρ H R .refl r
  | true =>
    unfold VP at h
    dsimp only at h
    rw [hv rfl] at h
    exact h.elim
theorem VP.lst (R : HRel G κ ρ st H) {xs : List CV} {vs : List V} {p : Addr} (h : VP G bx κ ρ st H (.lst xs) Q) (r : RepVs G ρ (Live κ ρ st) H xs vs) (hp : H p = none) : Q (.ref p) (upd H p (.lst vs)) := by
  cases bx with
  | false => exact h _ ρ _ (rel_new R hp) (ext_new R hp) (.lst upd_same (R.noLive hp) (r.ext (ext_new R hp)))
  | true =>
    have e := ext_push (u := .lst vs) (o := .lst xs) R hp rfl
    exact h _ (ρ ++ [p]) _ (rel_push R hp rfl ⟨vs, upd_same, r.ext e⟩) e (.loc (by rw [← R.len]; simp))
theorem VP.tup (R : HRel G κ ρ st H) {xs : List CV} {vs : List V} {p : Addr} (h : VP G bx κ ρ st H (.tup xs) Q) (r : RepVs G ρ (Live κ ρ st) H xs vs) (hp : H p = none) : Q (.ref p) (upd H p (.tup vs)) := by
  cases bx with
  | false => exact h _ ρ _ (rel_new R hp) (ext_new R hp) (.tup upd_same (R.noLive hp) (r.ext (ext_new R hp)))
  | true => exact h.elim
theorem VP.dicK (R : HRel G κ ρ st H) {xs : List (CV × CV)} {vs : List (Key × V)} {p : Addr} (h : VP G bx κ ρ st H (.dic false xs) Q) (r : RepDs G ρ (Live κ ρ st) H xs vs) (hp : H p = none) : Q (.ref p) (upd H p (.dK vs)) := by
  cases bx with
  | false => exact h _ ρ _ (rel_new R hp) (ext_new R hp) (.dicK upd_same (R.noLive hp) (r.ext (ext_new R hp)))
  | true =>
    have e := ext_push (u := .dK vs) (o := .dic false xs) R hp rfl
    exact h _ (ρ ++ [p]) _ (rel_push R hp rfl ⟨vs, upd_same, r.ext e⟩) e (.loc (by rw [← R.len]; simp))
theorem VP.dicT (R : HRel G κ ρ st H) {xs : List (CV × CV)} {vs : List (List Key × V)} {p : Addr} (h : VP G bx κ ρ st H (.dic true xs) Q) (r : RepTs G ρ (Live κ ρ st) H xs vs) (hp : H p = none) : Q (.ref p) (upd H p (.dT vs)) := by
  cases bx with
  | false => exact h _ ρ _ (rel_new R hp) (ext_new R hp) (.dicT upd_same (R.noLive hp) (r.ext (ext_new R hp)))
  | true =>
    have e := ext_push (u := .dT vs) (o := .dic true xs) R hp rfl
    exact h _ (ρ ++ [p]) _ (rel_push R hp rfl ⟨vs, upd_same, r.ext e⟩) e (.loc (by rw [← R.len]; simp))
theorem tup_sq {xs : List CV} {x : V} (r : RepV G ρ (Live κ ρ st) H (.tup xs) x) : ∃ p vs, x = .ref p ∧ SqT G.K H p vs ∧ RepVs G ρ (Live κ ρ st) H xs vs := by
  cases r with
  | tup h n r => exact ⟨_, _, rfl, SqT.of h, r⟩
theorem lstOf_rep (R : HRel G κ ρ st H) {a : CV} {x : V} {xs : List CV} (r : RepV G ρ (Live κ ρ st) H a x) (e : lstOf st a = some xs) : ∃ p vs, x = .ref p ∧ H p = some (.lst vs) ∧ RepVs G ρ (Live κ ρ st) H xs vs := by
  cases r with
  | lst h n r => cases e; exact ⟨_, _, rfl, h, r⟩
  | @loc l a h =>
    unfold lstOf at e
    dsimp only at e
    split at e
    · rename_i ys hl
      cases e
      obtain ⟨vs, e1, r⟩ := R.obj l a _ h hl
      exact ⟨_, _, rfl, e1, r⟩
    · cases e
  | _ => cases e
theorem seqOf_rep (R : HRel G κ ρ st H) {a : CV} {x : V} {xs : List CV} (r : RepV G ρ (Live κ ρ st) H a x) (e : seqOf st a = some xs) : ∃ p vs, x = .ref p ∧ (SqL G.K H p vs ∨ SqT G.K H p vs) ∧ RepVs G ρ (Live κ ρ st) H xs vs := by
  cases r with
  | tup h n r => cases e; exact ⟨_, _, rfl, .inr (SqT.of h), r⟩
  | kt h => cases e; exact ⟨_, _, rfl, .inr (h H), repInts _⟩
  | lst h n r => cases e; exact ⟨_, _, rfl, .inl (SqL.of h), r⟩
  | scr h n => cases e; exact ⟨_, _, rfl, .inl (.inl h), repInts _⟩
  | scrK h => cases e; exact ⟨_, _, rfl, .inl (h H), repInts _⟩
  | @loc l a h =>
    unfold seqOf at e
    dsimp only at e
    split at e
    · rename_i ys hl
      cases e
      obtain ⟨vs, e1, r⟩ := R.obj l a _ h hl
      exact ⟨_, _, rfl, .inl (SqL.of e1), r⟩
    · cases e
  | _ => cases e
/-- a dict, as it lies -/
def DRep (G : Wd) (ρ : List Addr) (L : Addr → Prop) (H : Hp) (t : Bool) (kvs : List (CV × CV)) (p : Addr) : Prop := RepO G ρ L H (.dic t kvs) p
theorem dicOf_rep (R : HRel G κ ρ st H) {a : CV} {x : V} {d : Bool × List (CV × CV)} (r : RepV G ρ (Live κ ρ st) H a x) (e : dicOf st a = some d) : ∃ p, x = .ref p ∧ DRep G ρ (Live κ ρ st) H d.1 d.2 p := by
  cases r with
  | dicK h n r => cases e; exact ⟨_, rfl, _, h, r⟩
  | dicT h n r => cases e; exact ⟨_, rfl, _, h, r⟩
  | @loc l a h =>
    unfold dicOf at e
    dsimp only at e
    split at e
    · rename_i t ys hl
      cases e
      exact ⟨_, rfl, R.obj l a _ h hl⟩
    · cases e
  | _ => cases e
end
theorem lenOk_line {n : Nat} (h : lenOk n = true) : n ≤ sizeLine := by
  have h1 : n ≤ 16000000 := of_decide_eq_true h
  rw [sizeLine_eq]
  omega
theorem lenOk_lt {n : Nat} (h : lenOk n = true) : n < sizeLine := by
  have h1 : n ≤ 16000000 := of_decide_eq_true h
  rw [sizeLine_eq]
  omega
theorem mulOk_ok {i j : Int} (h : mulOk i j = true) : IntMulOk i j := by
  unfold mulOk at h
  rcases Bool.or_eq_true_iff.mp h with h | h
  · rcases Bool.or_eq_true_iff.mp h with h | h
    · have h := of_decide_eq_true h
      exact CMul.ok (.inl ⟨by omega, by omega⟩)
    · have h := of_decide_eq_true h
      exact CMul.ok (.inr ⟨by omega, by omega⟩)
  · have h : i.natAbs.log2 + j.natAbs.log2 < 1000000 := of_decide_eq_true h
    exact CMulW.ok h
theorem ss_append (x y : List Nat) : SS x ++ SS y = SS (x ++ y) := by
  show (⟨x.toArray ++ y.toArray⟩ : Str) = _
  rw [List.append_toArray]
theorem ss_length (x : List Nat) : (SS x).length = x.length := by
  show x.toArray.size = _
  simp
theorem cutIx_eq (n d : Nat) (o : Option Int) : HT.sIx n d o = cutIx n d o := by
  cases o with
  | none => rfl
  | some v =>
    unfold HT.sIx cutIx
    by_cases h : v < 0
    · simp only [h, if_true]
    · simp only [h, if_false]
theorem cutV_eq (xs : List V) (lo hi : Option Int) : cutV xs lo hi = cutL xs lo hi := by
  unfold cutV cutL
  rw [cutIx_eq, cutIx_eq]
theorem cutS_eq (x : List Nat) (lo hi : Option Int) : cutS (SS x) lo hi = SS (cutL x lo hi) := by
  unfold cutS cutL
  rw [ss_length]
  show (⟨_⟩ : Str) = _
  rw [cutIx_eq, cutIx_eq]
theorem RepVs.cut {G : Wd} {ρ : List Addr} {L : Addr → Prop} {H : Hp} {xs : List CV} {vs : List V} (r : RepVs G ρ L H xs vs) (lo hi : Option Int) : RepVs G ρ L H (cutL xs lo hi) (cutL vs lo hi) := by
  unfold cutL
  rw [r.length]
  exact (r.drop _).take _

/-! ### operators -/
def Bop.op : Bop → Operator
  | .add => .Add | .sub => .Sub | .mul => .Mult | .fdiv => .FloorDiv | .mod => .Mod | .pow => .Pow
def rBin (G : Wd) (bx : Bool) (o : Bop) : R2 := fun x y H Q => ∃ κ ρ st a b v, HRel G κ ρ st H ∧ RepV G ρ (Live κ ρ st) H a x ∧ RepV G ρ (Live κ ρ st) H b y ∧ binop st o a b = some v ∧ VP G bx κ ρ st H v Q
section
variable {X : Cx} {G : Wd}
theorem op_powG : OpR X (binaryOp .Pow) (rI (fun i j => powOk i j = true) fun i j => .int (i ^ j.toNat)) := opI fun i j _ _ _ _ _ hc q => by
  unfold powOk at hc
  obtain ⟨h1, hc⟩ := Bool.and_eq_true_iff.mp hc
  obtain ⟨h2, h3⟩ := Bool.and_eq_true_iff.mp hc
  have h1 := of_decide_eq_true h1
  have h2 := of_decide_eq_true h2
  have h3 := of_decide_eq_true h3
  refine pow_int h1 ?_ q
  have b : Builtin.Int.intBits i ≤ i.natAbs.log2 + 1 := by
    unfold Builtin.Int.intBits
    split <;> omega
  have b2 : Builtin.Int.intBits i ≤ 100000 := by omega
  have h4 : (Builtin.Int.intBits i : Int) * j ≤ 100000 * 1000 := by
    refine Int.mul_le_mul (by omega) h3 h1 (by decide)
  exact Int.le_trans h4 (by decide)
theorem op_bin {bx : Bool} (hK : X.K = G.K) (o : Bop) : OpR X (binaryOp o.op) (rBin G bx o) := by
  intro pins s σ H x y v u Q I rx ry h
  obtain ⟨κ, ρ, st, a, b, z, R, ra, rb, e, k⟩ := h
  unfold binop at e
  split at e
  · cases ra; cases rb; cases e
    exact op_add pins s σ H _ _ v u Q I rx ry ⟨_, _, rfl, rfl, k.here R (.int _)⟩
  · cases ra; cases rb; cases e
    exact op_sub pins s σ H _ _ v u Q I rx ry ⟨_, _, rfl, rfl, k.here R (.int _)⟩
  · split at e
    · rename_i hm
      cases ra; cases rb; cases e
      exact opI (C := fun i j => mulOk i j = true) (g := fun i j => i * j) (fun _ _ _ _ _ _ _ hc q => mul_int q (mulOk_ok hc)) pins s σ H _ _ v u Q I rx ry ⟨_, _, rfl, rfl, hm, k.here R (.int _)⟩
    · cases e
  · split at e
    · rename_i hm
      cases ra; cases rb; cases e
      unfold divOk at hm
      obtain ⟨h1, h2⟩ := Bool.and_eq_true_iff.mp hm
      exact op_fdivW pins s σ H _ _ v u Q I rx ry ⟨_, _, rfl, rfl, ⟨of_decide_eq_true h1, of_decide_eq_true h2⟩, k.here R (.int _)⟩
    · cases e
  · split at e
    · rename_i hm
      cases ra; cases rb; cases e
      exact op_mod pins s σ H _ _ v u Q I rx ry ⟨_, _, rfl, rfl, hm, k.here R (.int _)⟩
    · cases e
  · split at e
    · rename_i hm
      cases ra; cases rb; cases e
      exact op_powG pins s σ H _ _ v u Q I rx ry ⟨_, _, rfl, rfl, hm, k.here R (.int _)⟩
    · cases e
  · split at e
    · rename_i hm
      cases ra; cases rb; cases e
      exact op_add_str pins s σ H _ _ v u Q I rx ry ⟨_, _, rfl, rfl, by rw [ss_length, ss_length]; exact lenOk_line hm, by rw [ss_append]; exact k.here R (.str _)⟩
    · cases e
  · split at e
    · rename_i hm
      cases e
      obtain ⟨p, vs, rfl, hp, r1⟩ := tup_sq ra
      obtain ⟨q, ws, rfl, hq, r2⟩ := tup_sq rb
      refine op_catA pins s σ H _ _ v u Q I rx ry ⟨p, q, vs, ws, rfl, rfl, by rw [hK]; exact hp, by rw [hK]; exact hq, by rw [← r1.length, ← r2.length]; exact lenOk_line hm, fun z => ?_, fun z1 z2 => ?_, fun _ _ p' hp' => k.tup R (r1.append r2) hp'⟩
      · subst z
        cases r1
        exact k.here R rb
      · subst z2
        cases r2
        exact k.here R (by rw [List.append_nil]; exact ra)
    · cases e
  · split at e
    · rename_i xs ys hx hy
      split at e
      · rename_i hm
        cases e
        obtain ⟨p, vs, rfl, hp, r1⟩ := lstOf_rep R ra hx
        obtain ⟨q, ws, rfl, hq, r2⟩ := lstOf_rep R rb hy
        exact op_cat pins s σ H _ _ v u Q I rx ry ⟨p, q, vs, ws, rfl, rfl, hp, hq, by rw [← r1.length, ← r2.length]; exact lenOk_line hm, fun p' hp' => k.lst R (r1.append r2) hp'⟩
      · cases e
    · cases e
  · split at e
    · rename_i xs hx
      split at e
      · rename_i hm
        cases e
        obtain ⟨p, vs, rfl, hp, r1⟩ := lstOf_rep R ra hx
        cases rb
        exact op_rep pins s σ H _ _ v u Q I rx ry ⟨p, _, vs, rfl, rfl, hp, by omega, by omega, by rw [← r1.length]; exact lenOk_line hm.2, fun p' hp' => k.lst R (r1.flatRep _) hp'⟩
      · cases e
    · cases e
  · cases e
end

/-! ### == -/
theorem eqvL_spec (f : CV → CV → Option Bool) : ∀ (xs ys : List CV) (r : Bool), eqv.eqvL f xs ys = some r →
    (∀ (j : Nat) (x y : CV), xs[j]? = some x → ys[j]? = some y → ∃ b, f x y = some b) ∧
    r = ((List.range (min xs.length ys.length)).all (fun j => match xs[j]?, ys[j]? with
      | some x, some y => (f x y).getD false
      | _, _ => false) && xs.length == ys.length)
  | [], [], r, e => by cases e; exact ⟨fun j x y h => by simp at h, by simp⟩
  | [], _ :: _, r, e => by cases e; exact ⟨fun j x y h => by simp at h, by simp⟩
  | _ :: _, [], r, e => by cases e; exact ⟨fun j x y _ h => by simp at h, by simp⟩
  | x :: xs, y :: ys, r, e => by
    unfold eqv.eqvL at e
    cases h1 : f x y with
    | none => rw [h1] at e; cases e
    | some b =>
      rw [h1] at e
      obtain ⟨c, e1, e2⟩ := Option.map_eq_some_iff.mp (show (eqv.eqvL f xs ys).map (fun c => b && c) = some r from e)
      obtain ⟨i1, i2⟩ := eqvL_spec f xs ys c e1
      refine ⟨fun j => ?_, ?_⟩
      · cases j with
        | zero => intro x' y' a1 a2; simp at a1 a2; subst a1 a2; exact ⟨b, h1⟩
        | succ j => intro x' y' a1 a2; exact i1 j x' y' (by simpa using a1) (by simpa using a2)
      · rw [← e2, i2]
        rw [show min (x :: xs).length (y :: ys).length = min xs.length ys.length + 1 by simp only [List.length_cons]; omega, List.range_succ_eq_map, List.all_cons, List.all_map]
        simp only [List.getElem?_cons_zero, h1, Option.getD_some, List.length_cons, Bool.and_assoc]
        congr 2
        simp
section
variable {X : Cx} {G : Wd} {pins : List (Addr × Obj)} {σ : L2.St} {H : Hp} {s : Shared} {κ : Addr → Prop} {ρ : List Addr} {st : Sto}
/-- the same thing is equal -/
theorem eqv_same (hK : X.K = G.K) (I : Inv X pins σ H s) (R : HRel G κ ρ st H) : ∀ (n : Nat) (a b : CV) (r : Bool) (x : V), eqv n a b = some r → RepV G ρ (Live κ ρ st) H a x → RepV G ρ (Live κ ρ st) H b x → r = true
  | 0, _, _, _, _, e, _, _ => by cases e
  | n + 1, a, b, r, x, e, ra, rb => by
    have lists : ∀ (xs ys : List CV) (vs : List V) (r : Bool), eqv.eqvL (eqv n) xs ys = some r → RepVs G ρ (Live κ ρ st) H xs vs → RepVs G ρ (Live κ ρ st) H ys vs → r = true := by
      intro xs
      induction xs with
      | nil => intro ys vs r e r1 r2; cases r1; cases r2; cases e; rfl
      | cons x xs ih =>
        intro ys vs r e r1 r2
        cases r1 with
        | cons h1 r1 =>
          cases r2 with
          | cons h2 r2 =>
            unfold eqv.eqvL at e
            cases h3 : eqv n x _ with
            | none => rw [h3] at e; cases e
            | some c =>
              rw [h3] at e
              obtain ⟨d, e1, e2⟩ := Option.map_eq_some_iff.mp e
              rw [← e2, ih _ _ _ e1 r1 r2, eqv_same hK I R n _ _ _ _ h3 h1 h2]
              rfl
    have sq : ∀ {p : Addr} {vs ws : List V}, SqT G.K H p vs → SqT G.K H p ws → vs = ws := fun {p vs ws} h1 h2 => I.tuple_inj (by rw [hK]; exact h1) (by rw [hK]; exact h2)
    have tl : ∀ {p : Addr} {vs ws : List V}, SqT G.K H p vs → H p = some (.lst ws) → False := fun {p vs ws} h1 h2 => by
      obtain ⟨its, _, ⟨o, e1, c1, _⟩, _⟩ := I.tuple (show SqT X.K H p vs by rw [hK]; exact h1)
      obtain ⟨its2, _, pl, _⟩ := I.list (SqL.of h2)
      obtain ⟨o2, e2, c2, _⟩ := pl.isList
      rw [e1] at e2
      cases e2
      rw [c1] at c2
      injection c2 with z
      exact absurd z (by decide)
    cases ra with
    | non => cases rb; cases e; rfl
    | bl c => cases rb; unfold eqv at e; cases e; simp
    | int c => cases rb; unfold eqv at e; cases e; simp
    | str c =>
      cases hb : b with
      | str d =>
        rw [hb] at rb e
        generalize hz : V.str (SS c) = z at rb
        cases rb with
        | str =>
          have : c = d := by
            have z1 := V.str.inj hz
            have z2 := congrArg (fun t : Str => t.cps.toList) z1
            simpa using z2
          subst this
          unfold eqv at e
          cases e
          simp
      | _ => rw [hb] at rb; cases rb
    | tup h nl r1 =>
      cases rb with
      | tup h2 n2 r2 =>
        have := sq (SqT.of h) (SqT.of h2); subst this
        exact lists _ _ _ _ e r1 r2
      | lst h2 n2 r2 => exact (tl (SqT.of h) h2).elim
      | _ => cases e
    | lst h nl r1 =>
      cases rb with
      | lst h2 n2 r2 =>
        rw [h] at h2
        cases h2
        exact lists _ _ _ _ e r1 r2
      | tup h2 n2 r2 => exact (tl (SqT.of h2) h).elim
      | _ => cases e
    | dicK h nl r1 => unfold eqv at e; cases b <;> cases e
    | dicT h nl r1 => unfold eqv at e; cases b <;> cases e
    | rcd h nl r1 => unfold eqv at e; cases b <;> cases e
    | loc h => unfold eqv at e; cases b <;> cases e
    | scr h nl => unfold eqv at e; cases b <;> cases e
    | scrK h => unfold eqv at e; cases b <;> cases e
    | kt h => unfold eqv at e; cases b <;> cases e
/-- == at any depth -/
theorem eqv_at (hK : X.K = G.K) (I : Inv X pins σ H s) (R : HRel G κ ρ st H) : ∀ (n : Nat) (A : Around) (a b : CV) (r : Bool) (x y : V) (v u : Value), eqv n a b = some r → RepV G ρ (Live κ ρ st) H a x → RepV G ρ (Live κ ρ st) H b y →
    RelV x v → RelV y u → A.units + n < cLine → SeqAt.EqAt A s v u r ∧ SeqAt.RcAt A s v u r ∧ SeqAt.RcNeAt A s v u (!r)
  | 0, _, _, _, _, _, _, _, _, e, _, _, _, _, _ => by cases e
  | n + 1, A, a, b, r, x, y, v, u, e, ra, rb, rx, ry, hu => by
    have hu0 : A.units < cLine := by omega
    have tupI : ∀ {xs : List CV} {x : V} {v : Value}, RepV G ρ (Live κ ρ st) H (.tup xs) x → RelV x v → ∃ p vs its, v = .ref p ∧ RepVs G ρ (Live κ ρ st) H xs vs ∧ Vals vs its ∧ IsTup s.heap p its.toArray := fun {xs x v} r q => by
      obtain ⟨p, vs, rfl, hp, r1⟩ := tup_sq r
      cases q
      obtain ⟨its, rv, ht, _⟩ := I.tuple (show SqT X.K H p vs by rw [hK]; exact hp)
      exact ⟨p, vs, its, rfl, r1, rv, ht⟩
    have lstI : ∀ {xs : List CV} {x : V} {v : Value}, RepV G ρ (Live κ ρ st) H (.lst xs) x → RelV x v → ∃ p vs its, v = .ref p ∧ RepVs G ρ (Live κ ρ st) H xs vs ∧ Vals vs its ∧ s.heap.IsList p its.toArray := fun {xs x v} r q => by
      cases r with
      | lst h nl r1 =>
        cases q
        obtain ⟨its, rv, ht, _⟩ := I.list (SqL.of h)
        exact ⟨_, _, its, rfl, r1, rv, ht.isList⟩
    have items : ∀ (xs ys : List CV) (vs ws : List V) (is js : List Value) (r : Bool), eqv.eqvL (eqv n) xs ys = some r → RepVs G ρ (Live κ ρ st) H xs vs → RepVs G ρ (Live κ ρ st) H ys ws → Vals vs is → Vals ws js →
        ∀ j (h1 : j < is.toArray.size) (h2 : j < js.toArray.size), SeqAt.EqAt A.in1 s is.toArray[j] js.toArray[j] (match xs[j]?, ys[j]? with
          | some x, some y => (eqv n x y).getD false
          | _, _ => false) := fun xs ys vs ws is js r e r1 r2 v1 v2 j h1 h2 => by
      have l1 := r1.length
      have l2 := r2.length
      have l3 := v1.length
      have l4 := v2.length
      have k1 : j < xs.length := by simp at h1; omega
      have k2 : j < ys.length := by simp at h2; omega
      obtain ⟨w1, g1, q1⟩ := r1.get (List.getElem?_eq_getElem k1)
      obtain ⟨w2, g2, q2⟩ := r2.get (List.getElem?_eq_getElem k2)
      obtain ⟨z1, g3, q3⟩ := v1.get g1
      obtain ⟨z2, g4, q4⟩ := v2.get g2
      obtain ⟨b, hb⟩ := (eqvL_spec (eqv n) xs ys r e).1 j _ _ (List.getElem?_eq_getElem k1) (List.getElem?_eq_getElem k2)
      rw [List.getElem?_eq_getElem k1, List.getElem?_eq_getElem k2]
      simp only [hb, Option.getD_some]
      have e3 : is.toArray[j] = z1 := by
        have := (List.getElem?_eq_some_iff.mp g3).2
        simpa using this
      have e4 : js.toArray[j] = z2 := by
        have := (List.getElem?_eq_some_iff.mp g4).2
        simpa using this
      rw [e3, e4]
      exact (eqv_at hK I R n A.in1 _ _ _ _ _ _ _ hb q1 q2 q3 q4 (by show A.units + 1 + n < cLine; omega)).1
    have tups : ∀ {p q : Addr} {xs ys : List CV} {vs ws : List V} {is js : List Value} {r : Bool}, eqv.eqvL (eqv n) xs ys = some r → RepVs G ρ (Live κ ρ st) H xs vs → RepVs G ρ (Live κ ρ st) H ys ws → Vals vs is → Vals ws js →
        IsTup s.heap p is.toArray → IsTup s.heap q js.toArray → SeqAt.RcAt A s (.ref p) (.ref q) r ∧ SeqAt.RcNeAt A s (.ref p) (.ref q) (!r) := fun {p q xs ys vs ws is js r} e r1 r2 v1 v2 t1 t2 => by
      have hr := (eqvL_spec (eqv n) xs ys r e).2
      have l1 : is.toArray.size = xs.length := by rw [r1.length, v1.length]; simp
      have l2 : js.toArray.size = ys.length := by rw [r2.length, v2.length]; simp
      rw [hr, ← l1, ← l2]
      exact ⟨SeqAt.RcAt.tuples t1 t2 hu0 (items xs ys vs ws is js r e r1 r2 v1 v2), SeqAt.RcNeAt.tuples t1 t2 hu0 (items xs ys vs ws is js r e r1 r2 v1 v2)⟩
    have lsts : ∀ {p q : Addr} {xs ys : List CV} {vs ws : List V} {is js : List Value} {r : Bool}, eqv.eqvL (eqv n) xs ys = some r → RepVs G ρ (Live κ ρ st) H xs vs → RepVs G ρ (Live κ ρ st) H ys ws → Vals vs is → Vals ws js →
        s.heap.IsList p is.toArray → s.heap.IsList q js.toArray → SeqAt.RcAt A s (.ref p) (.ref q) r ∧ SeqAt.RcNeAt A s (.ref p) (.ref q) (!r) := fun {p q xs ys vs ws is js r} e r1 r2 v1 v2 t1 t2 => by
      have hr := (eqvL_spec (eqv n) xs ys r e).2
      have l1 : is.toArray.size = xs.length := by rw [r1.length, v1.length]; simp
      have l2 : js.toArray.size = ys.length := by rw [r2.length, v2.length]; simp
      by_cases hsz : is.toArray.size = js.toArray.size
      · have h3 : xs.length = ys.length := by omega
        rw [hr, show (xs.length == ys.length) = true by simpa using h3, Bool.and_true, ← h3, Nat.min_self, ← l1]
        exact ⟨SeqAt.RcAt.lists t1 t2 hsz hu0 (items xs ys vs ws is js r e r1 r2 v1 v2), SeqAt.RcNeAt.lists t1 t2 hsz hu0 (items xs ys vs ws is js r e r1 r2 v1 v2)⟩
      · have h3 : ¬ xs.length = ys.length := by omega
        rw [hr, show (xs.length == ys.length) = false by simpa using h3, Bool.and_false]
        exact ⟨SeqAt.RcAt.lists_lengths t1 t2 (by simpa using hsz) hu0, SeqAt.RcNeAt.lists_lengths t1 t2 (by simpa using hsz) hu0⟩
    cases a with
    | non =>
      cases ra; cases rx
      cases b with
      | non => cases rb; cases ry; cases e; exact ⟨.same _, .none_none, .none_none⟩
      | bl c => cases rb; cases ry; cases e; exact ⟨.none_bool c, .none_bool c, .none_bool c⟩
      | int c => cases rb; obtain ⟨t, rfl⟩ := ry; cases e; exact ⟨.none_int c t, .none_int c t, .none_int c t⟩
      | str c => cases rb; obtain ⟨t, rfl⟩ := ry; cases e; exact ⟨.none_str _ t, .none_str _ t, .none_str _ t⟩
      | tup ys => obtain ⟨q, ws, js, rfl, r2, v2, t2⟩ := tupI rb ry; cases e; exact ⟨.none_tuple t2 hu0, .none_tuple t2 hu0, .none_tuple t2 hu0⟩
      | lst ys => obtain ⟨q, ws, js, rfl, r2, v2, t2⟩ := lstI rb ry; cases e; exact ⟨.none_list t2 hu0, .none_list t2 hu0, .none_list t2 hu0⟩
      | _ => cases e
    | bl d =>
      cases ra; cases rx
      cases b with
      | non => cases rb; cases ry; cases e; exact ⟨.bool_none d, .bool_none d, .bool_none d⟩
      | bl c => cases rb; cases ry; cases e; exact ⟨.bool_bool d c, .bool_bool d c, .bool_bool d c⟩
      | int c => cases rb; obtain ⟨t, rfl⟩ := ry; cases e; exact ⟨.bool_int d c t, .bool_int d c t, .bool_int d c t⟩
      | str c => cases rb; obtain ⟨t, rfl⟩ := ry; cases e; exact ⟨.bool_str d _ t, .bool_str d _ t, .bool_str d _ t⟩
      | tup ys => obtain ⟨q, ws, js, rfl, r2, v2, t2⟩ := tupI rb ry; cases e; exact ⟨.bool_tuple d t2 hu0, .bool_tuple d t2 hu0, .bool_tuple d t2 hu0⟩
      | lst ys => obtain ⟨q, ws, js, rfl, r2, v2, t2⟩ := lstI rb ry; cases e; exact ⟨.bool_list d t2 hu0, .bool_list d t2 hu0, .bool_list d t2 hu0⟩
      | _ => cases e
    | int d =>
      cases ra; obtain ⟨t0, rfl⟩ := rx
      cases b with
      | non => cases rb; cases ry; cases e; exact ⟨.int_none d t0, .int_none d t0, .int_none d t0⟩
      | bl c => cases rb; cases ry; cases e; exact ⟨.int_bool d t0 c, .int_bool d t0 c, .int_bool d t0 c⟩
      | int c => cases rb; obtain ⟨t, rfl⟩ := ry; cases e; exact ⟨.int_int d t0 c t, .int_int d t0 c t, .int_int d t0 c t⟩
      | str c => cases rb; obtain ⟨t, rfl⟩ := ry; cases e; exact ⟨.int_str d t0 _ t, .int_str d t0 _ t, .int_str d t0 _ t⟩
      | tup ys => obtain ⟨q, ws, js, rfl, r2, v2, t2⟩ := tupI rb ry; cases e; exact ⟨.int_tuple d t0 t2 hu0, .int_tuple d t0 t2 hu0, .int_tuple d t0 t2 hu0⟩
      | lst ys => obtain ⟨q, ws, js, rfl, r2, v2, t2⟩ := lstI rb ry; cases e; exact ⟨.int_list d t0 t2 hu0, .int_list d t0 t2 hu0, .int_list d t0 t2 hu0⟩
      | _ => cases e
    | str d =>
      cases ra; obtain ⟨t0, rfl⟩ := rx
      cases b with
      | non => cases rb; cases ry; cases e; exact ⟨.str_none _ t0, .str_none _ t0, .str_none _ t0⟩
      | bl c => cases rb; cases ry; cases e; exact ⟨.str_bool _ t0 c, .str_bool _ t0 c, .str_bool _ t0 c⟩
      | int c => cases rb; obtain ⟨t, rfl⟩ := ry; cases e; exact ⟨.str_int _ t0 c t, .str_int _ t0 c t, .str_int _ t0 c t⟩
      | str c =>
        cases rb; obtain ⟨t, rfl⟩ := ry; cases e
        have q : ((SS d) == (SS c)) = (d == c) := by
          by_cases h : d = c
          · subst h; simp
          · have h2 : SS d ≠ SS c := fun z => h (by
              have z2 := congrArg (fun t : Str => t.cps.toList) z
              simpa using z2)
            rw [beq_eq_false_iff_ne.mpr h2, beq_eq_false_iff_ne.mpr h]
        rw [← q]
        exact ⟨.str_str _ t0 _ t, .str_str _ t0 _ t, .str_str _ t0 _ t⟩
      | tup ys => obtain ⟨q, ws, js, rfl, r2, v2, t2⟩ := tupI rb ry; cases e; exact ⟨.str_tuple _ t0 t2 hu0, .str_tuple _ t0 t2 hu0, .str_tuple _ t0 t2 hu0⟩
      | lst ys => obtain ⟨q, ws, js, rfl, r2, v2, t2⟩ := lstI rb ry; cases e; exact ⟨.str_list _ t0 t2 hu0, .str_list _ t0 t2 hu0, .str_list _ t0 t2 hu0⟩
      | _ => cases e
    | tup xs =>
      obtain ⟨p, vs, is, rfl, r1, v1, t1⟩ := tupI ra rx
      cases b with
      | non => cases rb; cases ry; cases e; exact ⟨.tuple_none t1 hu0, .tuple_none t1 hu0, .tuple_none t1 hu0⟩
      | bl c => cases rb; cases ry; cases e; exact ⟨.tuple_bool c t1 hu0, .tuple_bool c t1 hu0, .tuple_bool c t1 hu0⟩
      | int c => cases rb; obtain ⟨t, rfl⟩ := ry; cases e; exact ⟨.tuple_int c t t1 hu0, .tuple_int c t t1 hu0, .tuple_int c t t1 hu0⟩
      | str c => cases rb; obtain ⟨t, rfl⟩ := ry; cases e; exact ⟨.tuple_str _ t t1 hu0, .tuple_str _ t t1 hu0, .tuple_str _ t t1 hu0⟩
      | tup ys =>
        obtain ⟨q, ws, js, rfl, r2, v2, t2⟩ := tupI rb ry
        have rc := tups e r1 r2 v1 v2 t1 t2
        refine ⟨?_, rc⟩
        by_cases hpq : p = q
        · subst hpq
          have hx : x = y := by
            have q1 := rx.abs
            have q2 := ry.abs
            exact Option.some.inj (q1.symm.trans q2)
          subst hx
          rw [eqv_same hK I R (n + 1) _ _ _ _ e ra rb]
          exact .same _
        · exact .of_refs hpq rc.1
      | lst ys => obtain ⟨q, ws, js, rfl, r2, v2, t2⟩ := lstI rb ry; cases e; exact ⟨.tuple_list t1 t2 hu0, .tuple_list t1 t2 hu0, .tuple_list t1 t2 hu0⟩
      | _ => cases e
    | lst xs =>
      obtain ⟨p, vs, is, rfl, r1, v1, t1⟩ := lstI ra rx
      cases b with
      | non => cases rb; cases ry; cases e; exact ⟨.list_none t1 hu0, .list_none t1 hu0, .list_none t1 hu0⟩
      | bl c => cases rb; cases ry; cases e; exact ⟨.list_bool c t1 hu0, .list_bool c t1 hu0, .list_bool c t1 hu0⟩
      | int c => cases rb; obtain ⟨t, rfl⟩ := ry; cases e; exact ⟨.list_int c t t1 hu0, .list_int c t t1 hu0, .list_int c t t1 hu0⟩
      | str c => cases rb; obtain ⟨t, rfl⟩ := ry; cases e; exact ⟨.list_str _ t t1 hu0, .list_str _ t t1 hu0, .list_str _ t t1 hu0⟩
      | lst ys =>
        obtain ⟨q, ws, js, rfl, r2, v2, t2⟩ := lstI rb ry
        have rc := lsts e r1 r2 v1 v2 t1 t2
        refine ⟨?_, rc⟩
        by_cases hpq : p = q
        · subst hpq
          have hx : x = y := by
            have q1 := rx.abs
            have q2 := ry.abs
            exact Option.some.inj (q1.symm.trans q2)
          subst hx
          rw [eqv_same hK I R (n + 1) _ _ _ _ e ra rb]
          exact .same _
        · exact .of_refs hpq rc.1
      | tup ys => obtain ⟨q, ws, js, rfl, r2, v2, t2⟩ := tupI rb ry; cases e; exact ⟨.list_tuple t1 t2 hu0, .list_tuple t1 t2 hu0, .list_tuple t1 t2 hu0⟩
      | _ => cases e
    | _ => cases e
end
end MP
end MPd_text

section MPe_text
set_option Elab.async false
set_option linter.all false
set_option maxRecDepth 100000
/-! Comparisons, items, slices, built-in functions and methods. -/
namespace MP
open PySem PySem.Spec PyProof.Rows L2

def Cop.op : Cop → CmpOp
  | .eq => .Eq | .ne => .NotEq | .lt => .Lt | .le => .LtE | .gt => .Gt | .ge => .GtE | .inn => .In | .notin => .NotIn
section
variable {G : Wd} {κ : Addr → Prop} {ρ : List Addr} {st st2 : Sto} {H : Hp}
/-- read as a value, where its place is out of reach -/
theorem deref_rep (R : HRel G κ ρ st H) (e : Ext κ ρ st H ρ st2 H) {a : CV} {x : V} (r : RepV G ρ (Live κ ρ st) H a x) (n : ∀ l p, a = .loc l → ρ[l]? = some p → ¬ LiveP ρ st2 p) : RepV G ρ (Live κ ρ st2) H (deref st a) x := by
  cases r with
  | @loc l p h =>
    have hk : ∀ o, st[l]? = some o → o.live = true → ¬ Live κ ρ st2 p := fun o h1 h2 q => by
      rcases q with q | q
      · exact (R.hid p q).2 ⟨l, o, h, h1, h2⟩
      · exact n l p rfl h q
    unfold deref
    dsimp only
    split
    · rename_i xs hl
      obtain ⟨vs, e1, r⟩ := R.obj l p _ h hl
      exact .lst e1 (hk _ hl rfl) (r.ext e)
    · rename_i t kvs hl
      cases t with
      | false =>
        obtain ⟨vs, e1, r⟩ := R.obj l p _ h hl
        exact .dicK e1 (hk _ hl rfl) (r.ext e)
      | true =>
        obtain ⟨vs, e1, r⟩ := R.obj l p _ h hl
        exact .dicT e1 (hk _ hl rfl) (r.ext e)
    · exact .loc h
  | tup h n1 r => exact RepV.ext e (.tup h n1 r)
  | lst h n1 r => exact RepV.ext e (.lst h n1 r)
  | dicK h n1 r => exact RepV.ext e (.dicK h n1 r)
  | dicT h n1 r => exact RepV.ext e (.dicT h n1 r)
  | rcd h n1 r => exact RepV.ext e (.rcd h n1 r)
  | scr h n1 => exact RepV.ext e (.scr h n1)
  | scrK h => exact .scrK h
  | kt h => exact .kt h
  | non => exact .non
  | bl b => exact .bl b
  | int b => exact .int b
  | str b => exact .str b
def hide (st : Sto) : CV → Sto
  | .loc l => st.set l .gone
  | _ => st
theorem hide_rel (R : HRel G κ ρ st H) (a : CV) : HRel G κ ρ (hide st a) H := by
  cases a with
  | loc l => exact rel_gone R
  | _ => exact R
theorem hide_ext (a : CV) : Ext κ ρ st H ρ (hide st a) H := by
  cases a with
  | loc l => exact ext_gone
  | _ => exact .refl
theorem live_hide {p : Addr} (a : CV) (h : LiveP ρ (hide st a) p) : LiveP ρ st p := by
  cases a with
  | loc l => exact live_gone p h
  | _ => exact h
/-- two values read, one beside the other -/
theorem deref_two (R : HRel G κ ρ st H) {a b : CV} {x y : V} (ra : RepV G ρ (Live κ ρ st) H a x) (rb : RepV G ρ (Live κ ρ st) H b y) :
    ∃ st2, HRel G κ ρ st2 H ∧ RepV G ρ (Live κ ρ st2) H (deref st a) x ∧ RepV G ρ (Live κ ρ st2) H (deref st b) y := by
  refine ⟨hide (hide st a) b, hide_rel (hide_rel R a) b, ?_, ?_⟩
  · refine deref_rep R ((hide_ext a).trans (hide_ext b)) ra fun l p e hp q => ?_
    subst e
    exact not_live_gone R hp (live_hide b q)
  · refine deref_rep R ((hide_ext a).trans (hide_ext b)) rb fun l p e hp q => ?_
    subst e
    exact not_live_gone (hide_rel R a) hp q
theorem flat_rep {a : CV} {x : V} {L : Addr → Prop} (r : RepV G ρ L H a x) (f : flat a = true) : flatV x = true := by
  cases r <;> first | rfl | cases f
theorem flat_eq {a b : CV} {x y : V} {L : Addr → Prop} (ra : RepV G ρ L H a x) (rb : RepV G ρ L H b y) (fa : flat a = true) (fb : flat b = true) : eqV x y = (eqv 1 a b).getD false := by
  have hs : ∀ d c : List Nat, ((SS d) == (SS c)) = (d == c) := fun d c => by
    by_cases h : d = c
    · subst h; simp
    · have h2 : SS d ≠ SS c := fun z => h (by
        have z2 := congrArg (fun t : Str => t.cps.toList) z
        simpa using z2)
      rw [beq_eq_false_iff_ne.mpr h2, beq_eq_false_iff_ne.mpr h]
  cases ra <;> first | cases fa | skip
  all_goals cases rb <;> first | cases fb | skip
  all_goals first | rfl | exact hs _ _
theorem RepVs.flatAll : ∀ {xs : List CV} {vs : List V} {L : Addr → Prop}, RepVs G ρ L H xs vs → xs.all flat = true → vs.all flatV = true
  | _, _, _, .nil, _ => rfl
  | _, _, _, .cons h r, f => by
    rw [List.all_cons] at f ⊢
    obtain ⟨f1, f2⟩ := Bool.and_eq_true_iff.mp f
    rw [flat_rep h f1, r.flatAll f2]
    rfl
theorem RepVs.inV {a : CV} {x : V} {L : Addr → Prop} (ra : RepV G ρ L H a x) (fa : flat a = true) : ∀ {xs : List CV} {vs : List V}, RepVs G ρ L H xs vs → xs.all flat = true → inV x vs = xs.any fun y => (eqv 1 y a).getD false
  | _, _, .nil, _ => rfl
  | _, _, .cons h r, f => by
    rw [List.all_cons] at f
    obtain ⟨f1, f2⟩ := Bool.and_eq_true_iff.mp f
    unfold L2.inV
    rw [List.any_cons, List.any_cons, flat_eq h ra f1 fa]
    have ih := RepVs.inV ra fa r f2
    unfold L2.inV at ih
    rw [ih]
/-- a key of the first kind -/
theorem key_k {k : CV} {x : V} {L : Addr → Prop} (r : RepV G ρ L H k x) (ok : okKey false k = true) : ∃ y, RepK k y ∧ x = kV y := by
  cases r with
  | int i => exact ⟨_, .int i, rfl⟩
  | str s => exact ⟨_, .str s, rfl⟩
  | tup h n r =>
    unfold okKey keyOf at ok
    dsimp only at ok
    rename_i xs _ _
    cases h1 : intsOf xs with
    | none => rw [h1] at ok; cases ok
    | some ns => rw [h1] at ok; cases ok
  | _ => cases ok
theorem key_t {k : CV} {x : V} {L : Addr → Prop} (r : RepV G ρ L H k x) (ok : okKey true k = true) : ∃ (b : Addr) (ns : List Int), k = .tup (ns.map CV.int) ∧ x = .ref b ∧ H b = some (.tup ((ns.map Sum.inl : List Key).map kV)) := by
  cases r with
  | tup h n r =>
    unfold okKey keyOf at ok
    dsimp only at ok
    rename_i xs vs b
    cases h1 : intsOf xs with
    | none => rw [h1] at ok; cases ok
    | some ns =>
      have h2 := r.ints h1
      have h3 : xs = ns.map CV.int := by
        clear h2 ok r h
        induction xs generalizing ns with
        | nil => cases h1; rfl
        | cons x xs ih =>
          cases x with
          | int i =>
            unfold intsOf at h1
            obtain ⟨ms, e1, rfl⟩ := Option.map_eq_some_iff.mp h1
            rw [ih ms e1]
            rfl
          | _ => cases h1
      refine ⟨b, ns, by rw [h3], rfl, ?_⟩
      rw [h, h2]
      simp [Function.comp_def, kV]
  | int i => cases ok
  | str s => cases ok
  | _ => cases ok
theorem ss_inj {x y : List Nat} (h : SS x = SS y) : x = y := by
  have z2 := congrArg (fun t : Str => t.cps.toList) h
  simpa using z2
theorem repk_key {k k2 : CV} {y y2 : Key} (a : RepK k y) (b : RepK k2 y2) : keyOf k = keyOf k2 ↔ y = y2 := by
  cases a <;> cases b
  · simp [keyOf]
  · simp [keyOf]
  · simp [keyOf]
  · simp only [keyOf, Option.some.injEq, Ky.s.injEq, Sum.inr.injEq]
    constructor
    · intro h
      rw [h]
    · intro h
      exact ss_inj h
theorem ints_map (ns : List Int) : intsOf (ns.map CV.int) = some ns := by
  induction ns with
  | nil => rfl
  | cons n r ih => simp [intsOf, ih]
theorem rept_key {k k2 : CV} {y y2 : List Key} (a : RepT k y) (b : RepT k2 y2) : keyOf k = keyOf k2 ↔ y = y2 := by
  obtain ⟨ns, rfl, rfl⟩ := a
  obtain ⟨ms, rfl, rfl⟩ := b
  simp only [keyOf, ints_map, Option.map_some, Option.some.injEq, Ky.t.injEq]
  constructor
  · rintro rfl; rfl
  · intro h
    exact (List.map_inj_right (f := (Sum.inl : Int → Key)) (fun a b h => Sum.inl.inj h)).mp h
/-- a look into a dict -/
theorem RepDs.get {L : Addr → Prop} {k : CV} {y : Key} (hk : RepK k y) : ∀ {xs : List (CV × CV)} {vs : List (Key × V)}, RepDs G ρ L H xs vs → match valV vs y with
    | some v => ∃ x, dget xs ((keyOf k).getD (.i 0)) = some x ∧ RepV G ρ L H x v
    | none => dget xs ((keyOf k).getD (.i 0)) = none
  | _, _, .nil => rfl
  | _, _, .cons (k := k1) (y := y1) (x := x1) (v := v1) (xs := xs1) (vs := vs1) h1 h r => by
    have hs : ∃ z, keyOf k = some z := by cases hk <;> exact ⟨_, rfl⟩
    obtain ⟨z, hz⟩ := hs
    have ih := RepDs.get hk r
    rw [hz, Option.getD_some] at ih ⊢
    by_cases e : y1 = y
    · rw [valV_pos e]
      refine ⟨x1, ?_, h⟩
      unfold dget
      rw [if_pos]
      rw [← hz]
      exact (repk_key h1 hk).mpr e
    · rw [valV_neg e]
      have e2 : ¬ keyOf k1 = some z := fun q => e ((repk_key h1 hk).mp (q.trans hz.symm))
      have e3 : dget ((k1, x1) :: xs1) z = dget xs1 z := by
        show (if keyOf k1 = some z then some x1 else dget xs1 z) = _
        rw [if_neg e2]
      revert ih
      cases valV vs1 y with
      | none => intro ih; exact e3.trans ih
      | some v => rintro ⟨x, q1, q2⟩; exact ⟨x, e3.trans q1, q2⟩
theorem RepTs.get {L : Addr → Prop} {k : CV} {y : List Key} (hk : RepT k y) : ∀ {xs : List (CV × CV)} {vs : List (List Key × V)}, RepTs G ρ L H xs vs → match valV vs y with
    | some v => ∃ x, dget xs ((keyOf k).getD (.i 0)) = some x ∧ RepV G ρ L H x v
    | none => dget xs ((keyOf k).getD (.i 0)) = none
  | _, _, .nil => rfl
  | _, _, .cons (k := k1) (y := y1) (x := x1) (v := v1) (xs := xs1) (vs := vs1) h1 h r => by
    have hs : ∃ z, keyOf k = some z := by obtain ⟨ns, rfl, _⟩ := hk; exact ⟨_, by simp [keyOf, ints_map]; rfl⟩
    obtain ⟨z, hz⟩ := hs
    have ih := RepTs.get hk r
    rw [hz, Option.getD_some] at ih ⊢
    by_cases e : y1 = y
    · rw [valV_pos e]
      refine ⟨x1, ?_, h⟩
      unfold dget
      rw [if_pos]
      rw [← hz]
      exact (rept_key h1 hk).mpr e
    · rw [valV_neg e]
      have e2 : ¬ keyOf k1 = some z := fun q => e ((rept_key h1 hk).mp (q.trans hz.symm))
      have e3 : dget ((k1, x1) :: xs1) z = dget xs1 z := by
        show (if keyOf k1 = some z then some x1 else dget xs1 z) = _
        rw [if_neg e2]
      revert ih
      cases valV vs1 y with
      | none => intro ih; exact e3.trans ih
      | some v => rintro ⟨x, q1, q2⟩; exact ⟨x, e3.trans q1, q2⟩
theorem RepDs.length {L : Addr → Prop} : ∀ {xs : List (CV × CV)} {vs : List (Key × V)}, RepDs G ρ L H xs vs → xs.length = vs.length
  | _, _, .nil => rfl
  | _, _, .cons _ _ r => congrArg Nat.succ r.length
theorem RepTs.length {L : Addr → Prop} : ∀ {xs : List (CV × CV)} {vs : List (List Key × V)}, RepTs G ρ L H xs vs → xs.length = vs.length
  | _, _, .nil => rfl
  | _, _, .cons _ _ r => congrArg Nat.succ r.length
/-- DGet of the layer -/
theorem dict_get {L : Addr → Prop} {t : Bool} {kvs : List (CV × CV)} {p : Addr} {k : CV} {z : Ky} {x : V} (d : DRep G ρ L H t kvs p) (r : RepV G ρ L H k x) (ok : okKey t k = true) (hz : keyOf k = some z) :
    ∃ o, DGet H p x o ∧ match o with
      | some v => ∃ y, dget kvs z = some y ∧ RepV G ρ L H y v
      | none => dget kvs z = none := by
  cases t with
  | false =>
    obtain ⟨ws, e, rd⟩ := d
    obtain ⟨y, hk, rfl⟩ := key_k r ok
    have q := rd.get hk
    rw [hz, Option.getD_some] at q
    exact ⟨_, .inl ⟨ws, y, .inl e, rfl, rfl⟩, q⟩
  | true =>
    obtain ⟨ws, e, rd⟩ := d
    obtain ⟨b, ns, rfl, rfl, hb⟩ := key_t r ok
    have q := rd.get ⟨ns, rfl, rfl⟩
    rw [hz, Option.getD_some] at q
    exact ⟨_, .inr ⟨ws, _, b, .inl e, rfl, hb, rfl⟩, q⟩
/-- a store into a dict -/
theorem putK_nil {κ : Type} [DecidableEq κ] (k : κ) (v : V) : putK ([] : List (κ × V)) k v = [(k, v)] := rfl
theorem putK_cons {κ : Type} [DecidableEq κ] (a k : κ) (w v : V) (r : List (κ × V)) (nd : a ∉ r.map (·.1)) : putK ((a, w) :: r) k v = if a = k then (a, v) :: r else (a, w) :: putK r k v := by
  unfold putK
  by_cases h : a = k
  · subst h
    have hr : r.map (fun kv => if kv.1 = a then (kv.1, v) else kv) = r := by
      rw [List.map_congr_left (g := id) fun p hp => ?_, List.map_id]
      have : p.1 ≠ a := fun e => nd (e ▸ List.mem_map_of_mem hp)
      simp [this]
    simp [hr]
  · simp only [List.any_cons, List.map_cons]
    by_cases h2 : (r.any fun kv => decide (kv.1 = k)) = true
    · simp [h, h2]
    · simp [h, h2]
end
/-- comparisons -/
def rCmp (G : Wd) (o : Cop) : R2 := fun x y H Q => ∃ κ ρ st a b v, HRel G κ ρ st H ∧ RepV G ρ (Live κ ρ st) H a x ∧ RepV G ρ (Live κ ρ st) H b y ∧ cmpop st o a b = some v ∧ Q (.bl v) H
section
variable {X : Cx} {G : Wd}
theorem op_cmp_in (hK : X.K = G.K) (hu : X.A.units + 64 < cLine) (neg : Bool) : OpR X (compareOp (if neg then .NotIn else .In)) (fun x y H Q => ∃ κ ρ st a b v, HRel G κ ρ st H ∧ RepV G ρ (Live κ ρ st) H a x ∧ RepV G ρ (Live κ ρ st) H b y ∧ cmpop.inop st a b = some v ∧ Q (.bl (if neg then !v else v)) H) := by
  intro pins s σ H x y v u Q I rx ry h
  obtain ⟨κ, ρ, st, a, b, z, R, ra, rb, e, k⟩ := h
  unfold cmpop.inop at e
  split at e
  · rename_i c y
    cases ra; cases rb
    cases e
    have e1 : (SS y).cps.toList = y := by simp
    have e2 : y.contains c = decide (c ∈ y) := by simp
    rw [e2] at k
    cases neg with
    | false => exact op_in_sign pins s σ H _ _ v u Q I rx ry ⟨c, SS y, rfl, rfl, by rw [e1]; exact k⟩
    | true => exact op_notIn_sign pins s σ H _ _ v u Q I rx ry ⟨c, SS y, rfl, rfl, by rw [e1]; exact k⟩
  · split at e
    · rename_i xs hx
      obtain ⟨p, vs, rfl, hp, r1⟩ := seqOf_rep R rb hx
      unfold inSeq at e
      split at e
      · rename_i hf
        obtain ⟨f1, f2⟩ := Bool.and_eq_true_iff.mp hf
        cases e
        have q := RepVs.inV ra f1 r1 f2
        have hp2 : SqL X.K H p vs ∨ SqT X.K H p vs := by rw [hK]; exact hp
        cases neg with
        | false => exact op_in_seq pins s σ H _ _ v u Q I rx ry ⟨p, vs, rfl, hp2, flat_rep ra f1, r1.flatAll f2, by rw [q]; exact k⟩
        | true => exact op_notIn_seq pins s σ H _ _ v u Q I rx ry ⟨p, vs, rfl, hp2, flat_rep ra f1, r1.flatAll f2, by rw [q]; exact k⟩
      · cases e
    · split at e
      · rename_i t kvs key hd hk
        split at e
        · rename_i ok
          obtain ⟨p, rfl, d⟩ := dicOf_rep R rb hd
          obtain ⟨o, g, q⟩ := dict_get d ra ok hk
          cases e
          have q2 : o.isSome = (dget kvs key).isSome := by
            cases o with
            | none => rw [show dget kvs key = none from q]; rfl
            | some w => obtain ⟨y, e1, _⟩ := q; rw [show dget kvs key = some y from e1]; rfl
          obtain rfl : u = Value.ref p := ry
          cases neg with
          | false => exact d_in (by omega) I g rx fun s3 I3 => ⟨.bl o.isSome, H, I3, rfl, by rw [q2]; exact k⟩
          | true => exact d_notIn (by omega) I g rx fun s3 I3 => ⟨.bl (!o.isSome), H, I3, rfl, by rw [q2]; exact k⟩
        · cases e
      · cases e
theorem op_cmpC (hK : X.K = G.K) (hu : X.A.units + 64 < cLine) (o : Cop) : OpR X (compareOp o.op) (rCmp G o) := by
  intro pins s σ H x y v u Q I rx ry h
  obtain ⟨κ, ρ, st, a, b, z, R, ra, rb, e, k⟩ := h
  cases o with
  | eq =>
    obtain ⟨st2, R2, r1, r2⟩ := deref_two R ra rb
    exact (eqv_at hK I R2 60 X.A _ _ _ _ _ _ _ e r1 r2 rx ry (by omega)).2.1 X.prog X.w X.xe _ ⟨.bl z, H, I, rfl, k⟩
  | ne =>
    obtain ⟨st2, R2, r1, r2⟩ := deref_two R ra rb
    obtain ⟨z1, e1, e2⟩ := Option.map_eq_some_iff.mp (show (eqv 60 (deref st a) (deref st b)).map (fun x => !x) = some z from e)
    refine (eqv_at hK I R2 60 X.A _ _ _ _ _ _ _ e1 r1 r2 rx ry (by omega)).2.2 X.prog X.w X.xe _ ⟨.bl z, H, I, ?_, k⟩
    rw [← e2]
    rfl
  | lt =>
    unfold cmpop at e
    dsimp only at e
    split at e
    · cases ra; cases rb; cases e
      exact op_lt pins s σ H _ _ v u Q I rx ry ⟨_, _, rfl, rfl, k⟩
    · cases e
  | le =>
    unfold cmpop at e
    dsimp only at e
    split at e
    · cases ra; cases rb; cases e
      exact op_le pins s σ H _ _ v u Q I rx ry ⟨_, _, rfl, rfl, k⟩
    · cases e
  | gt =>
    unfold cmpop at e
    dsimp only at e
    split at e
    · cases ra; cases rb; cases e
      exact op_gt pins s σ H _ _ v u Q I rx ry ⟨_, _, rfl, rfl, k⟩
    · cases e
  | ge =>
    unfold cmpop at e
    dsimp only at e
    split at e
    · cases ra; cases rb; cases e
      exact op_ge pins s σ H _ _ v u Q I rx ry ⟨_, _, rfl, rfl, k⟩
    · cases e
  | inn => exact op_cmp_in hK hu false pins s σ H x y v u Q I rx ry ⟨κ, ρ, st, a, b, z, R, ra, rb, e, k⟩
  | notin =>
    obtain ⟨z1, e1, e2⟩ := Option.map_eq_some_iff.mp (show (cmpop.inop st a b).map (fun x => !x) = some z from e)
    exact op_cmp_in hK hu true pins s σ H x y v u Q I rx ry ⟨κ, ρ, st, a, b, z1, R, ra, rb, e1, by rw [if_pos rfl, e2]; exact k⟩
end
end MP
end MPe_text

section MPf_text
set_option Elab.async false
set_option linter.all false
set_option maxRecDepth 100000
/-! Items, slices, built-in functions and methods. -/
namespace MP
open PySem PySem.Spec PyProof.Rows L2
theorem ixOf_eq (n : Nat) (i : Int) : ixN n i = ixOf n i := rfl
section
variable {X : Cx} {G : Wd}
/-- o[i] -/
def rItem (G : Wd) : R2 := fun x y H Q => ∃ κ ρ st a b v, HRel G κ ρ st H ∧ RepV G ρ (Live κ ρ st) H a x ∧ RepV G ρ (Live κ ρ st) H b y ∧ item st a b = some v ∧ Post G κ ρ st H v st Q
theorem item_seq (hK : X.K = G.K) {κ : Addr → Prop} {ρ : List Addr} {st : Sto} {H : Hp} {a b v : CV} {x y : V} {xs : List CV} {Q : VK} (R : HRel G κ ρ st H) (ra : RepV G ρ (Live κ ρ st) H a x) (rb : RepV G ρ (Live κ ρ st) H b y) (hx : seqOf st a = some xs) (e : item st a b = some v)
    (k : Post G κ ρ st H v st Q) : rIx X.K x y H Q := by
  unfold item at e
  rw [hx] at e
  dsimp only at e
  split at e
  · rename_i i
    cases rb
    obtain ⟨j, e1, e2⟩ := Option.bind_eq_some_iff.mp e
    obtain ⟨p, vs, rfl, hp, r1⟩ := seqOf_rep R ra hx
    obtain ⟨w, e3, r2⟩ := r1.get e2
    have e4 : atI vs i = some w := by
      unfold atI
      rw [ixOf_eq, ← r1.length, e1]
      exact e3
    rcases hp with hp | hp
    · exact .inl ⟨p, vs, i, w, rfl, rfl, by rw [hK]; exact hp, e4, k _ ρ _ R .refl r2⟩
    · exact .inr (.inl ⟨p, vs, i, w, rfl, rfl, by rw [hK]; exact hp, e4, k _ ρ _ R .refl r2⟩)
  · cases e
theorem item_dict {κ : Addr → Prop} {ρ : List Addr} {st : Sto} {H : Hp} {a b v : CV} {x y : V} {Q : VK} (R : HRel G κ ρ st H) (ra : RepV G ρ (Live κ ρ st) H a x) (rb : RepV G ρ (Live κ ρ st) H b y) {t : Bool} {kvs : List (CV × CV)} {key : Ky} (hd : dicOf st a = some (t, kvs)) (hk : keyOf b = some key)
    (e : (if okKey t b then dget kvs key else none) = some v) (k : Post G κ ρ st H v st Q) : ∃ p w, x = .ref p ∧ DGet H p y (some w) ∧ Q w H := by
  split at e
  · rename_i ok
    obtain ⟨p, rfl, d⟩ := dicOf_rep R ra hd
    obtain ⟨o, g, q⟩ := dict_get d rb ok hk
    cases o with
    | none =>
      rw [show dget kvs key = none from q] at e
      cases e
    | some w =>
      obtain ⟨y2, e1, r⟩ := q
      rw [show dget kvs key = some y2 from e1] at e
      cases e
      exact ⟨p, w, rfl, g, k _ ρ _ R .refl r⟩
  · cases e
theorem ix_item (hK : X.K = G.K) (hu : X.A.units + 64 < cLine) : IxR X (rItem G) := by
  intro value slice pins s σ H x y v u Q I rx ry h hsub
  obtain ⟨κ, ρ, st, a, b, z, R, ra, rb, e, k⟩ := h
  have e0 := e
  unfold item at e
  split at e
  · rename_i xs hx
    exact ix_seq value slice pins s σ H x y v u Q I rx ry (item_seq hK R ra rb hx e0 k) hsub
  · split at e
    · rename_i zs i _
      split at e
      · rename_i hz
        cases ra
        cases rb
        obtain ⟨j, e1, e2⟩ := Option.bind_eq_some_iff.mp e
        obtain ⟨c, e3, e4⟩ := Option.map_eq_some_iff.mp e2
        refine ix_seq value slice pins s σ H _ _ v u Q I rx ry (.inr (.inr ⟨SS zs, i, c, rfl, rfl, by rw [ss_length]; exact lenOk_line hz, ?_, ?_⟩)) hsub
        · unfold atI
          have : (SS zs).cps.toList = zs := by simp
          rw [this, ixOf_eq, e1]
          exact e3
        · rw [← e4] at k
          exact k _ ρ _ R .refl (.str [c])
      · cases e
    · split at e
      · rename_i t kvs key hd hk
        obtain ⟨p, w, rfl, g, q⟩ := item_dict R ra rb hd hk e k
        obtain rfl : v = Value.ref p := rx
        exact tail_any (dict_typeIs I g) PySem.F.slot_dict_getitem.lookup (d_getItem (by omega) I g ry fun w' s3 I3 rw' => ⟨w, H, I3, rw', q⟩) hsub
      · cases e

/-- slices -/
def rSlice (G : Wd) (bx : Bool) : V → Option Int → Option Int → Hp → VK → Prop := fun x lo hi H Q => ∃ κ ρ st a v, HRel G κ ρ st H ∧ RepV G ρ (Live κ ρ st) H a x ∧ sliced st a lo hi = some v ∧ VP G bx κ ρ st H v Q
theorem sl_all {bx : Bool} (hK : X.K = G.K) : SlR X (rSlice G bx) := by
  intro pins s σ H x v vl vu lo hi sl Q I rx hs pl pu h
  obtain ⟨κ, ρ, st, a, z, R, ra, e, k⟩ := h
  unfold sliced at e
  split at e
  · split at e
    · rename_i hz
      cases ra
      cases e
      exact sl_str pins s σ H _ v vl vu lo hi sl Q I rx hs pl pu ⟨_, rfl, by rw [ss_length]; exact lenOk_line hz, by rw [cutS_eq]; exact k.here R (.str _)⟩
    · cases e
  · cases e
    rename_i xs
    have ra2 := ra
    obtain ⟨p, vs, rfl, hp, r1⟩ := tup_sq ra
    refine sl_tupA pins s σ H _ v vl vu lo hi sl Q I rx hs pl pu ⟨p, vs, rfl, by rw [hK]; exact hp, fun w => ?_, fun _ q hq => ?_⟩
    · refine k.here R ?_
      have e1 : cutL xs lo hi = xs := by
        rw [cutIx_eq, cutIx_eq, ← r1.length] at w
        unfold cutL
        rw [w.1, w.2]
        simp
      rw [e1]
      exact ra2
    · rw [cutV_eq]
      exact k.tup R (r1.cut lo hi) hq
  · obtain ⟨xs, hx, rfl⟩ := Option.map_eq_some_iff.mp e
    obtain ⟨p, vs, rfl, hp, r1⟩ := lstOf_rep R ra hx
    exact sl_list pins s σ H _ v vl vu lo hi sl Q I rx hs pl pu ⟨p, vs, rfl, SqL.of hp, fun q hq => by rw [cutV_eq]; exact k.lst R (r1.cut lo hi) hq⟩
end

/-! ### built-in functions -/
theorem maxL_spec : ∀ (r : List Int) (m : Int), maxL m r ∈ m :: r ∧ ∀ y, y ∈ m :: r → y ≤ maxL m r
  | [], m => ⟨by simp [maxL], fun y hy => by simp at hy; subst hy; exact Int.le_refl _⟩
  | x :: r, m => by
    unfold maxL
    obtain ⟨h1, h2⟩ := maxL_spec r (if x > m then x else m)
    by_cases hx : x > m
    · rw [if_pos hx] at h1 h2 ⊢
      refine ⟨List.mem_cons_of_mem _ h1, fun y hy => ?_⟩
      rcases List.mem_cons.mp hy with rfl | hy
      · exact Int.le_trans (Int.le_of_lt hx) (h2 x List.mem_cons_self)
      · exact h2 y hy
    · rw [if_neg hx] at h1 h2 ⊢
      refine ⟨?_, fun y hy => ?_⟩
      · rcases List.mem_cons.mp h1 with e | e
        · rw [e]; exact List.mem_cons_self
        · exact List.mem_cons_of_mem _ (List.mem_cons_of_mem _ e)
      · rcases List.mem_cons.mp hy with rfl | hy
        · exact h2 y List.mem_cons_self
        · rcases List.mem_cons.mp hy with rfl | hy
          · exact Int.le_trans (by omega) (h2 m List.mem_cons_self)
          · exact h2 y (List.mem_cons_of_mem _ hy)
theorem minL_spec : ∀ (r : List Int) (m : Int), minL m r ∈ m :: r ∧ ∀ y, y ∈ m :: r → minL m r ≤ y
  | [], m => ⟨by simp [minL], fun y hy => by simp at hy; subst hy; exact Int.le_refl _⟩
  | x :: r, m => by
    unfold minL
    obtain ⟨h1, h2⟩ := minL_spec r (if x < m then x else m)
    by_cases hx : x < m
    · rw [if_pos hx] at h1 h2 ⊢
      refine ⟨List.mem_cons_of_mem _ h1, fun y hy => ?_⟩
      rcases List.mem_cons.mp hy with rfl | hy
      · exact Int.le_trans (h2 x List.mem_cons_self) (Int.le_of_lt hx)
      · exact h2 y hy
    · rw [if_neg hx] at h1 h2 ⊢
      refine ⟨?_, fun y hy => ?_⟩
      · rcases List.mem_cons.mp h1 with e | e
        · rw [e]; exact List.mem_cons_self
        · exact List.mem_cons_of_mem _ (List.mem_cons_of_mem _ e)
      · rcases List.mem_cons.mp hy with rfl | hy
        · exact h2 y List.mem_cons_self
        · rcases List.mem_cons.mp hy with rfl | hy
          · exact Int.le_trans (h2 m List.mem_cons_self) (by omega)
          · exact h2 y (List.mem_cons_of_mem _ hy)
/-- what a built-in function is asked -/
def rBfn (G : Wd) (bx : Bool) (b : Bfn) : List V → Hp → VK → Prop := fun xs H Q => ∃ κ ρ st as v, HRel G κ ρ st H ∧ RepVs G ρ (Live κ ρ st) H as xs ∧ bfnop st b as = some v ∧ VP G bx κ ρ st H v Q
section
variable {X : Cx} {G : Wd}
theorem one_some {f : CV → Option CV} {as : List CV} {v : CV} (e : one f as = some v) : ∃ a, as = [a] ∧ f a = some v := by
  unfold one at e
  split at e
  · exact ⟨_, rfl, e⟩
  · cases e
theorem two_some {f : CV → CV → Option CV} {as : List CV} {v : CV} (e : two f as = some v) : ∃ a b, as = [a, b] ∧ f a b = some v := by
  unfold two at e
  split at e
  · exact ⟨_, _, rfl, e⟩
  · cases e
theorem reps1 {ρ : List Addr} {L : Addr → Prop} {H : Hp} {a : CV} {xs : List V} (r : RepVs G ρ L H [a] xs) : ∃ x, xs = [x] ∧ RepV G ρ L H a x := by
  cases r with
  | cons h r => cases r; exact ⟨_, rfl, h⟩
theorem reps2 {ρ : List Addr} {L : Addr → Prop} {H : Hp} {a b : CV} {xs : List V} (r : RepVs G ρ L H [a, b] xs) : ∃ x y, xs = [x, y] ∧ RepV G ρ L H a x ∧ RepV G ρ L H b y := by
  cases r with
  | cons h r => obtain ⟨y, rfl, h2⟩ := reps1 r; exact ⟨_, y, rfl, h, h2⟩
/-- a list of ints, read -/
theorem lst_ints {κ : Addr → Prop} {ρ : List Addr} {st : Sto} {H : Hp} {a : CV} {x : V} {ns : List Int} (R : HRel G κ ρ st H) (r : RepV G ρ (Live κ ρ st) H a x) (e : (lstOf st a).bind intsOf = some ns) : ∃ p, x = .ref p ∧ H p = some (.lst (ns.map V.int)) := by
  obtain ⟨xs, e1, e2⟩ := Option.bind_eq_some_iff.mp e
  obtain ⟨p, vs, rfl, hp, r1⟩ := lstOf_rep R r e1
  exact ⟨p, rfl, by rw [hp, r1.ints e2]⟩
theorem lst_bls {κ : Addr → Prop} {ρ : List Addr} {st : Sto} {H : Hp} {a : CV} {x : V} {ns : List Bool} (R : HRel G κ ρ st H) (r : RepV G ρ (Live κ ρ st) H a x) (e : (lstOf st a).bind blsOf = some ns) : ∃ p, x = .ref p ∧ H p = some (.lst (ns.map V.bl)) := by
  obtain ⟨xs, e1, e2⟩ := Option.bind_eq_some_iff.mp e
  obtain ⟨p, vs, rfl, hp, r1⟩ := lstOf_rep R r e1
  exact ⟨p, rfl, by rw [hp, r1.bls e2]⟩
theorem fn_len {bx : Bool} (hK : X.K = G.K) : CallR X (.builtin "len") (rBfn G bx .len) := by
  intro pins s σ H xs us Q I r h
  obtain ⟨κ, ρ, st, as, v, R, ra, e, k⟩ := h
  obtain ⟨a, rfl, e⟩ := one_some e
  obtain ⟨x, rfl, r1⟩ := reps1 ra
  have e : bLen st a = some v := e
  unfold bLen at e
  split at e
  · split at e
    · rename_i hz
      cases e
      cases r1
      exact call_len_str pins s σ H _ us Q I r ⟨_, rfl, by rw [ss_length]; exact lenOk_line hz, by rw [ss_length]; exact k.here R (.int _)⟩
    · cases e
  · split at e
    · rename_i ys hy
      cases e
      obtain ⟨p, vs, rfl, hp, r2⟩ := seqOf_rep R r1 hy
      refine call_len_seq pins s σ H _ us Q I r ⟨p, vs, rfl, by rw [hK]; exact hp, ?_⟩
      rw [← r2.length]
      exact k.here R (.int _)
    · obtain ⟨d, e1, rfl⟩ := Option.map_eq_some_iff.mp e
      obtain ⟨p, rfl, hd⟩ := dicOf_rep R r1 e1
      obtain ⟨t, kvs⟩ := d
      cases t with
      | false =>
        obtain ⟨ws, h1, h2⟩ := hd
        obtain ⟨u, rfl, ru⟩ := vals1 r
        obtain rfl : u = Value.ref p := ru
        exact (d_len I (.inl h1) fun t s' I' => ⟨.int ws.length, H, I', ⟨t, rfl⟩, by rw [← h2.length]; exact k.here R (.int _)⟩)
      | true =>
        obtain ⟨ws, h1, h2⟩ := hd
        exact call_len_dT pins s σ H _ us Q I r ⟨p, ws, rfl, h1, by rw [← h2.length]; exact k.here R (.int _)⟩
theorem fn_abs {bx : Bool} : CallR X (.builtin "abs") (rBfn G bx .abs) := by
  intro pins s σ H xs us Q I r h
  obtain ⟨κ, ρ, st, as, v, R, ra, e, k⟩ := h
  obtain ⟨a, rfl, e⟩ := one_some e
  obtain ⟨x, rfl, r1⟩ := reps1 ra
  have e : bAbs a = some v := e
  unfold bAbs at e
  split at e
  · cases e
    cases r1
    exact call_abs pins s σ H _ us Q I r ⟨_, rfl, k.here R (.int _)⟩
  · cases e
theorem fn_min2 {bx : Bool} (hc : X.calm = true) : CallR X (.builtin "min") (rBfn G bx .min2) := by
  intro pins s σ H xs us Q I r h
  obtain ⟨κ, ρ, st, as, v, R, ra, e, k⟩ := h
  obtain ⟨a, b, rfl, e⟩ := two_some e
  obtain ⟨x, y, rfl, r1, r2⟩ := reps2 ra
  have e : bMin2 a b = some v := e
  unfold bMin2 at e
  split at e
  · cases e
    cases r1; cases r2
    exact call_min2 hc pins s σ H _ us Q I r ⟨_, _, rfl, k.here R (.int _)⟩
  · cases e
theorem fn_max2 {bx : Bool} (hc : X.calm = true) : CallR X (.builtin "max") (rBfn G bx .max2) := by
  intro pins s σ H xs us Q I r h
  obtain ⟨κ, ρ, st, as, v, R, ra, e, k⟩ := h
  obtain ⟨a, b, rfl, e⟩ := two_some e
  obtain ⟨x, y, rfl, r1, r2⟩ := reps2 ra
  have e : bMax2 a b = some v := e
  unfold bMax2 at e
  split at e
  · cases e
    cases r1; cases r2
    exact call_max2 hc pins s σ H _ us Q I r ⟨_, _, rfl, k.here R (.int _)⟩
  · cases e
theorem fn_int {bx : Bool} (hc : X.calm = true) : CallR X (.type "int") (fun xs H Q => ∃ κ ρ st as v, HRel G κ ρ st H ∧ RepVs G ρ (Live κ ρ st) H as xs ∧ bfnop st .int as = some v ∧ (∀ z, as ≠ [.str z]) ∧ VP G bx κ ρ st H v Q) := by
  intro pins s σ H xs us Q I r h
  obtain ⟨κ, ρ, st, as, v, R, ra, e, hz, k⟩ := h
  obtain ⟨a, rfl, e⟩ := one_some e
  obtain ⟨x, rfl, r1⟩ := reps1 ra
  have e : bInt a = some v := e
  unfold bInt at e
  split at e
  · cases e
    cases r1
    exact call_int1 pins s σ H _ us Q I r (.inl ⟨_, rfl, k.here R (.int _)⟩)
  · cases e
    cases r1
    exact call_int1 pins s σ H _ us Q I r (.inr ⟨_, rfl, k.here R (.int _)⟩)
  · exact absurd rfl (hz _)
  · cases e
theorem fn_maxl {bx : Bool} (hc : X.calm = true) : CallR X (.builtin "max") (rBfn G bx .maxl) := by
  intro pins s σ H xs us Q I r h
  obtain ⟨κ, ρ, st, as, v, R, ra, e, k⟩ := h
  obtain ⟨a, rfl, e⟩ := one_some e
  obtain ⟨x, rfl, r1⟩ := reps1 ra
  have e : bMaxl st a = some v := e
  unfold bMaxl at e
  split at e
  · rename_i n ns hn
    cases e
    obtain ⟨p, rfl, hp⟩ := lst_ints R r1 hn
    obtain ⟨s1, s2⟩ := maxL_spec ns n
    refine cr_max hc pins s σ H _ us Q I r ⟨p, n :: ns, rfl, SqL.of hp, Nat.succ_pos _, fun m h1 h2 => ?_⟩
    have : m = maxL n ns := Int.le_antisymm (s2 m h1) (h2 _ s1)
    rw [this]
    exact k.here R (.int _)
  · cases e
theorem fn_minl {bx : Bool} (hc : X.calm = true) : CallR X (.builtin "min") (rBfn G bx .minl) := by
  intro pins s σ H xs us Q I r h
  obtain ⟨κ, ρ, st, as, v, R, ra, e, k⟩ := h
  obtain ⟨a, rfl, e⟩ := one_some e
  obtain ⟨x, rfl, r1⟩ := reps1 ra
  have e : bMinl st a = some v := e
  unfold bMinl at e
  split at e
  · rename_i n ns hn
    cases e
    obtain ⟨p, rfl, hp⟩ := lst_ints R r1 hn
    obtain ⟨s1, s2⟩ := minL_spec ns n
    refine cr_min hc pins s σ H _ us Q I r ⟨p, n :: ns, rfl, SqL.of hp, Nat.succ_pos _, fun m h1 h2 => ?_⟩
    have : m = minL n ns := Int.le_antisymm (h2 _ s1) (s2 m h1)
    rw [this]
    exact k.here R (.int _)
  · cases e
theorem fn_sum {bx : Bool} (hc : X.calm = true) : CallR X (.builtin "sum") (rBfn G bx .sum) := by
  intro pins s σ H xs us Q I r h
  obtain ⟨κ, ρ, st, as, v, R, ra, e, k⟩ := h
  obtain ⟨a, rfl, e⟩ := one_some e
  obtain ⟨x, rfl, r1⟩ := reps1 ra
  obtain ⟨ns, e1, rfl⟩ := Option.map_eq_some_iff.mp e
  obtain ⟨p, rfl, hp⟩ := lst_ints R r1 e1
  exact cr_sum hc pins s σ H _ us Q I r ⟨p, ns, rfl, SqL.of hp, k.here R (.int _)⟩
theorem fn_all {bx : Bool} (hc : X.calm = true) : CallR X (.builtin "all") (rBfn G bx .all) := by
  intro pins s σ H xs us Q I r h
  obtain ⟨κ, ρ, st, as, v, R, ra, e, k⟩ := h
  obtain ⟨a, rfl, e⟩ := one_some e
  obtain ⟨x, rfl, r1⟩ := reps1 ra
  obtain ⟨ns, e1, rfl⟩ := Option.map_eq_some_iff.mp e
  obtain ⟨p, rfl, hp⟩ := lst_bls R r1 e1
  exact cr_all hc pins s σ H _ us Q I r ⟨p, ns, rfl, SqL.of hp, k.here R (.bl _)⟩
theorem fn_any {bx : Bool} (hc : X.calm = true) : CallR X (.builtin "any") (rBfn G bx .any) := by
  intro pins s σ H xs us Q I r h
  obtain ⟨κ, ρ, st, as, v, R, ra, e, k⟩ := h
  obtain ⟨a, rfl, e⟩ := one_some e
  obtain ⟨x, rfl, r1⟩ := reps1 ra
  obtain ⟨ns, e1, rfl⟩ := Option.map_eq_some_iff.mp e
  obtain ⟨p, rfl, hp⟩ := lst_bls R r1 e1
  exact cr_any hc pins s σ H _ us Q I r ⟨p, ns, rfl, SqL.of hp, k.here R (.bl _)⟩
theorem fn_list {bx : Bool} (hK : X.K = G.K) : CallR X (.type "list") (rBfn G bx .list) := by
  intro pins s σ H xs us Q I r h
  obtain ⟨κ, ρ, st, as, v, R, ra, e, k⟩ := h
  obtain ⟨a, rfl, e⟩ := one_some e
  obtain ⟨x, rfl, r1⟩ := reps1 ra
  obtain ⟨ys, e1, rfl⟩ := Option.map_eq_some_iff.mp e
  obtain ⟨p, vs, rfl, hp, r2⟩ := seqOf_rep R r1 e1
  exact call_list_of pins s σ H _ us Q I r ⟨p, vs, rfl, by rw [hK]; exact hp, fun l hl => k.lst R r2 hl⟩
theorem fn_tuple {bx : Bool} (hK : X.K = G.K) : CallR X (.type "tuple") (rBfn G bx .tuple) := by
  intro pins s σ H xs us Q I r h
  obtain ⟨κ, ρ, st, as, v, R, ra, e, k⟩ := h
  obtain ⟨a, rfl, e⟩ := one_some e
  obtain ⟨x, rfl, r1⟩ := reps1 ra
  have e : bTuple st a = some v := e
  unfold bTuple at e
  split at e
  · cases e
    have r2 := r1
    obtain ⟨p, vs, rfl, hp, _⟩ := tup_sq r1
    exact call_tuple_of pins s σ H _ us Q I r ⟨p, vs, rfl, .inr ⟨by rw [hK]; exact hp, k.here R r2⟩⟩
  · cases e
    cases r1 with
    | scr hh n => exact call_tuple_of pins s σ H _ us Q I r ⟨_, _, rfl, .inl ⟨.inl hh, fun l hl => k.tup R (repInts _) hl⟩⟩
    | scrK hh => exact call_tuple_of pins s σ H _ us Q I r ⟨_, _, rfl, .inl ⟨by rw [hK]; exact hh H, fun l hl => k.tup R (repInts _) hl⟩⟩
  · obtain ⟨ys, e1, rfl⟩ := Option.map_eq_some_iff.mp e
    obtain ⟨p, vs, rfl, hp, r2⟩ := lstOf_rep R r1 e1
    exact call_tuple_of pins s σ H _ us Q I r ⟨p, vs, rfl, .inl ⟨SqL.of hp, fun l hl => k.tup R r2 hl⟩⟩
end
end MP
end MPf_text

section MPg_text
set_option Elab.async false
set_option linter.all false
set_option maxRecDepth 100000
/-! Texts, dicts, sorted lists, methods of built-in types. -/
namespace MP
open PySem PySem.Spec PyProof.Rows L2

theorem tl_SS (x : List Nat) : TL.tl (SS x) = x := by simp [TL.tl]
theorem ss_of {x : Str} {y : List Nat} (h : TL.tl x = y) : x = SS y := TL.ext_tl (by rw [h, tl_SS])
theorem intStr_eq (i : Int) : ((toString i : String) : Str) = SS (intStr i) := by
  refine ss_of ?_
  cases i with
  | ofNat n =>
    show TL.tl (Str.ofString (toString ((n : Nat) : Int))) = _
    rw [TL.tl_num]
    unfold intStr
    rw [if_neg (by simp)]
    rfl
  | negSucc n =>
    show TL.tl (Str.ofString (toString (Int.negSucc n))) = _
    rw [TL.tl_ofString]
    unfold intStr
    rw [if_pos (Int.negSucc_lt_zero n)]
    show (("-" ++ Nat.repr (n + 1) : String)).toList.map Char.toNat = 45 :: digitsOf (n + 1)
    rw [String.toList_append, List.map_append, Nat.toList_repr]
    rfl
theorem map_tl_SS : ∀ xs : List (List Nat), (xs.map SS).map TL.tl = xs
  | [] => rfl
  | x :: r => by rw [List.map_cons, List.map_cons, tl_SS, map_tl_SS r]
theorem splitL_ne (c : Nat) : ∀ l : List Nat, splitL c l ≠ []
  | [] => by simp [splitL]
  | a :: r => by
    unfold splitL
    split
    · simp
    · split <;> simp
theorem splitL_spl (c : Nat) : ∀ (l acc : List Nat), TL.spl [c] 0 acc l = match splitL c l with
    | [] => []
    | p :: ps => (acc ++ p) :: ps
  | [], acc => by simp [TL.spl, splitL]
  | a :: r, acc => by
    have e1 : TL.pre [c] (a :: r) = (a == c) := by
      unfold TL.pre
      simp
    unfold TL.spl splitL
    rw [e1]
    have ih := splitL_spl c r
    by_cases h : a = c
    · subst h
      have i0 := ih []
      have hn := splitL_ne a r
      simp only [beq_self_eq_true, if_true, List.length_singleton, Nat.sub_self]
      rw [i0]
      cases hs : splitL a r with
      | nil => exact absurd hs hn
      | cons p ps => simp
    · have e2 : (a == c) = false := by simpa using h
      rw [e2]
      simp only [Bool.false_eq_true, if_false, h]
      rw [ih (acc ++ [a])]
      cases hs : splitL c r with
      | nil => exact absurd hs (splitL_ne c r)
      | cons p ps => simp
theorem split_eq (x : List Nat) (c : Nat) (hc : c < 256) : Txt.split (SS x) (SS [c]) = (splitL c x).map SS := by
  refine TL.map_tl_inj ?_
  rw [TL.split_spl (SS x) (SS [c]) (by rw [tl_SS]; simp) (TL.kind_ok (by simp [hc])), tl_SS, tl_SS, splitL_spl]
  rw [map_tl_SS]
  cases splitL c x <;> rfl
theorem joinL_eq (sep : List Nat) : ∀ xs : List (List Nat), TL.joinL sep xs = joinL sep xs
  | [] => rfl
  | [x] => rfl
  | x :: y :: r => by
    show x ++ (sep ++ TL.joinL sep (y :: r)) = x ++ sep ++ joinL sep (y :: r)
    rw [joinL_eq sep (y :: r), List.append_assoc]
theorem join_eq (sep : List Nat) (xs : List (List Nat)) : Txt.join (SS sep) (xs.map SS) = SS (joinL sep xs) := by
  refine ss_of ?_
  rw [TL.join_eq, TL.tl_join, tl_SS, map_tl_SS, joinL_eq]
theorem allDig {x : List Nat} (h : x.all isDig = true) : NumText.AllDigits x := fun c hc => by
  have h1 := List.all_eq_true.mp h c hc
  unfold isDig at h1
  obtain ⟨h2, h3⟩ := Bool.and_eq_true_iff.mp h1
  exact ⟨of_decide_eq_true h2, of_decide_eq_true h3⟩
theorem intOf_eq {x : List Nat} {n : Int} (h : intOf x = some n) : PySem.intText? (SS x) = some n ∧ (SS x).length ≤ 640 := by
  unfold intOf at h
  split at h
  · split at h
    · rename_i r hh
      obtain ⟨h1, h2, h3⟩ := hh
      cases h
      have e : (SS (45 :: r)).length = r.length + 1 := by rw [ss_length]; rfl
      exact ⟨PySem.intText_neg (cs := r) (tl_SS (45 :: r)) (allDig h2) h1 (by omega), by omega⟩
    · cases h
  · split at h
    · rename_i r _ hh
      obtain ⟨h1, h2, h3⟩ := hh
      cases h
      have e : (SS x).length = x.length := ss_length x
      have := PySem.intText_digits (x := SS x) (by rw [show (SS x).cps.toList = x from tl_SS x]; exact allDig h2) (by rw [show (SS x).cps.toList = x from tl_SS x]; exact h1) (by omega)
      rw [show (SS x).cps.toList = x from tl_SS x] at this
      exact ⟨this, by omega⟩
    · cases h
section
variable {G : Wd} {κ : Addr → Prop} {ρ : List Addr} {st : Sto} {H : Hp} {L : Addr → Prop}
theorem ddk {κ : Type} [DecidableEq κ] (k : κ) (v : V) (vs : List (κ × V)) : putK vs k v = if (vs.any fun q => decide (q.1 = k)) = true then vs.map (fun q => if q.1 = k then (q.1, v) else q) else vs ++ [(k, v)] := rfl
theorem RepDs.append : ∀ {xs ys : List (CV × CV)} {vs ws : List (Key × V)}, RepDs G ρ L H xs vs → RepDs G ρ L H ys ws → RepDs G ρ L H (xs ++ ys) (vs ++ ws)
  | _, _, _, _, .nil, s => s
  | _, _, _, _, .cons k h r, s => .cons k h (r.append s)
theorem RepTs.append : ∀ {xs ys : List (CV × CV)} {vs ws : List (List Key × V)}, RepTs G ρ L H xs vs → RepTs G ρ L H ys ws → RepTs G ρ L H (xs ++ ys) (vs ++ ws)
  | _, _, _, _, .nil, s => s
  | _, _, _, _, .cons k h r, s => .cons k h (r.append s)
theorem RepDs.any {k : CV} {y : Key} (hk : RepK k y) : ∀ {xs : List (CV × CV)} {vs : List (Key × V)}, RepDs G ρ L H xs vs → (xs.any fun p => decide (keyOf p.1 = keyOf k)) = vs.any fun q => decide (q.1 = y)
  | _, _, .nil => rfl
  | _, _, .cons h1 h r => by
    rw [List.any_cons, List.any_cons, r.any hk]
    congr 1
    exact decide_eq_decide.mpr (repk_key h1 hk)
theorem RepTs.any {k : CV} {y : List Key} (hk : RepT k y) : ∀ {xs : List (CV × CV)} {vs : List (List Key × V)}, RepTs G ρ L H xs vs → (xs.any fun p => decide (keyOf p.1 = keyOf k)) = vs.any fun q => decide (q.1 = y)
  | _, _, .nil => rfl
  | _, _, .cons h1 h r => by
    rw [List.any_cons, List.any_cons, r.any hk]
    congr 1
    exact decide_eq_decide.mpr (rept_key h1 hk)
theorem RepDs.upd {k : CV} {y : Key} (hk : RepK k y) {x : CV} {v : V} (hx : RepV G ρ L H x v) : ∀ {xs : List (CV × CV)} {vs : List (Key × V)}, RepDs G ρ L H xs vs → RepDs G ρ L H (xs.map fun p => if keyOf p.1 = keyOf k then (p.1, x) else p) (vs.map fun q => if q.1 = y then (q.1, v) else q)
  | _, _, .nil => .nil
  | _, _, .cons (k := k1) (y := y1) h1 h r => by
    rw [List.map_cons, List.map_cons]
    have ih := r.upd hk hx
    by_cases e : y1 = y
    · rw [if_pos e, if_pos ((repk_key h1 hk).mpr e)]
      exact .cons h1 hx ih
    · rw [if_neg e, if_neg fun q => e ((repk_key h1 hk).mp q)]
      exact .cons h1 h ih
theorem RepTs.upd {k : CV} {y : List Key} (hk : RepT k y) {x : CV} {v : V} (hx : RepV G ρ L H x v) : ∀ {xs : List (CV × CV)} {vs : List (List Key × V)}, RepTs G ρ L H xs vs → RepTs G ρ L H (xs.map fun p => if keyOf p.1 = keyOf k then (p.1, x) else p) (vs.map fun q => if q.1 = y then (q.1, v) else q)
  | _, _, .nil => .nil
  | _, _, .cons (k := k1) (y := y1) h1 h r => by
    rw [List.map_cons, List.map_cons]
    have ih := r.upd hk hx
    by_cases e : y1 = y
    · rw [if_pos e, if_pos ((rept_key h1 hk).mpr e)]
      exact .cons h1 hx ih
    · rw [if_neg e, if_neg fun q => e ((rept_key h1 hk).mp q)]
      exact .cons h1 h ih
theorem RepDs.put {k : CV} {y : Key} (hk : RepK k y) {x : CV} {v : V} (hx : RepV G ρ L H x v) {xs : List (CV × CV)} {vs : List (Key × V)} (r : RepDs G ρ L H xs vs) : RepDs G ρ L H (dput xs k x) (putK vs y v) := by
  rw [ddk]
  unfold dput
  rw [r.any hk]
  split
  · exact r.upd hk hx
  · exact r.append (.cons hk hx .nil)
theorem RepTs.put {k : CV} {y : List Key} (hk : RepT k y) {x : CV} {v : V} (hx : RepV G ρ L H x v) {xs : List (CV × CV)} {vs : List (List Key × V)} (r : RepTs G ρ L H xs vs) : RepTs G ρ L H (dput xs k x) (putK vs y v) := by
  rw [ddk]
  unfold dput
  rw [r.any hk]
  split
  · exact r.upd hk hx
  · exact r.append (.cons hk hx .nil)
theorem key_rep {k : CV} {x : V} (r : RepV G ρ L H k x) (ok : okKey false k = true) : ∃ y, RepK k y ∧ x = kV y := key_k r ok
/-- pairs as they lie: keys of the first kind -/
theorem RepDs.merge {xs0 : List (CV × CV)} {vs0 : List (Key × V)} (r0 : RepDs G ρ L H xs0 vs0) : ∀ {ps : List (CV × CV)} {ks : List (Key × V)} {out : List (CV × CV)}, RepDs G ρ L H ps ks → dictOf false xs0 ps = some out → RepDs G ρ L H out (mergeK vs0 ks)
  | _, _, out, .nil, e => by cases e; exact r0
  | _, _, out, .cons (k := k1) (x := x1) (xs := xs1) hk h r, e => by
    have e : (if okKey false k1 then dictOf false (dput xs0 k1 x1) xs1 else none) = some out := e
    split at e
    · exact RepDs.merge (r0.put hk h) r e
    · cases e
/-- pairs of texts or ints with values, in a list -/
theorem pairs_rep : ∀ {xs : List CV} {vs : List V} {ps : List (CV × CV)} {out acc : List (CV × CV)}, RepVs G ρ L H xs vs → pairsOf xs = some ps → dictOf false acc ps = some out → ∃ (as : List Addr) (ks : List (Key × V)), vs = as.map V.ref ∧ Paired (fun p kv => SqT G.K H p [kV kv.1, kv.2]) as ks ∧ RepDs G ρ L H ps ks
  | _, _, ps, out, acc, .nil, e, _ => by cases e; exact ⟨[], [], rfl, .nil, .nil⟩
  | x :: xs, v :: vs, ps, out, acc, .cons h r, e, d => by
    unfold pairsOf at e
    split at e
    · rename_i heq
      cases heq
    · rename_i k w r1 heq
      cases heq
      obtain ⟨ps1, e1, rfl⟩ := Option.map_eq_some_iff.mp e
      have d : (if okKey false k then dictOf false (dput acc k w) ps1 else none) = some out := d
      split at d
      · rename_i ok
        obtain ⟨as, ks, rfl, hp, hr⟩ := pairs_rep r e1 d
        obtain ⟨p, ws, rfl, hp1, r2⟩ : ∃ p ws, v = .ref p ∧ SqT G.K H p ws ∧ RepVs G ρ L H [k, w] ws := by
          cases h with
          | tup h n r => exact ⟨_, _, rfl, SqT.of h, r⟩
        obtain ⟨x1, x2, rfl, r3, r4⟩ := reps2 r2
        obtain ⟨y, hk, rfl⟩ := key_k r3 ok
        exact ⟨p :: as, (y, x2) :: ks, rfl, .cons hp1 hp, .cons hk r4 hr⟩
      · cases d
    · cases e
end
section
variable {X : Cx} {G : Wd}
theorem fn_str {bx : Bool} : CallR X (.type "str") (rBfn G bx .str) := by
  intro pins s σ H xs us Q I r h
  obtain ⟨κ, ρ, st, as, v, R, ra, e, k⟩ := h
  obtain ⟨a, rfl, e⟩ := one_some e
  obtain ⟨x, rfl, r1⟩ := reps1 ra
  have e : bStr a = some v := e
  unfold bStr at e
  split at e
  · split at e
    · cases e
      cases r1
      exact call_str_int pins s σ H _ us Q I r ⟨_, rfl, by omega, by rw [intStr_eq]; exact k.here R (.str _)⟩
    · cases e
  · cases e
theorem fn_int' {bx : Bool} (hc : X.calm = true) : CallR X (.type "int") (rBfn G bx .int) := by
  intro pins s σ H xs us Q I r h
  obtain ⟨κ, ρ, st, as, v, R, ra, e, k⟩ := h
  by_cases hz : ∃ z, as = [.str z]
  · obtain ⟨z, rfl⟩ := hz
    obtain ⟨x, rfl, r1⟩ := reps1 ra
    cases r1
    obtain ⟨n, e1, rfl⟩ := Option.map_eq_some_iff.mp (show (intOf z).map CV.int = some v from e)
    obtain ⟨h1, h2⟩ := intOf_eq e1
    exact call_int_str pins s σ H _ us Q I r ⟨_, n, rfl, h1, h2, k.here R (.int _)⟩
  · exact fn_int hc pins s σ H xs us Q I r ⟨κ, ρ, st, as, v, R, ra, e, fun z q => hz ⟨z, q⟩, k⟩
theorem fn_dict {bx : Bool} (hK : X.K = G.K) (hc : X.calm = true) : CallR X (.type "dict") (rBfn G bx .dict) := by
  intro pins s σ H xs us Q I r h
  obtain ⟨κ, ρ, st, as, v, R, ra, e, k⟩ := h
  obtain ⟨a, rfl, e⟩ := one_some e
  obtain ⟨x, rfl, r1⟩ := reps1 ra
  have e : bDict st a = some v := e
  unfold bDict at e
  obtain ⟨ps, e1, e2⟩ := Option.bind_eq_some_iff.mp e
  obtain ⟨ys, e3, e4⟩ := Option.bind_eq_some_iff.mp e1
  obtain ⟨out, e5, rfl⟩ := Option.map_eq_some_iff.mp e2
  obtain ⟨p, vs, rfl, hp, r2⟩ := lstOf_rep R r1 e3
  obtain ⟨bs, ks, rfl, hq, hr⟩ := pairs_rep r2 e4 e5
  refine call_dictP hc pins s σ H _ us Q I r ⟨p, bs, ks, rfl, SqL.of hp, by rw [hK]; exact hq, fun l hl => ?_⟩
  exact k.dicK R (RepDs.merge .nil hr e5) hl

/-! ### sorted -/
theorem sorted_uniq {α : Type} {le : α → α → Prop} (anti : ∀ a b, le a b → le b a → a = b) {l m : List α} (h1 : l.Pairwise le) (h2 : m.Pairwise le) (p : l.Perm m) : l = m :=
  List.Perm.eq_of_pairwise (fun a b _ _ => anti a b) h1 h2 p
theorem lexLe_iff (p q : Int × Int) : lexLe p q = true ↔ p.1 < q.1 ∨ (p.1 = q.1 ∧ p.2 ≤ q.2) := by
  unfold lexLe
  simp
theorem pairsI_rep {ρ : List Addr} {L : Addr → Prop} {H : Hp} : ∀ {xs : List CV} {vs : List V} {ps : List (Int × Int)}, RepVs G ρ L H xs vs → pairsI xs = some ps →
    ∃ as : List Addr, vs = as.map V.ref ∧ Paired (fun a p => H a = some (.tup [.int p.1, .int p.2]) ∧ ¬ L a) as ps
  | _, _, _, .nil, e => by cases e; exact ⟨[], rfl, .nil⟩
  | x :: xs, v :: vs, ps, .cons h r, e => by
    unfold pairsI at e
    split at e
    · rename_i heq
      cases heq
    · rename_i a b r1 heq
      cases heq
      obtain ⟨ms, e1, rfl⟩ := Option.map_eq_some_iff.mp e
      obtain ⟨as, rfl, hp⟩ := pairsI_rep r e1
      cases h with
      | tup h n r2 =>
        obtain ⟨x1, x2, rfl, r3, r4⟩ := reps2 r2
        cases r3; cases r4
        exact ⟨_ :: as, rfl, .cons ⟨h, n⟩ hp⟩
    · cases e
theorem rep_pairs {ρ : List Addr} {L : Addr → Prop} {H : Hp} {k : V → Int × Int} : ∀ (ys : List V), (∀ y ∈ ys, ∃ t, y = V.ref t ∧ H t = some (.tup [.int (k y).1, .int (k y).2]) ∧ ¬ L t) → RepVs G ρ L H ((ys.map k).map fun p => CV.tup [.int p.1, .int p.2]) ys
  | [], _ => .nil
  | y :: ys, h => by
    obtain ⟨t, rfl, h1, h2⟩ := h y List.mem_cons_self
    exact .cons (.tup h1 h2 (.cons (.int _) (.cons (.int _) .nil))) (rep_pairs ys fun z hz => h z (List.mem_cons_of_mem _ hz))
def keyV (H : Hp) (y : V) : Int × Int := match y with
  | .ref t => match H t with
    | some (.tup [.int a, .int b]) => (a, b)
    | _ => (0, 0)
  | _ => (0, 0)
theorem keyV_eq {H : Hp} {t : Addr} {p : Int × Int} (h : H t = some (.tup [.int p.1, .int p.2])) : keyV H (.ref t) = p := by
  unfold keyV
  dsimp only
  rw [h]
theorem paired_keys {H : Hp} {L : Addr → Prop} : ∀ {as : List Addr} {ps : List (Int × Int)}, Paired (fun a p => H a = some (.tup [.int p.1, .int p.2]) ∧ ¬ L a) as ps →
    (as.map V.ref).map (keyV H) = ps ∧ ∀ y ∈ as.map V.ref, ∃ t, y = V.ref t ∧ H t = some (.tup [.int (keyV H y).1, .int (keyV H y).2]) ∧ ¬ L t
  | _, _, .nil => ⟨rfl, fun y hy => nomatch hy⟩
  | _, _, .cons (a := a) (b := p) h r => by
    obtain ⟨e1, e2⟩ := paired_keys r
    have e3 := keyV_eq h.1
    refine ⟨by rw [List.map_cons, List.map_cons, e1, e3], fun y hy => ?_⟩
    rcases List.mem_cons.mp hy with rfl | hy
    · exact ⟨a, rfl, by rw [e3]; exact h.1, h.2⟩
    · exact e2 y hy
theorem fn_sorted {bx : Bool} (hc : X.calm = true) : CallR X (.builtin "sorted") (rBfn G bx .sorted) := by
  intro pins s σ H xs us Q I r h
  obtain ⟨κ, ρ, st, as, v, R, ra, e, k⟩ := h
  obtain ⟨a, rfl, e⟩ := one_some e
  obtain ⟨x, rfl, r1⟩ := reps1 ra
  have e : bSorted st a = some v := e
  unfold bSorted at e
  obtain ⟨ys, e1, e2⟩ := Option.bind_eq_some_iff.mp e
  obtain ⟨p, vs, rfl, hp, r2⟩ := lstOf_rep R r1 e1
  split at e2
  · rename_i ns hn
    cases e2
    rw [r2.ints hn] at hp
    refine cr_sortedI pins s σ H _ us Q I r ⟨p, ns, rfl, SqL.of hp, fun ns' l pm pw hl => ?_⟩
    have q : ns' = ns.mergeSort fun a b => decide (a ≤ b) := by
      refine sorted_uniq (le := (· ≤ ·)) (fun a b h1 h2 => Int.le_antisymm h1 h2) pw ?_ (pm.trans (List.mergeSort_perm ns _).symm)
      have := List.pairwise_mergeSort (le := fun a b : Int => decide (a ≤ b)) (fun a b c h1 h2 => decide_eq_true (Int.le_trans (of_decide_eq_true h1) (of_decide_eq_true h2))) (fun a b => by simp; omega) ns
      exact this.imp fun h => of_decide_eq_true h
    rw [q]
    exact k.lst R (repInts _) hl
  · obtain ⟨ps, e3, rfl⟩ := Option.map_eq_some_iff.mp e2
    obtain ⟨bs, rfl, hq⟩ := pairsI_rep r2 e3
    obtain ⟨e4, e5⟩ := paired_keys hq
    refine cr_sortedPO pins s σ H _ us Q I r ⟨p, bs.map V.ref, keyV H, rfl, SqL.of hp, fun y hy => ?_, fun ys' l sr stb hl => ?_⟩
    · obtain ⟨t, h1, h2, _⟩ := e5 y hy
      exact ⟨t, h1, h2⟩
    · have q : ys'.map (keyV H) = ps.mergeSort lexLe := by
        refine sorted_uniq (le := fun p q => lexLe p q = true) (fun a b h1 h2 => ?_) ?_ ?_ ?_
        · rw [lexLe_iff] at h1 h2
          exact Prod.ext (by omega) (by omega)
        · rw [List.pairwise_map]
          refine List.Pairwise.imp (fun {a b} h => ?_) sr
          rw [lexLe_iff]
          have h := SrtO.lexB_no.mp h
          omega
        · refine List.pairwise_mergeSort (fun a b c h1 h2 => ?_) (fun a b => ?_) ps
          · rw [lexLe_iff] at *
            omega
          · rw [Bool.or_eq_true, lexLe_iff, lexLe_iff]
            omega
        · rw [← e4]
          exact (stb.perm.map _).trans ((List.mergeSort_perm _ _).symm)
      rw [← q] at k
      refine k.lst R (rep_pairs ys' fun y hy => ?_) hl
      exact e5 y (stb.perm.mem_iff.mp hy)

/-! ### methods -/
def rBm (G : Wd) (m : Bm) : V → List V → Hp → VK → Prop := fun x xs H Q => ∃ κ ρ st a as v st', HRel G κ ρ st H ∧ RepV G ρ (Live κ ρ st) H a x ∧ RepVs G ρ (Live κ ρ st) H as xs ∧ bmop st m a as = some (v, st') ∧ Post G κ ρ st H v st' Q
theorem lstAt_rep {κ : Addr → Prop} {ρ : List Addr} {st : Sto} {H : Hp} (R : HRel G κ ρ st H) {a : CV} {x : V} {q : Nat × List CV} (r : RepV G ρ (Live κ ρ st) H a x) (e : lstAt st a = some q) : ∃ p vs, x = .ref p ∧ ρ[q.1]? = some p ∧ st[q.1]? = some (.lst q.2) ∧ H p = some (.lst vs) ∧ RepVs G ρ (Live κ ρ st) H q.2 vs := by
  unfold lstAt at e
  split at e
  · split at e
    · rename_i l xs hl
      cases e
      cases r with
      | loc h =>
        obtain ⟨vs, e1, r⟩ := R.obj _ _ _ h hl
        exact ⟨_, vs, rfl, h, hl, e1, r⟩
    · cases e
  · cases e
/-- a list at its place is written -/
theorem lst_put {κ : Addr → Prop} {ρ : List Addr} {st : Sto} {H : Hp} (R : HRel G κ ρ st H) {l : Nat} {p : Addr} {xs ys : List CV} {ws : List V} (hp : ρ[l]? = some p) (hs : st[l]? = some (.lst xs)) (rw' : RepVs G ρ (Live κ ρ st) H ys ws) :
    HRel G κ ρ (st.set l (.lst ys)) (upd H p (.lst ws)) ∧ Ext κ ρ st H ρ (st.set l (.lst ys)) (upd H p (.lst ws)) := by
  have e := ext_set (u := .lst ws) (o' := .lst ys) R hp hs rfl rfl
  exact ⟨rel_set R hp hs rfl rfl ⟨ws, upd_same, rw'.ext e⟩, e⟩
theorem mp_append : MtM X "list.append" (rBm G .append) := by
  intro pins s σ H x xs v us Q I rx rs h
  obtain ⟨κ, ρ, st, a, as, w, st', R, ra, ras, e, k⟩ := h
  unfold bmop at e
  dsimp only at e
  split at e
  · rename_i y
    obtain ⟨yv, rfl, ry⟩ := reps1 ras
    unfold mAppend at e
    obtain ⟨q, e1, e2⟩ := Option.bind_eq_some_iff.mp e
    split at e2
    · rename_i hz
      cases e2
      obtain ⟨p, vs, rfl, hp, hs, hv, r⟩ := lstAt_rep R ra e1
      have rr : RepVs G ρ (Live κ ρ st) H (q.2 ++ [y]) (vs ++ [yv]) := r.append (.cons ry .nil)
      obtain ⟨R2, E2⟩ := lst_put R hp hs rr
      exact mt_append pins s σ H _ _ v us Q I rx rs ⟨p, vs, yv, rfl, rfl, hv, by rw [← r.length]; exact lenOk_lt hz, k _ ρ _ R2 E2 .non⟩
    · cases e2
  · cases e
theorem mp_extend : MtM X "list.extend" (rBm G .extend) := by
  intro pins s σ H x xs v us Q I rx rs h
  obtain ⟨κ, ρ, st, a, as, w, st', R, ra, ras, e, k⟩ := h
  unfold bmop at e
  dsimp only at e
  split at e
  · rename_i y
    obtain ⟨yv, rfl, ry⟩ := reps1 ras
    unfold mExtend at e
    obtain ⟨q, e1, e2⟩ := Option.bind_eq_some_iff.mp e
    obtain ⟨ys, e3, e4⟩ := Option.bind_eq_some_iff.mp e2
    split at e4
    · rename_i hz
      cases e4
      obtain ⟨p, vs, rfl, hp, hs, hv, r⟩ := lstAt_rep R ra e1
      obtain ⟨p2, ws, rfl, hw, r2⟩ := lstOf_rep R ry e3
      obtain ⟨R2, E2⟩ := lst_put R hp hs (r.append r2)
      exact mt_extend pins s σ H _ _ v us Q I rx rs ⟨p, p2, vs, ws, rfl, rfl, hv, hw, by rw [← r.length, ← r2.length]; exact lenOk_line hz, k _ ρ _ R2 E2 .non⟩
    · cases e4
  · cases e
theorem mp_pop : MtM X "list.pop" (rBm G .pop) := by
  intro pins s σ H x xs v us Q I rx rs h
  obtain ⟨κ, ρ, st, a, as, w, st', R, ra, ras, e, k⟩ := h
  unfold bmop at e
  dsimp only at e
  split at e
  · cases ras
    unfold mPop at e
    obtain ⟨q, e1, e2⟩ := Option.bind_eq_some_iff.mp e
    obtain ⟨y, e3, e4⟩ := Option.map_eq_some_iff.mp e2
    cases e4
    obtain ⟨p, vs, rfl, hp, hs, hv, r⟩ := lstAt_rep R ra e1
    obtain ⟨yv, e5, ry⟩ := r.get e3
    obtain ⟨R2, E2⟩ := lst_put R hp hs r.dropLast
    exact mt_pop pins s σ H _ _ v us Q I rx rs ⟨p, vs, yv, rfl, rfl, hv, by rw [← r.length]; exact e5, k _ ρ _ R2 E2 (ry.ext E2)⟩
  · cases e
theorem mp_popAt : MtM X "list.pop" (rBm G .popAt) := by
  intro pins s σ H x xs v us Q I rx rs h
  obtain ⟨κ, ρ, st, a, as, w, st', R, ra, ras, e, k⟩ := h
  unfold bmop at e
  dsimp only at e
  split at e
  · rename_i y
    obtain ⟨yv, rfl, ry⟩ := reps1 ras
    unfold mPopAt at e
    split at e
    · rename_i i
      cases ry
      split at e
      · rename_i hi
        obtain ⟨q, e1, e2⟩ := Option.bind_eq_some_iff.mp e
        obtain ⟨j, e3, e4⟩ := Option.bind_eq_some_iff.mp e2
        obtain ⟨y, e5, e6⟩ := Option.map_eq_some_iff.mp e4
        cases e6
        obtain ⟨p, vs, rfl, hp, hs, hv, r⟩ := lstAt_rep R ra e1
        obtain ⟨yv, e7, ry⟩ := r.get e5
        obtain ⟨R2, E2⟩ := lst_put R hp hs (r.eraseIdx j)
        exact mt_popAt pins s σ H _ _ v us Q I rx rs ⟨p, vs, i, j, yv, rfl, rfl, hv, by omega, by omega, by rw [← r.length]; exact (ixN_seq ((ixOf_eq _ _).trans e3)).1, e7, k _ ρ _ R2 E2 (ry.ext E2)⟩
      · cases e
    · cases e
  · cases e
theorem mp_get1 (hu : X.A.units + 1 < cLine) : MtM X "dict.get" (rBm G .get1) := by
  intro pins s σ H x xs v us Q I rx rs h
  obtain ⟨κ, ρ, st, a, as, w, st', R, ra, ras, e, k⟩ := h
  unfold bmop at e
  dsimp only at e
  split at e
  · rename_i y
    obtain ⟨yv, rfl, ry⟩ := reps1 ras
    unfold mGet at e
    obtain ⟨q, e1, e2⟩ := Option.bind_eq_some_iff.mp e
    obtain ⟨z, e3, e4⟩ := Option.bind_eq_some_iff.mp e2
    split at e4
    · rename_i ok
      cases e4
      obtain ⟨p, rfl, d⟩ := dicOf_rep R ra e1
      obtain ⟨o, g, hq⟩ := dict_get d ry ok e3
      obtain ⟨u, rfl, ru⟩ := vals1 rs
      obtain rfl : v = Value.ref p := rx
      refine d_get1 hu I g ru fun w' s' I' rw' => ⟨_, H, I', rw', ?_⟩
      cases o with
      | none =>
        rw [show dget q.2 z = none from hq] at k
        exact k _ ρ H R .refl .non
      | some ov =>
        obtain ⟨yy, e5, r5⟩ := hq
        rw [show dget q.2 z = some yy from e5] at k
        exact k _ ρ H R .refl r5
    · cases e4
  · cases e
theorem mp_get2 (hu : X.A.units + 1 < cLine) : MtM X "dict.get" (rBm G .get2) := by
  intro pins s σ H x xs v us Q I rx rs h
  obtain ⟨κ, ρ, st, a, as, w, st', R, ra, ras, e, k⟩ := h
  unfold bmop at e
  dsimp only at e
  split at e
  · rename_i y d
    obtain ⟨yv, dv, rfl, ry, rd⟩ := reps2 ras
    unfold mGet at e
    obtain ⟨q, e1, e2⟩ := Option.bind_eq_some_iff.mp e
    obtain ⟨z, e3, e4⟩ := Option.bind_eq_some_iff.mp e2
    split at e4
    · rename_i ok
      cases e4
      obtain ⟨p, rfl, dd⟩ := dicOf_rep R ra e1
      obtain ⟨o, g, hq⟩ := dict_get dd ry ok e3
      obtain ⟨u1, u2, rfl, ru1, ru2⟩ := vals2 rs
      obtain rfl : v = Value.ref p := rx
      refine d_get2 hu I g ru1 ru2 fun w' s' I' rw' => ⟨_, H, I', rw', ?_⟩
      cases o with
      | none =>
        rw [show dget q.2 z = none from hq] at k
        exact k _ ρ H R .refl rd
      | some ov =>
        obtain ⟨yy, e5, r5⟩ := hq
        rw [show dget q.2 z = some yy from e5] at k
        exact k _ ρ H R .refl r5
    · cases e4
  · cases e
theorem mp_split : MtM X "str.split" (rBm G .split) := by
  intro pins s σ H x xs v us Q I rx rs h
  obtain ⟨κ, ρ, st, a, as, w, st', R, ra, ras, e, k⟩ := h
  unfold bmop at e
  dsimp only at e
  split at e
  · rename_i y
    obtain ⟨yv, rfl, ry⟩ := reps1 ras
    unfold mSplit at e
    split at e
    · rename_i z c
      split at e
      · rename_i hz
        cases ra; cases ry; cases e
        have hl := ss_length z
        refine mt_split pins s σ H _ _ v us Q I rx rs ⟨SS z, SS [c], rfl, rfl, rfl, ?_, fun p hp => ?_⟩
        · have h1 : z.length ≤ 16000000 := of_decide_eq_true (Bool.and_eq_true_iff.mp hz).1
          rw [hl, sizeLine_eq]
          omega
        · rw [split_eq z c (of_decide_eq_true (Bool.and_eq_true_iff.mp hz).2), List.map_map]
          refine k _ ρ _ (rel_new R hp) (ext_new R hp) (.lst upd_same (R.noLive hp) ?_)
          exact repStrs _
      · cases e
    · cases e
  · cases e
theorem mp_join (hK : X.K = G.K) : MtM X "str.join" (rBm G .join) := by
  intro pins s σ H x xs v us Q I rx rs h
  obtain ⟨κ, ρ, st, a, as, w, st', R, ra, ras, e, k⟩ := h
  unfold bmop at e
  dsimp only at e
  split at e
  · rename_i y
    obtain ⟨yv, rfl, ry⟩ := reps1 ras
    unfold mJoin at e
    split at e
    · rename_i sep
      obtain ⟨zs, e1, e2⟩ := Option.bind_eq_some_iff.mp e
      obtain ⟨ys, e3, e4⟩ := Option.bind_eq_some_iff.mp e1
      split at e2
      · rename_i hz
        cases ra; cases e2
        obtain ⟨p, vs, rfl, hp, r1⟩ := seqOf_rep R ry e3
        rw [r1.strs e4] at hp
        have h1 : (zs.map (·.length)).sum + zs.length * sep.length ≤ 16000000 := of_decide_eq_true hz
        refine mt_join pins s σ H _ _ v us Q I rx rs ⟨SS sep, p, zs.map SS, rfl, rfl, ?_, ?_, ?_⟩
        · rw [List.map_map, hK]
          exact hp
        · have e5 : ∀ l : List (List Nat), (l.map SS).map (·.length) = l.map (·.length) := fun l => by
            induction l with
            | nil => rfl
            | cons y r ih => rw [List.map_cons, List.map_cons, List.map_cons, ih, ss_length]
          rw [e5, List.length_map, ss_length]
          omega
        · rw [join_eq]
          exact k _ ρ H R .refl (.str _)
      · cases e2
    · cases e
  · cases e
end
end MP
end MPg_text

section MPh_text
set_option Elab.async false
set_option linter.all false
set_option maxRecDepth 100000
/-! What the small Python's evaluator says, as readings of the layer; what the code's surroundings must be. -/
namespace MP
open PySem PySem.Spec PyProof.Rows L2

/-! ### the outcome of an evaluation -/
def RP {α : Type} (r : R α) (ok : α → Sto → Prop) (ex : Nat → CV → Sto → Prop) : Prop := match r with
  | .ok a s => ok a s
  | .exc c v s => ex c v s
  | .err => False
theorem RP.imp {α : Type} {r : R α} {ok ok' : α → Sto → Prop} {ex ex' : Nat → CV → Sto → Prop} (h : RP r ok ex) (h1 : ∀ a s, ok a s → ok' a s) (h2 : ∀ c v s, ex c v s → ex' c v s) : RP r ok' ex' := by
  cases r with
  | ok a s => exact h1 a s h
  | exc c v s => exact h2 c v s h
  | err => exact h
theorem RP.ofO {α : Type} {o : Option α} {s : Sto} {ok : α → Sto → Prop} {ex : Nat → CV → Sto → Prop} (h : RP (ofO o s) ok ex) : ∃ a, o = some a ∧ ok a s := by
  cases o with
  | none => exact h.elim
  | some a => exact ⟨a, rfl, h⟩

/-- the state: store and names as they lie -/
structure Sit (G : Wd) (κ : Addr → Prop) (ρ : List Addr) (st : Sto) (env : Env) (σ : L2.St) (H : Hp) : Prop where
  rel : HRel G κ ρ st H
  len : σ.length = env.length
  sl : ∀ i v, getV env i = some v → ∃ x, σ[i]? = some (some x) ∧ RepV G ρ (Live κ ρ st) H v x
section
variable {G : Wd} {κ : Addr → Prop} {ρ ρ1 : List Addr} {st s1 : Sto} {env : Env} {σ : L2.St} {H H1 : Hp}
theorem Sit.ext (S : Sit G κ ρ st env σ H) (R : HRel G κ ρ1 s1 H1) (e : Ext κ ρ st H ρ1 s1 H1) : Sit G κ ρ1 s1 env σ H1 :=
  ⟨R, S.len, fun i v h => let ⟨x, h1, h2⟩ := S.sl i v h; ⟨x, h1, h2.ext e⟩⟩
/-- what is wanted of an exception -/
def XP (G : Wd) (W : WX) (σ : L2.St) (κ : Addr → Prop) (ρ : List Addr) (st : Sto) (H : Hp) (c : Nat) (v : CV) (st' : Sto) : Prop :=
  ∀ (x : V) (ρ' : List Addr) (H' : Hp) (d : Addr), HRel G κ ρ' st' H' → Ext κ ρ st H ρ' st' H' → RepV G ρ' (Live κ ρ' st') H' v x → H' d = some (.xd [(("value" : Str), x)]) → W (.ref (G.ca c)) (some d) σ H'
theorem XP.mono {W : WX} {c : Nat} {v : CV} {st' : Sto} (e : Ext κ ρ st H ρ1 s1 H1) (h : XP G W σ κ ρ st H c v st') : XP G W σ κ ρ1 s1 H1 c v st' :=
  fun x ρ' H' d R E r hd => h x ρ' H' d R (e.trans E) r hd
theorem Post.mono {v : CV} {st' : Sto} {Q : VK} (e : Ext κ ρ st H ρ1 s1 H1) (h : Post G κ ρ st H v st' Q) : Post G κ ρ1 s1 H1 v st' Q :=
  fun x ρ' H' R E r => h x ρ' H' R (e.trans E) r
/-- what follows an expression's value -/
def BP (G : Wd) (bx : Bool) (κ : Addr → Prop) (ρ : List Addr) (st : Sto) (H : Hp) (Q : VK) (v : CV) (st' : Sto) : Prop := match bx with
  | false => Post G κ ρ st H v st' Q
  | true => match boxed v st' with
    | some (w, s2) => Post G κ ρ st H w s2 Q
    | none => False
theorem BP.mono {bx : Bool} {v : CV} {st' : Sto} {Q : VK} (e : Ext κ ρ st H ρ1 s1 H1) (h : BP G bx κ ρ st H Q v st') : BP G bx κ ρ1 s1 H1 Q v st' := by
  cases bx with
  | false => exact Post.mono e h
  | true =>
    unfold BP at h ⊢
    dsimp only at h ⊢
    split at h
    · exact Post.mono e h
    · exact h
theorem BP.vp {bx : Bool} {v : CV} {Q : VK} (h : BP G bx κ ρ st H Q v st) : VP G bx κ ρ st H v Q := h
/-- .. a list of values -/
def LP (G : Wd) (κ : Addr → Prop) (ρ : List Addr) (st : Sto) (H : Hp) (Q : List V → Hp → Prop) (vs : List CV) (st' : Sto) : Prop :=
  ∀ (xs : List V) (ρ' : List Addr) (H' : Hp), HRel G κ ρ' st' H' → Ext κ ρ st H ρ' st' H' → RepVs G ρ' (Live κ ρ' st') H' vs xs → Q xs H'
theorem LP.mono {vs : List CV} {st' : Sto} {Q : List V → Hp → Prop} (e : Ext κ ρ st H ρ1 s1 H1) (h : LP G κ ρ st H Q vs st') : LP G κ ρ1 s1 H1 Q vs st' :=
  fun x ρ' H' R E r => h x ρ' H' R (e.trans E) r
end

/-! ### readings -/
section
variable (P : Prog) (F : Fns) (G : Wd) (W : WX)
def tE (bx : Bool) (e : CE) : TE := fun σ H Q => ∃ κ ρ st env, Sit G κ ρ st env σ H ∧ RP (evE P F e env st) (BP G bx κ ρ st H Q) (XP G W σ κ ρ st H)
def tT (e : CE) : TT := tB (tE P F G W false e)
def tEs (es : CEs) : TA := fun σ H Q => ∃ κ ρ st env, Sit G κ ρ st env σ H ∧ RP (evEs P F es env st) (LP G κ ρ st H Q) (XP G W σ κ ρ st H)
end
section
variable {P : Prog} {F : Fns} {G : Wd} {W : WX} {κ : Addr → Prop} {ρ : List Addr} {st : Sto} {env : Env} {σ : L2.St} {H : Hp}
theorem RP.eqn {α : Type} {r : R α} {ok : α → Sto → Prop} {ex : Nat → CV → Sto → Prop} (h : RP r ok ex) : RP r (fun a s => r = .ok a s ∧ ok a s) ex := by
  cases r with
  | ok a s => exact ⟨rfl, h⟩
  | exc c v s => exact h
  | err => exact h
/-- a step: the expression ahead -/
theorem stepR {α β : Type} {r : R α} {f : α → Sto → R β} {ok : β → Sto → Prop} {ex : Nat → CV → Sto → Prop} (h : RP (r.bind f) ok ex) : RP r (fun a s => RP (f a s) ok ex) ex := by
  cases r with
  | ok a s => exact h
  | exc c v s => exact h
  | err => exact h
theorem stepE {β : Type} {a : CE} {f : CV → Sto → R β} {OK : List Addr → Sto → Hp → β → Sto → Prop} {Q : VK} (mono : ∀ {ρ1 s1 H1 b s}, Ext κ ρ st H ρ1 s1 H1 → OK ρ st H b s → OK ρ1 s1 H1 b s)
    (S : Sit G κ ρ st env σ H) (h : RP ((evE P F a env st).bind f) (OK ρ st H) (XP G W σ κ ρ st H))
    (k : ∀ v s1 x ρ1 H1, evE P F a env st = .ok v s1 → Sit G κ ρ1 s1 env σ H1 → Ext κ ρ st H ρ1 s1 H1 → RepV G ρ1 (Live κ ρ1 s1) H1 v x → RP (f v s1) (OK ρ1 s1 H1) (XP G W σ κ ρ1 s1 H1) → Q x H1) : tE P F G W false a σ H Q := by
  refine ⟨κ, ρ, st, env, S, (stepR h).eqn.imp (fun v s1 hv x ρ1 H1 R E r => ?_) fun _ _ _ h => h⟩
  obtain ⟨eq, hv⟩ := hv
  exact k v s1 x ρ1 H1 eq (S.ext R E) E r (hv.imp (fun _ _ => mono E) fun _ _ _ => XP.mono E)
theorem stepEs {β : Type} {a : CEs} {f : List CV → Sto → R β} {OK : List Addr → Sto → Hp → β → Sto → Prop} {Q : List V → Hp → Prop} (mono : ∀ {ρ1 s1 H1 b s}, Ext κ ρ st H ρ1 s1 H1 → OK ρ st H b s → OK ρ1 s1 H1 b s)
    (S : Sit G κ ρ st env σ H) (h : RP ((evEs P F a env st).bind f) (OK ρ st H) (XP G W σ κ ρ st H))
    (k : ∀ vs s1 xs ρ1 H1, evEs P F a env st = .ok vs s1 → Sit G κ ρ1 s1 env σ H1 → Ext κ ρ st H ρ1 s1 H1 → RepVs G ρ1 (Live κ ρ1 s1) H1 vs xs → RP (f vs s1) (OK ρ1 s1 H1) (XP G W σ κ ρ1 s1 H1) → Q xs H1) : tEs P F G W a σ H Q := by
  refine ⟨κ, ρ, st, env, S, (stepR h).eqn.imp (fun v s1 hv x ρ1 H1 R E r => ?_) fun _ _ _ h => h⟩
  obtain ⟨eq, hv⟩ := hv
  exact k v s1 x ρ1 H1 eq (S.ext R E) E r (hv.imp (fun _ _ => mono E) fun _ _ _ => XP.mono E)
end
theorem _root_.L2.PE.imp {X : Cx} {e : Expr} {t t' : TE} (h : PE X e t) (w : ∀ σ H Q, t' σ H Q → t σ H Q) : PE X e t' := ⟨fun pins s σ H Q I q => h.run pins s σ H Q I (w σ H Q q)⟩
theorem _root_.L2.PT.imp {X : Cx} {e : Expr} {t t' : TT} (h : PT X e t) (w : ∀ σ H Q, t' σ H Q → t σ H Q) : PT X e t' := ⟨fun pins s σ H Q I q => h.run pins s σ H Q I (w σ H Q q)⟩
theorem _root_.L2.PW.imp {X : Cx} {e : Expr} {t t' : TT} (h : PW X e t) (w : ∀ σ H Q, t' σ H Q → t σ H Q) : PW X e t' := ⟨fun wh pins s σ H Q I q => h.run wh pins s σ H Q I (w σ H Q q)⟩
theorem _root_.L2.PA.imp {X : Cx} {e : List Expr} {t t' : TA} (h : PA X e t) (w : ∀ σ H Q, t' σ H Q → t σ H Q) : PA X e t' := ⟨fun pos pins s σ H Q I q => h.run pos pins s σ H Q I (w σ H Q q)⟩
theorem _root_.L2.PE.any {ι : Sort _} {X : Cx} {e : Expr} {p : ι → Prop} {t : ι → TE} (h : ∀ i, p i → PE X e (t i)) : PE X e (fun σ H Q => ∃ i, p i ∧ t i σ H Q) :=
  ⟨fun pins s σ H Q I ⟨i, hi, q⟩ => (h i hi).run pins s σ H Q I q⟩

/-! ### surroundings -/
/-- kinds of values, by isinstance -/
def Ity.v (G : Wd) : Ity → Value
  | .int => .type "int" | .bool => .type "bool" | .str => .type "str" | .tuple => .type "tuple" | .list => .type "list" | .dict => .type "dict" | .cls c => .ref (G.ca c)
def kdV (G : Wd) : Option Ity → Value
  | none => .type "NoneType"
  | some t => t.v G
/-- what a def promises -/
def fnSp (G : Wd) (F : Fns) (f ar : Nat) : Sp := fun vs H Q E => vs.length = ar ∧ ∃ κ ρ st as, HRel G κ ρ st H ∧ RepVs G ρ (Live κ ρ st) H as vs ∧
  RP (F f as st) (BP G false κ ρ st H Q) (fun c v st' => ∀ (x : V) (ρ' : List Addr) (H' : Hp) (d : Addr), HRel G κ ρ' st' H' → Ext κ ρ st H ρ' st' H' → RepV G ρ' (Live κ ρ' st') H' v x → H' d = some (.xd [(("value" : Str), x)]) → E (.ref (G.ca c)) (some d) H')
structure Fix (prog : Program) (w : World) (K : PySem.W.Frag) (mg : Str → Option Value) (base : Heap) (CX : CXT) (P : Prog) (F : Fns) (G : Wd) (k : Nat) : Prop where
  kK : K = G.K
  cx0 : ∀ outer H s u s', ¬ CX outer H s (fun _ _ _ => False) u s'
  ainj : ∀ f g, G.an f = G.an g → f = g
  an : ∀ (f : Nat) x, P.attrs[f]? = some x → G.an f = SS x
  gl : ∀ (i : Nat) x v, P.globs[i]? = some (x, v) → ∃ u xv, mg (SS x) = some u ∧ RelV xv u ∧ ∀ ρ L H, RepV G ρ L H v xv
  blt : ∀ x : String, x ∈ bltNames → mg (Str.ofString x) = none
  fn : ∀ (f : Nat) d, P.fns[f]? = some d → FnOk prog w K mg base CX k (G.fa f) (G.fd f) (G.ps f) (fnSp G F f d.arity) ∧ PySem.W.keepIn K (.ref (G.fa f)) = true ∧ (G.ps f).length = d.arity ∧ (d.name ≠ [] → mg (SS d.name) = some (.ref (G.fa f))) ∧
    ∀ j, j ≤ d.dfl.length → ∃ ds dvs, Binds K (G.fd f) (G.ps f) ds ∧ Vals dvs ds ∧ ∀ ρ L H, RepVs G ρ L H (d.dfl.drop j) dvs
  fill : ∀ f as st, RP (F f as st) (fun _ _ => True) (fun _ _ _ => True) → ∃ d full, P.fns[f]? = some d ∧ fillArgs d as = some full ∧ F f as st = F f full st
  cls : ∀ (c : Nat) i, P.clss[c]? = some i → Cls K (G.ca c) ∧ (i.name ≠ [] → mg (SS i.name) = some (.ref (G.ca c))) ∧
    (PySem.W.findIn K (.ref (G.ca c)) "__class__" = some (some (.builtin "object.__class__")) ∧ PySem.W.mroIn K (G.ca c) (.type "object") = some true) ∧
    (∀ f, f ∈ i.flds → NoAttr K (G.ca c) (G.an f)) ∧ (∀ m g, i.meths.lookup m = some g → Meth K (G.ca c) (G.an m) (G.fa g) ∧ ∃ d, P.fns[g]? = some d) ∧
    (∀ m g, i.props.lookup m = some g → ∃ p, PropOf K (G.ca c) (G.an m) p (G.fa g)) ∧ ∀ g, i.init = some g → Mk K (G.ca c) (G.fa g) ∧ ∃ d, P.fns[g]? = some d
  cget : PySem.W.specialIn K (.builtin "object.__class__") "__get__" = some (some (.builtin "getset_descriptor.__get__")) ∧ PySem.W.takesIn K (.builtin "object.__class__") = some true
  kit : ∀ (a : Option Ity) (t : Ity), (∀ c, a = some (.cls c) → c < P.clss.length) → (∀ c, t = .cls c → c < P.clss.length) → PySem.W.kitOne K (kdV G a) (t.v G) = some (kdIs P a t)
/-- the names about a code -/
structure Cst where
  N : List Str
  sc : Scope
  /-- a def's own body -/
  top : Bool
/-- a scope as a block may see it: what is free may be a cell -/
structure ScR (a b : Scope) : Prop where
  loc : ∀ x, a.names.lookup x = some .local → b.names.lookup x = some .local
  gl : ∀ x, a.names.lookup x = some .globalImplicit → b.names.lookup x = some .globalImplicit
  cell : ∀ x, a.names.lookup x = some .cell → b.names.lookup x = some .cell
  free : ∀ x, a.names.lookup x = some .free → b.names.lookup x = some .cell ∨ b.names.lookup x = some .free
theorem ScR.refl (a : Scope) : ScR a a := ⟨fun _ h => h, fun _ h => h, fun _ h => h, fun _ h => .inr h⟩
structure Okay (CX : CXT) (P : Prog) (F : Fns) (G : Wd) (k : Nat) (S : Cst) (W : WX) (X : Cx) : Prop where
  fix : Fix X.prog X.w X.K X.mg X.base CX P F G k
  calm : X.calm = true
  N : X.N = S.N
  nd : X.N.Nodup
  sc : ScR S.sc X.env.scope
  fn : S.top = true → ∀ x, X.fn x = true
  room : Room (k + 1) X.A
  pass : ∀ σ, PassesAt CX X σ (fun c d H => W c d σ H)
  own : S.top = true → PassesOwn (model X.prog X.w) X.A X.env X.xe
theorem Okay.hK {CX : CXT} {P : Prog} {F : Fns} {G : Wd} {k : Nat} {S : Cst} {W : WX} {X : Cx} (g : Okay CX P F G k S W X) : X.K = G.K := g.fix.kK
theorem Okay.un {CX : CXT} {P : Prog} {F : Fns} {G : Wd} {k : Nat} {S : Cst} {W : WX} {X : Cx} (g : Okay CX P F G k S W X) : X.A.units + 64 < cLine := by
  have := g.room.un
  omega
end MP
end MPh_text

section MPi_text
set_option Elab.async false
set_option linter.all false
set_option maxRecDepth 100000
/-! The given syntax held against the small Python's. -/
namespace MP
open PySem PySem.Spec PyProof.Rows L2

/-! ### names -/
def okVar (S : Cst) (i : Nat) (x : Str) : Bool := decide (S.N[i]? = some x) && (decide (S.sc.names.lookup x = some .local) || decide (S.sc.names.lookup x = some .cell) || decide (S.sc.names.lookup x = some .free)) && (!(x == ("__debug__" : Str)) && !(x == ("__classdict__" : Str)))
def okGl (S : Cst) (x : Str) : Bool := decide (S.sc.names.lookup x = some .globalImplicit) && (!(x == ("__debug__" : Str)) && decide (x ≠ "__name__"))
def okLoc (S : Cst) (i : Nat) (x : Str) : Bool := decide (S.N[i]? = some x) && (decide (S.sc.names.lookup x = some .local) || (S.top && decide (S.sc.names.lookup x = some .cell)))
def okBlt (S : Cst) (x : Str) (n : String) : Bool := decide (x = Str.ofString n) && (okGl S x && bltNames.contains n)
def plainE : Expr → Bool
  | .Starred .. => false
  | _ => true
def noSlice : Expr → Bool
  | .Slice .. => false
  | _ => true
/-- no set is displayed -/
def noSet : Expr → Bool
  | .Set .. => false
  | _ => true
/-- super() apart -/
def noCall0 : Expr → Bool
  | .Call (.Name _ _) [] [] _ => false
  | _ => true
theorem star_plain {e : Expr} {es : List Expr} {env : PySem.Env} (h : plainE e = true) : starEach (e :: es) env = (false, eval e env) :: starEach es env := by
  cases e <;> first | rfl | cases h
theorem attr_plain {e : Expr} {f : Str} {env : PySem.Env} (h : noCall0 e = true) : attributeBase e f env (eval e env) = eval e env := by
  cases e with
  | Call f args kws pos =>
    cases f with
    | Name x p =>
      cases args with
      | nil =>
        cases kws with
        | nil => cases h
        | cons k ks => rfl
      | cons a as => rfl
    | _ => rfl
  | _ => rfl
theorem sub_plain {e : Expr} (h : noSlice e = true) : ∀ o i, subscripted e false o i = operate [o, i] (getItem o i) := by
  intro o i
  cases e <;> first | rfl | cases h
theorem mark_plain {e : Expr} {op : CmpOp} (h : noSet e = true) : behindInMarks op e = false := by
  cases e <;> first | rfl | cases h
theorem fold_plain {e : Expr} {env : PySem.Env} (h : noSet e = true) (x : Value) : foldedSetIterable e env x = pure x := by
  cases e <;> first | rfl | cases h
section
variable {CX : CXT} {P : Prog} {F : Fns} {G : Wd} {k : Nat} {S : Cst} {W : WX} {X : Cx}
theorem Okay.vis (g : Okay CX P F G k S W X) {i : Nat} {x : Str} (h : okVar S i x = true) : X.N[i]? = some x ∧ Vis X.env.scope x ∧ (x == ("__debug__" : Str)) = false ∧ (x == ("__classdict__" : Str)) = false := by
  unfold okVar at h
  simp only [Bool.and_eq_true, Bool.or_eq_true, decide_eq_true_eq, Bool.not_eq_true'] at h
  obtain ⟨⟨h1, h2⟩, h3, h4⟩ := h
  refine ⟨by rw [g.N]; exact h1, ?_, h3, h4⟩
  rcases h2 with (h2 | h2) | h2
  · exact .inl (g.sc.loc x h2)
  · exact .inr (.inl (g.sc.cell x h2))
  · exact .inr (g.sc.free x h2)
theorem Okay.gl (g : Okay CX P F G k S W X) {x : Str} (h : okGl S x = true) : Gl X x ∧ (x == ("__debug__" : Str)) = false ∧ x ≠ "__name__" := by
  unfold okGl at h
  simp only [Bool.and_eq_true, decide_eq_true_eq, Bool.not_eq_true'] at h
  obtain ⟨h1, h2, h3⟩ := h
  refine ⟨?_, h2, h3⟩
  show X.env.scope.names.lookup x = _
  exact g.sc.gl x h1
theorem Okay.blt (g : Okay CX P F G k S W X) {x : Str} {n : String} (h : okBlt S x n = true) : x = Str.ofString n ∧ Gl X x ∧ X.mg x = none ∧ (x == ("__debug__" : Str)) = false ∧ x ≠ "__name__" := by
  unfold okBlt at h
  simp only [Bool.and_eq_true, decide_eq_true_eq] at h
  obtain ⟨h1, h2, h3⟩ := h
  obtain ⟨g1, g2, g3⟩ := g.gl h2
  refine ⟨h1, g1, ?_, g2, g3⟩
  rw [h1]
  exact g.fix.blt n (by simpa using h3)
theorem Okay.loc (g : Okay CX P F G k S W X) {i : Nat} {x : Str} (h : okLoc S i x = true) : X.N[i]? = some x ∧ Loc X.env.scope x ∧ (X.fn x = true ∨ X.env.scope.names.lookup x = some .local) := by
  unfold okLoc at h
  simp only [Bool.and_eq_true, Bool.or_eq_true, decide_eq_true_eq] at h
  obtain ⟨h1, h2⟩ := h
  refine ⟨by rw [g.N]; exact h1, ?_, ?_⟩
  · rcases h2 with h2 | h2
    · exact .inl (g.sc.loc x h2)
    · exact .inr (g.sc.cell x h2.2)
  · rcases h2 with h2 | h2
    · exact .inr (g.sc.loc x h2)
    · exact .inl (g.fn h2.1 x)
end

/-! ### the statement of an expression's soundness -/
/-- new values, that may become places -/
def fresh : CE → Bool
  | .lst _ | .dic _ _ | .comp .. | .comp2 .. | .dcomp .. | .bin .. | .slice .. => true
  | .bfn b _ => match b with
    | .list | .dict | .sorted | .sortset | .rng1 | .rng2 | .litems => true
    | _ => false
  | _ => false
section
variable (CX : CXT) (P : Prog) (F : Fns) (G : Wd) (k : Nat)
def SE (S : Cst) (e : Expr) (c : CE) : Prop := ∀ (X : Cx) (W : WX), Okay CX P F G k S W X → (∀ bx, (bx = true → fresh c = true) → PE X e (tE P F G W bx c)) ∧ PT X e (tB (tE P F G W false c))
def SEs (S : Cst) (es : List Expr) (c : CEs) : Prop := ∀ (X : Cx) (W : WX), Okay CX P F G k S W X → PA X es (tEs P F G W c)
end
section
variable {CX : CXT} {P : Prog} {F : Fns} {G : Wd} {k : Nat} {S : Cst} {W : WX} {X : Cx} {e a b : Expr} {c ca cb : CE} {pos : Pos}
theorem SE.pe (h : SE CX P F G k S e c) (g : Okay CX P F G k S W X) : PE X e (tE P F G W false c) := (h X W g).1 false fun q => by cases q
theorem SE.pt (h : SE CX P F G k S e c) (g : Okay CX P F G k S W X) : PT X e (tB (tE P F G W false c)) := (h X W g).2
/-- an expression whose test is its value's -/
theorem SE.val (he : ∀ (env : PySem.Env) (whole : Sem Value), isTrue e env whole = (do let v ← whole; standAt e.pos; holding [v] (truthy v)))
    (h : ∀ (X : Cx) (W : WX), Okay CX P F G k S W X → ∀ bx, (bx = true → fresh c = true) → PE X e (tE P F G W bx c)) : SE CX P F G k S e c :=
  fun X W g => ⟨h X W g, pt_val (h X W g false fun q => by cases q) (he _)⟩
theorem nofresh {bx : Bool} (h : bx = true → fresh c = true) (n : fresh c = false) : bx = false := by
  cases bx with
  | false => rfl
  | true => rw [h rfl] at n; cases n
/-- what a constant's value tells -/
theorem BP.const {κ : Addr → Prop} {ρ : List Addr} {st : Sto} {H : Hp} {bx : Bool} {Q : VK} {v : CV} {x : V} (R : HRel G κ ρ st H) (h : BP G bx κ ρ st H Q v st) (r : RepV G ρ (Live κ ρ st) H v x) (hv : bx = true → boxed v st = none := by first | (intro _; rfl) | assumption | (intro q; cases q)) : Q x H :=
  VP.here R h.vp r hv
theorem se_non {j : Nat} : SE CX P F G k S (.Constant .none j pos) .non := .val (fun _ _ => rfl) fun X W g bx hb => pe_non.imp fun σ H Q ⟨κ, ρ, st, env, S1, h⟩ => BP.const S1.rel h .non
theorem se_bool {j : Nat} {v : Bool} : SE CX P F G k S (.Constant (.bool v) j pos) (.bool v) := .val (fun _ _ => rfl) fun X W g bx hb => pe_bl.imp fun σ H Q ⟨κ, ρ, st, env, S1, h⟩ => BP.const S1.rel h (.bl _)
theorem se_int {j : Nat} {v : Int} : SE CX P F G k S (.Constant (.int v) j pos) (.int v) := .val (fun _ _ => rfl) fun X W g bx hb => pe_int.imp fun σ H Q ⟨κ, ρ, st, env, S1, h⟩ => BP.const S1.rel h (.int _)
theorem se_str {j : Nat} {v : List Nat} : SE CX P F G k S (.Constant (.str (SS v)) j pos) (.str v) := .val (fun _ _ => rfl) fun X W g bx hb => pe_str.imp fun σ H Q ⟨κ, ρ, st, env, S1, h⟩ => BP.const S1.rel h (.str _)
theorem se_var {i : Nat} {x : Str} (h : okVar S i x = true) : SE CX P F G k S (.Name x pos) (.var i) := .val (fun _ _ => rfl) fun X W g bx hb => by
  obtain ⟨h1, h2, h3, h4⟩ := g.vis h
  cases nofresh hb rfl
  refine (pe_var h1 h2 h3 h4).imp fun σ H Q ⟨κ, ρ, st, env, S1, h⟩ => ?_
  obtain ⟨v, e1, h⟩ := RP.ofO h
  obtain ⟨y, e2, r⟩ := S1.sl i v e1
  exact ⟨y, e2, BP.const (bx := false) S1.rel h r⟩
theorem se_glob {i : Nat} {n : List Nat} {v : CV} (hi : P.globs[i]? = some (n, v)) (h : okGl S (SS n) = true) : SE CX P F G k S (.Name (SS n) pos) (.glob i) := .val (fun _ _ => rfl) fun X W g bx hb => by
  obtain ⟨h1, h2, h3⟩ := g.gl h
  cases nofresh hb rfl
  obtain ⟨u, xv, m, r, rv⟩ := g.fix.gl i n v hi
  refine (pe_glob h1 m r h2).imp fun σ H Q ⟨κ, ρ, st, env, S1, h⟩ => ?_
  have h : RP (ofO (P.globs[i]?.map (·.2)) st) (BP G false κ ρ st H Q) (XP G W σ κ ρ st H) := h
  rw [hi] at h
  exact BP.const (bx := false) S1.rel (show BP G false κ ρ st H Q v st from h) (rv _ _ _)
theorem se_bin {o : Bop} (ha : SE CX P F G k S a ca) (hb : SE CX P F G k S b cb) : SE CX P F G k S (.BinOp a o.op b pos) (.bin o ca cb) := .val (fun _ _ => rfl) fun X W g bx _ => by
  refine (pe_op (op_bin (bx := bx) g.hK o) (ha.pe g) (hb.pe g)).imp fun σ H Q ⟨κ, ρ, st, env, S1, h⟩ => ?_
  refine stepE (OK := fun ρ st H => BP G bx κ ρ st H Q) BP.mono S1 h fun x s1 xv ρ1 H1 _ S2 E2 r1 h => ?_
  refine stepE (OK := fun ρ st H => BP G bx κ ρ st H Q) BP.mono S2 h fun y s2 yv ρ2 H2 _ S3 E3 r2 h => ?_
  obtain ⟨z, hz, h⟩ := RP.ofO h
  exact ⟨κ, ρ2, s2, x, y, z, S3.rel, r1.ext E3, r2, hz, h.vp⟩
theorem se_neg (ha : SE CX P F G k S a ca) : SE CX P F G k S (.UnaryOp .USub a pos) (.neg ca) := .val (fun _ _ => rfl) fun X W g bx hb => by
  cases nofresh hb rfl
  refine (pe_un un_neg (ha.pe g)).imp fun σ H Q ⟨κ, ρ, st, env, S1, h⟩ => ?_
  refine stepE (OK := fun ρ st H => BP G false κ ρ st H Q) BP.mono S1 h fun x s1 xv ρ1 H1 _ S2 E2 r1 h => ?_
  cases x with
  | int i => cases r1; exact ⟨i, rfl, BP.const (bx := false) (v := .int (-i)) S2.rel h (.int _)⟩
  | _ => exact h.elim
theorem se_not (ha : SE CX P F G k S a ca) : SE CX P F G k S (.UnaryOp .Not a pos) (.not ca) := fun X W g => by
  refine ⟨fun bx hb => ?_, ?_⟩
  · cases nofresh hb rfl
    refine (pe_not (ha.pe g)).imp fun σ H Q ⟨κ, ρ, st, env, S1, h⟩ => ?_
    refine stepE (OK := fun ρ st H => BP G false κ ρ st H Q) BP.mono S1 h fun x s1 xv ρ1 H1 _ S2 E2 r1 h => ?_
    cases x with
    | bl i => cases r1; exact ⟨i, rfl, BP.const (bx := false) (v := .bl (!i)) S2.rel h (.bl _)⟩
    | _ => exact h.elim
  · refine (pt_not (ha.pt g)).imp fun σ H Q ⟨κ, ρ, st, env, S1, h⟩ => ?_
    refine stepE (OK := fun ρ st H => BP G false κ ρ st H (fun x H1 => ∃ c, x = .bl c ∧ Q c H1)) BP.mono S1 h fun x s1 xv ρ1 H1 _ S2 E2 r1 h => ?_
    cases x with
    | bl i =>
      cases r1
      obtain ⟨c, e, q⟩ := BP.const (bx := false) (Q := fun x H1 => ∃ c, x = .bl c ∧ Q c H1) (v := .bl (!i)) S2.rel h (.bl _)
      cases e
      exact ⟨i, rfl, q⟩
    | _ => exact h.elim
theorem se_cmp {o : Cop} (ha : SE CX P F G k S a ca) (hb : SE CX P F G k S b cb) (hs : noSet b = true) : SE CX P F G k S (.Compare a [o.op] [b] pos) (.cmp o ca cb) := fun X W g => by
  have key : ∀ σ H Q, tE P F G W false (.cmp o ca cb) σ H Q → tOp (rCmp G o) (tE P F G W false ca) (tE P F G W false cb) σ H Q := fun σ H Q ⟨κ, ρ, st, env, S1, h⟩ => by
    refine stepE (OK := fun ρ st H => BP G false κ ρ st H Q) BP.mono S1 h fun x s1 xv ρ1 H1 _ S2 E2 r1 h => ?_
    refine stepE (OK := fun ρ st H => BP G false κ ρ st H Q) BP.mono S2 h fun y s2 yv ρ2 H2 _ S3 E3 r2 h => ?_
    obtain ⟨z, hz, h⟩ := RP.ofO h
    obtain ⟨d, e1, rfl⟩ := Option.map_eq_some_iff.mp hz
    exact ⟨κ, ρ2, s2, x, y, d, S3.rel, r1.ext E3, r2, e1, BP.const S3.rel h (.bl _)⟩
  refine ⟨fun bx hb' => ?_, ?_⟩
  · cases nofresh hb' rfl
    exact (pe_cmpR (op_cmpC g.hK g.un o) (ha.pe g) (hb.pe g) (mark_plain hs)).imp key
  · exact (pt_cmpR (op_cmpC g.hK g.un o) (ha.pe g) (hb.pe g) (mark_plain hs)).imp fun σ H Q h => key σ H _ h
theorem se_chain {o p : Cop} {d : Expr} {cd : CE} (ha : SE CX P F G k S a ca) (hb : SE CX P F G k S b cb) (hd : SE CX P F G k S d cd) (hs : noSet d = true) : SE CX P F G k S (.Compare a [o.op, p.op] [b, d] pos) (.chain o p ca cb cd) := fun X W g => by
  have hm : lastMarks [o.op, p.op] [b, d] = false := mark_plain hs
  have key : ∀ σ H Q, tE P F G W false (.chain o p ca cb cd) σ H Q → tChain (rCmp G o) (rCmp G p) (tE P F G W false ca) (tE P F G W false cb) (tE P F G W false cd) σ H Q := fun σ H Q ⟨κ, ρ, st, env, S1, h⟩ => by
    refine stepE (OK := fun ρ st H => BP G false κ ρ st H Q) BP.mono S1 h fun x s1 xv ρ1 H1 _ S2 E2 r1 h => ?_
    refine stepE (OK := fun ρ st H => BP G false κ ρ st H Q) BP.mono S2 h fun y s2 yv ρ2 H2 _ S3 E3 r2 h => ?_
    cases hc : cmpop s2 o x y with
    | none => rw [hc] at h; exact h.elim
    | some t =>
      rw [hc] at h
      refine ⟨κ, ρ2, s2, x, y, t, S3.rel, r1.ext E3, r2, hc, t, rfl, ?_⟩
      cases t with
      | false =>
        rw [if_neg (by decide)]
        exact BP.const S3.rel (show BP G false κ ρ2 s2 H2 Q (.bl false) s2 from h) (.bl _)
      | true =>
        rw [if_pos rfl]
        refine stepE (OK := fun ρ st H => BP G false κ ρ st H Q) BP.mono S3 h fun z s3 zv ρ3 H3 _ S4 E4 r3 h => ?_
        obtain ⟨q, hz, h⟩ := RP.ofO h
        obtain ⟨e, e1, rfl⟩ := Option.map_eq_some_iff.mp hz
        exact ⟨κ, ρ3, s3, y, z, e, S4.rel, r2.ext E4, r3, e1, BP.const S4.rel h (.bl _)⟩
  refine ⟨fun bx hb' => ?_, ?_⟩
  · cases nofresh hb' rfl
    exact (pe_chain (op_cmpC g.hK g.un o) (op_cmpC g.hK g.un p) (ha.pe g) (hb.pe g) (hd.pe g) hm).imp key
  · exact (pt_chain (op_cmpC g.hK g.un o) (op_cmpC g.hK g.un p) (ha.pe g) (hb.pe g) (hd.pe g) hm).imp fun σ H Q h => key σ H _ h
/-- is None, is not None -/
theorem isN_key {neg : Bool} {σ : L2.St} {H : Hp} {Q : VK} (q : tE P F G W false (.isc neg none ca) σ H Q) : tE P F G W false ca σ H fun x H1 => Q (.bl (if neg then !decide (x = .non) else decide (x = .non))) H1 := by
  obtain ⟨κ, ρ, st, env, S1, h⟩ := q
  refine stepE (OK := fun ρ st H => BP G false κ ρ st H Q) BP.mono S1 h fun x s1 xv ρ1 H1 _ S2 E2 r1 h => ?_
  have q := BP.const (bx := false) (Q := Q) (v := .bl (if x.isNon then !neg else neg)) S2.rel h (.bl _)
  cases r1 <;> cases neg <;> exact q
theorem se_isN (neg : Bool) {j : Nat} {p2 : Pos} (ha : SE CX P F G k S a ca) : SE CX P F G k S (.Compare a [if neg then .IsNot else .Is] [.Constant .none j p2] pos) (.isc neg none ca) := fun X W g => by
  refine ⟨fun bx hb => ?_, ?_⟩
  · cases nofresh hb rfl
    cases neg with
    | false => exact (pe_cmp (pc_isN (ha.pe g)) (mark_plain rfl)).imp fun σ H Q h => isN_key h
    | true => exact (pe_cmp (pc_notN (ha.pe g)) (mark_plain rfl)).imp fun σ H Q h => isN_key h
  · cases neg with
    | false => exact (pt_cmp (pc_isN (ha.pe g)) (mark_plain rfl)).imp fun σ H Q h => isN_key h
    | true => exact (pt_cmp (pc_notN (ha.pe g)) (mark_plain rfl)).imp fun σ H Q h => isN_key h
end
end MP
end MPi_text

section MPib_text
set_option Elab.async false
set_option linter.all false
set_option maxRecDepth 100000
/-! is True, is not False. -/
namespace MP
open PySem PySem.Spec PyProof.Rows L2
section
variable {CX : CXT} {P : Prog} {F : Fns} {G : Wd} {k : Nat} {S : Cst} {W : WX} {X : Cx} {a : Expr} {ca : CE} {pos : Pos}
theorem se_isB (neg b : Bool) {j : Nat} {p2 : Pos} (ha : SE CX P F G k S a ca) : SE CX P F G k S (.Compare a [if neg then .IsNot else .Is] [.Constant (.bool b) j p2] pos) (.isc neg (some b) ca) := fun X W g => by
  have key : ∀ σ H Q, tE P F G W false (.isc neg (some b) ca) σ H Q → tOp (fun x y H Q => ∃ a c, x = .bl a ∧ y = .bl c ∧ Q (.bl (if neg then !decide (a = c) else decide (a = c))) H) (tE P F G W false ca) (tE P F G W false (.bool b)) σ H Q := fun σ H Q ⟨κ, ρ, st, env, S1, h⟩ => by
    refine stepE (OK := fun ρ st H => BP G false κ ρ st H Q) BP.mono S1 h fun x s1 xv ρ1 H1 _ S2 E2 r1 h => ?_
    refine ⟨κ, ρ1, s1, env, S2, ?_⟩
    show Post G κ ρ1 s1 H1 (.bl b) s1 _
    intro y ρ2 H2 R2 E3 r2
    cases r2
    cases x with
    | bl c =>
      cases r1
      refine ⟨c, b, rfl, rfl, ?_⟩
      have q := BP.const (bx := false) (Q := Q) R2 (BP.mono E3 (show BP G false κ ρ1 s1 H1 Q (.bl (if b = c then !neg else neg)) s1 from h)) (.bl _)
      by_cases e : c = b
      · subst e
        cases neg <;> simpa using q
      · have e2 : ¬ b = c := fun z => e z.symm
        cases neg <;> simpa [e, e2] using q
    | _ => exact h.elim
  have hb : SE CX P F G k S (.Constant (.bool b) j p2) (.bool b) := se_bool
  refine ⟨fun bx hx => ?_, ?_⟩
  · cases nofresh hx rfl
    cases neg with
    | false => exact (pe_cmpR op_is_bl (ha.pe g) (hb.pe g) (mark_plain rfl)).imp key
    | true => exact (pe_cmpR op_isnot_bl (ha.pe g) (hb.pe g) (mark_plain rfl)).imp key
  · cases neg with
    | false => exact (pt_cmpR op_is_bl (ha.pe g) (hb.pe g) (mark_plain rfl)).imp fun σ H Q h => key σ H _ h
    | true => exact (pt_cmpR op_isnot_bl (ha.pe g) (hb.pe g) (mark_plain rfl)).imp fun σ H Q h => key σ H _ h
end
end MP
end MPib_text

section MPj_text
set_option Elab.async false
set_option linter.all false
set_option maxRecDepth 100000
/-! Expressions, further ones. -/
namespace MP
open PySem PySem.Spec PyProof.Rows L2
section
variable {CX : CXT} {P : Prog} {F : Fns} {G : Wd} {k : Nat} {S : Cst} {W : WX} {X : Cx} {e a b d : Expr} {c ca cb cd : CE} {pos : Pos}

/-! ### and, or, if -/
def bop (isAnd : Bool) : BoolOp := if isAnd then .And else .Or
theorem se_bool1 {isAnd f : Bool} (ha : SE CX P F G k S a ca) : SE CX P F G k S (.BoolOp (bop isAnd) [a] pos) (.bools isAnd (.cons f ca .nil)) := fun X W g => by
  have key : ∀ σ H Q, tE P F G W false (.bools isAnd (.cons f ca .nil)) σ H Q → tE P F G W false ca σ H Q := fun σ H Q ⟨κ, ρ, st, env, S1, h⟩ => ⟨κ, ρ, st, env, S1, h⟩
  refine ⟨fun bx hb => ?_, ?_⟩
  · cases nofresh hb rfl
    exact (pe_one (ha.pe g)).imp key
  · refine PT.imp ?_ fun σ H Q h => key σ H _ h
    cases isAnd with
    | true => exact (pw_and1 (ha.pt g)).pt
    | false => exact (pw_or1 (ha.pt g)).pt
theorem bool_whole {op : BoolOp} {es : List Expr} {t : TT} (h : PT X (.BoolOp op es pos) t) : PW X (.BoolOp op es pos) t := ⟨fun _ pins s σ H Q I q => h.run pins s σ H Q I q⟩
theorem se_bool2 {isAnd f f' : Bool} {r : List Expr} {cr : CEs} (ha : SE CX P F G k S a ca) (hr : SE CX P F G k S (.BoolOp (bop isAnd) (b :: r) pos) (.bools isAnd (.cons f cb cr))) :
    SE CX P F G k S (.BoolOp (bop isAnd) (a :: b :: r) pos) (.bools isAnd (.cons f' ca (.cons f cb cr))) := fun X W g => by
  have key : ∀ σ H Q, tE P F G W false (.bools isAnd (.cons f' ca (.cons f cb cr))) σ H Q → tE P F G W false ca σ H fun x H1 => ∃ c, x = .bl c ∧ if c = isAnd then tE P F G W false (.bools isAnd (.cons f cb cr)) σ H1 Q else Q (.bl (!isAnd)) H1 := fun σ H Q ⟨κ, ρ, st, env, S1, h⟩ => by
    refine stepE (OK := fun ρ st H => BP G false κ ρ st H Q) BP.mono S1 h fun x s1 xv ρ1 H1 _ S2 E2 r1 h => ?_
    cases x with
    | bl i =>
      cases r1
      refine ⟨i, rfl, ?_⟩
      by_cases hi : i = isAnd
      · rw [if_pos hi]
        have h : RP (if i = isAnd then evB P F isAnd (.cons f cb cr) env s1 else .ok (.bl i) s1) (BP G false κ ρ1 s1 H1 Q) (XP G W σ κ ρ1 s1 H1) := h
        rw [if_pos hi] at h
        exact ⟨κ, ρ1, s1, env, S2, h⟩
      · rw [if_neg hi]
        have h : RP (if i = isAnd then evB P F isAnd (.cons f cb cr) env s1 else .ok (.bl i) s1) (BP G false κ ρ1 s1 H1 Q) (XP G W σ κ ρ1 s1 H1) := h
        rw [if_neg hi] at h
        have e : i = !isAnd := by cases i <;> cases isAnd <;> first | rfl | exact absurd rfl hi
        subst e
        exact BP.const (bx := false) (Q := Q) (v := .bl _) S2.rel h (.bl _)
    | _ => exact h.elim
  refine ⟨fun bx hb => ?_, ?_⟩
  · cases nofresh hb rfl
    cases isAnd with
    | true =>
      refine (pe_and (ha.pe g) (hr.pe g)).imp fun σ H Q h => ?_
      exact key σ H Q h
    | false =>
      refine (pe_or (ha.pe g) (hr.pe g)).imp fun σ H Q h => ?_
      obtain ⟨κ, ρ, st, env, S1, h⟩ := key σ H Q h
      refine ⟨κ, ρ, st, env, S1, h.imp (fun v s1 q x ρ' H' R E r => ?_) fun _ _ _ h => h⟩
      obtain ⟨c, e, q⟩ := q x ρ' H' R E r
      refine ⟨c, e, ?_⟩
      cases c with
      | true => rw [if_pos rfl]; rw [if_neg (by decide)] at q; exact q
      | false => rw [if_neg (by decide)]; rw [if_pos rfl] at q; exact q
  · cases isAnd with
    | true =>
      refine (pw_and (ha.pt g) (bool_whole (hr.pt g))).pt.imp fun σ H Q h => ?_
      obtain ⟨κ, ρ, st, env, S1, h⟩ := key σ H _ h
      refine ⟨κ, ρ, st, env, S1, h.imp (fun v s1 q x ρ' H' R E r => ?_) fun _ _ _ h => h⟩
      obtain ⟨c, e, q⟩ := q x ρ' H' R E r
      refine ⟨c, e, ?_⟩
      cases c with
      | true => rw [if_pos rfl] at q ⊢; exact q
      | false =>
        rw [if_neg (by decide)] at q ⊢
        obtain ⟨c, e, q⟩ := q
        cases e
        exact q
    | false =>
      refine (pw_or (ha.pt g) (bool_whole (hr.pt g))).pt.imp fun σ H Q h => ?_
      obtain ⟨κ, ρ, st, env, S1, h⟩ := key σ H _ h
      refine ⟨κ, ρ, st, env, S1, h.imp (fun v s1 q x ρ' H' R E r => ?_) fun _ _ _ h => h⟩
      obtain ⟨c, e, q⟩ := q x ρ' H' R E r
      refine ⟨c, e, ?_⟩
      cases c with
      | true =>
        rw [if_neg (by decide)] at q
        rw [if_pos rfl]
        obtain ⟨c, e, q⟩ := q
        cases e
        exact q
      | false => rw [if_pos rfl] at q; rw [if_neg (by decide)]; exact q
theorem se_ite (hc : SE CX P F G k S e c) (ha : SE CX P F G k S a ca) (hb : SE CX P F G k S b cb) : SE CX P F G k S (.IfExp e a b pos) (.ite c ca cb) := fun X W g => by
  have key : ∀ σ H Q, tE P F G W false (.ite c ca cb) σ H Q → tB (tE P F G W false c) σ H fun t H1 => if t = true then tE P F G W false ca σ H1 Q else tE P F G W false cb σ H1 Q := fun σ H Q ⟨κ, ρ, st, env, S1, h⟩ => by
    refine stepE (OK := fun ρ st H => BP G false κ ρ st H Q) BP.mono S1 h fun x s1 xv ρ1 H1 _ S2 E2 r1 h => ?_
    cases x with
    | bl i =>
      cases r1
      refine ⟨i, rfl, ?_⟩
      cases i with
      | true => rw [if_pos rfl]; exact ⟨κ, ρ1, s1, env, S2, h⟩
      | false => rw [if_neg (by decide)]; exact ⟨κ, ρ1, s1, env, S2, h⟩
    | _ => exact h.elim
  refine ⟨fun bx hb' => ?_, ?_⟩
  · cases nofresh hb' rfl
    exact (pe_ifExp (hc.pt g) (ha.pe g) (hb.pe g)).imp key
  · refine ⟨fun pins s σ H Q I q => ?_⟩
    refine isTrue_IfExp (thn ((hc.pt g).run pins s σ H _ I (key σ H _ q)) fun t s1 ⟨H1, I1, q1⟩ => ?_)
    cases t with
    | true =>
      rw [if_pos rfl] at q1 ⊢
      exact (ha.pt g).run pins s1 σ H1 Q I1 q1
    | false =>
      rw [if_neg (by decide)] at q1 ⊢
      exact (hb.pt g).run pins s1 σ H1 Q I1 q1

/-! ### items, slices -/
theorem se_idx (ha : SE CX P F G k S a ca) (hb : SE CX P F G k S b cb) (hs : noSlice b = true) : SE CX P F G k S (.Subscript a b pos) (.idx ca cb) := .val (fun _ _ => rfl) fun X W g bx hb' => by
  cases nofresh hb' rfl
  refine (pe_ix (ix_item g.hK g.un) (ha.pe g) (hb.pe g) (sub_plain hs)).imp fun σ H Q ⟨κ, ρ, st, env, S1, h⟩ => ?_
  refine stepE (OK := fun ρ st H => BP G false κ ρ st H Q) BP.mono S1 h fun x s1 xv ρ1 H1 _ S2 E2 r1 h => ?_
  refine stepE (OK := fun ρ st H => BP G false κ ρ st H Q) BP.mono S2 h fun y s2 yv ρ2 H2 _ S3 E3 r2 h => ?_
  obtain ⟨z, hz, h⟩ := RP.ofO h
  exact ⟨κ, ρ2, s2, x, y, z, S3.rel, r1.ext E3, r2, hz, h⟩
/-- a slice's bound -/
def tP (P : Prog) (F : Fns) (G : Wd) (W : WX) (c : CP) : TO := fun σ H Q => ∃ κ ρ st env, Sit G κ ρ st env σ H ∧ RP (evP P F c env st) (fun o st' => ∀ ρ' H', HRel G κ ρ' st' H' → Ext κ ρ st H ρ' st' H' → Q o H') (XP G W σ κ ρ st H)
def SP (CX : CXT) (P : Prog) (F : Fns) (G : Wd) (k : Nat) (S : Cst) (e : Option Expr) (c : CP) : Prop := ∀ (X : Cx) (W : WX), Okay CX P F G k S W X → PO X e (tP P F G W c)
theorem sp_no : SP CX P F G k S none .no := fun X W g => ⟨fun pins s σ H Q I ⟨κ, ρ, st, env, S1, h⟩ => po_none.run pins s σ H Q I (h ρ H S1.rel .refl)⟩
theorem sp_yes (ha : SE CX P F G k S a ca) : SP CX P F G k S (some a) (.yes ca) := fun X W g => ⟨fun pins s σ H Q I ⟨κ, ρ, st, env, S1, h⟩ => (po_some (ha.pe g)).run pins s σ H Q I (by
  have h : RP ((evE P F ca env st).bind fun x s1 => match x with
    | .int i => .ok (some i) s1
    | _ => .err) (fun o st' => ∀ ρ' H', HRel G κ ρ' st' H' → Ext κ ρ st H ρ' st' H' → Q o H') (XP G W σ κ ρ st H) := h
  refine stepE (OK := fun ρ st H o st' => ∀ ρ' H', HRel G κ ρ' st' H' → Ext κ ρ st H ρ' st' H' → Q o H') (fun E q ρ' H' R E' => q ρ' H' R (E.trans E')) S1 h fun x s1 xv ρ1 H1 _ S2 E2 r1 h => ?_
  cases x with
  | int i => cases r1; exact ⟨i, rfl, h ρ1 H1 S2.rel .refl⟩
  | _ => exact h.elim)⟩
theorem stepP {β : Type} {κ : Addr → Prop} {ρ : List Addr} {st : Sto} {env : Env} {σ : L2.St} {H : Hp} {a : CP} {f : Option Int → Sto → R β} {OK : List Addr → Sto → Hp → β → Sto → Prop} {Q : Option Int → Hp → Prop} (mono : ∀ {ρ1 s1 H1 b s}, Ext κ ρ st H ρ1 s1 H1 → OK ρ st H b s → OK ρ1 s1 H1 b s)
    (S : Sit G κ ρ st env σ H) (h : RP ((evP P F a env st).bind f) (OK ρ st H) (XP G W σ κ ρ st H))
    (k : ∀ v s1 ρ1 H1, Sit G κ ρ1 s1 env σ H1 → Ext κ ρ st H ρ1 s1 H1 → RP (f v s1) (OK ρ1 s1 H1) (XP G W σ κ ρ1 s1 H1) → Q v H1) : tP P F G W a σ H Q := by
  refine ⟨κ, ρ, st, env, S, (stepR h).imp (fun v s1 hv ρ1 H1 R E => ?_) fun _ _ _ h => h⟩
  exact k v s1 ρ1 H1 (S.ext R E) E (hv.imp (fun _ _ => mono E) fun _ _ _ => XP.mono E)
theorem se_slice {lo hi : Option Expr} {clo chi : CP} {p2 : Pos} (ha : SE CX P F G k S a ca) (hl : SP CX P F G k S lo clo) (hh : SP CX P F G k S hi chi) : SE CX P F G k S (.Subscript a (.Slice lo hi none p2) pos) (.slice ca clo chi) := .val (fun _ _ => rfl) fun X W g bx hb' => by
  refine (pe_slice (sl_all (bx := bx) g.hK) (ha.pe g) (hl X W g) (hh X W g)).imp fun σ H Q ⟨κ, ρ, st, env, S1, h⟩ => ?_
  refine stepE (OK := fun ρ st H => BP G bx κ ρ st H Q) BP.mono S1 h fun x s1 xv ρ1 H1 _ S2 E2 r1 h => ?_
  refine stepP (OK := fun ρ st H => BP G bx κ ρ st H Q) BP.mono S2 h fun l s2 ρ2 H2 S3 E3 h => ?_
  refine stepP (OK := fun ρ st H => BP G bx κ ρ st H Q) BP.mono S3 h fun u s3 ρ3 H3 S4 E4 h => ?_
  obtain ⟨z, hz, h⟩ := RP.ofO h
  exact ⟨κ, ρ3, s3, x, z, S4.rel, (r1.ext E3).ext E4, hz, h.vp⟩
theorem se_rev {j : Nat} {p1 p2 p3 : Pos} (ha : SE CX P F G k S a ca) : SE CX P F G k S (.Subscript a (.Slice none none (some (.UnaryOp .USub (.Constant (.int 1) j p1) p2)) p3) pos) (.rev ca) := .val (fun _ _ => rfl) fun X W g bx hb' => by
  cases nofresh hb' rfl
  refine (pe_revL (ha.pe g)).imp fun σ H Q ⟨κ, ρ, st, env, S1, h⟩ => ?_
  refine stepE (OK := fun ρ st H => BP G false κ ρ st H Q) BP.mono S1 h fun x s1 xv ρ1 H1 _ S2 E2 r1 h => ?_
  obtain ⟨z, hz, h⟩ := RP.ofO h
  obtain ⟨xs, hx, rfl⟩ := Option.map_eq_some_iff.mp (show (lstOf s1 x).map (fun xs => CV.lst xs.reverse) = some z from hz)
  obtain ⟨p, vs, rfl, hp, r⟩ := lstOf_rep S2.rel r1 hx
  exact ⟨p, vs, rfl, SqL.of hp, fun q hq => VP.lst (bx := false) S2.rel h r.reverse hq⟩

/-! ### lists of expressions -/
theorem ses_nil : SEs CX P F G k S [] .nil := fun X W g => pa_nil.imp fun σ H Q ⟨κ, ρ, st, env, S1, h⟩ => h [] ρ H S1.rel .refl .nil
theorem ses_cons {es : List Expr} {cs : CEs} (ha : SE CX P F G k S a ca) (hr : SEs CX P F G k S es cs) (hp : plainE a = true) : SEs CX P F G k S (a :: es) (.cons false ca cs) := fun X W g => by
  refine (pa_cons (ha.pe g) (hr X W g) (star_plain hp)).imp fun σ H Q ⟨κ, ρ, st, env, S1, h⟩ => ?_
  refine stepE (OK := fun ρ st H => LP G κ ρ st H Q) LP.mono S1 h fun x s1 xv ρ1 H1 _ S2 E2 r1 h => ?_
  refine stepEs (OK := fun ρ st H => LP G κ ρ st H Q) LP.mono S2 h fun vs s2 xs ρ2 H2 _ S3 E3 r2 h => ?_
  exact h (xv :: xs) ρ2 H2 S3.rel .refl (.cons (r1.ext E3) r2)
theorem ses_star {es : List Expr} {cs : CEs} {p : Pos} (ha : SE CX P F G k S a ca) (hr : SEs CX P F G k S es cs) : SEs CX P F G k S (.Starred a p :: es) (.cons true ca cs) := fun X W g => by
  refine (StX.pa_star (ha.pe g) (hr X W g)).imp fun σ H Q ⟨κ, ρ, st, env, S1, h⟩ => ?_
  refine stepE (OK := fun ρ st H => LP G κ ρ st H Q) LP.mono S1 h fun x s1 xv ρ1 H1 _ S2 E2 r1 h => ?_
  cases hs : seqOf s1 x with
  | none => rw [hs] at h; exact h.elim
  | some ys =>
    rw [hs] at h
    obtain ⟨p', ws, rfl, hp', r⟩ := seqOf_rep S2.rel r1 hs
    refine ⟨p', ws, rfl, by rw [g.hK]; exact hp'.symm, ?_⟩
    refine stepEs (OK := fun ρ st H => LP G κ ρ st H Q) LP.mono S2 h fun vs s2 xs ρ2 H2 _ S3 E3 r2 h => ?_
    exact h (ws ++ xs) ρ2 H2 S3.rel .refl ((r.ext E3).append r2)
theorem se_tup {es : List Expr} {cs : CEs} {j : Nat} (h : SEs CX P F G k S es cs) : SE CX P F G k S (.Tuple es j pos) (.tup cs) := .val (fun _ _ => rfl) fun X W g bx hb' => by
  cases nofresh hb' rfl
  refine (pe_tup (h X W g)).imp fun σ H Q ⟨κ, ρ, st, env, S1, h⟩ => ?_
  refine stepEs (OK := fun ρ st H => BP G false κ ρ st H Q) BP.mono S1 h fun vs s1 xs ρ1 H1 _ S2 E2 r1 h => ?_
  by_cases hl : lenOk vs.length = true
  · rw [if_pos hl] at h
    exact ⟨by rw [← r1.length]; exact lenOk_line hl, fun p hp => VP.tup (bx := false) S2.rel h r1 hp⟩
  · rw [if_neg hl] at h; exact h.elim
theorem se_lst {es : List Expr} {cs : CEs} (h : SEs CX P F G k S es cs) : SE CX P F G k S (.List es pos) (.lst cs) := .val (fun _ _ => rfl) fun X W g bx hb' => by
  refine (pe_lst (h X W g)).imp fun σ H Q ⟨κ, ρ, st, env, S1, h⟩ => ?_
  refine stepEs (OK := fun ρ st H => BP G bx κ ρ st H Q) BP.mono S1 h fun vs s1 xs ρ1 H1 _ S2 E2 r1 h => ?_
  by_cases hl : lenOk vs.length = true
  · rw [if_pos hl] at h
    exact ⟨by rw [← r1.length]; exact lenOk_line hl, fun p hp => VP.lst (bx := bx) S2.rel h r1 hp⟩
  · rw [if_neg hl] at h; exact h.elim
end
end MP
end MPj_text

section MPjb_text
set_option Elab.async false
set_option linter.all false
set_option maxRecDepth 100000
/-! f-strings. -/
namespace MP
open PySem PySem.Spec PyProof.Rows L2
/-- it raises nothing -/
def calmE : CE → Bool
  | .str _ | .var _ | .glob _ | .int _ => true
  | .bin _ a b => calmE a && calmE b
  | .idx a b => calmE a && calmE b
  | .attr a _ => calmE a
  | _ => false
section
variable {P : Prog} {F : Fns}
theorem bind_calm {α β : Type} {x : R α} {f : α → Sto → R β} (h : ∀ c v s, x ≠ .exc c v s) (h2 : ∀ a s c v s2, f a s ≠ .exc c v s2) : ∀ c v s, x.bind f ≠ .exc c v s := by
  intro c v s
  cases x with
  | ok a s1 => exact h2 a s1 c v s
  | exc c2 v2 s2 => exact absurd rfl (h c2 v2 s2)
  | err => exact fun q => by cases q
theorem ofO_calm {α : Type} {o : Option α} {s : Sto} : ∀ c v s2, (ofO o s : R α) ≠ .exc c v s2 := by
  intro c v s2
  cases o <;> exact fun q => by cases q
theorem attr_calm {x : CV} {f : Nat} {st : Sto} : ∀ c v s2, attrOf P F x f st ≠ .exc c v s2 := by
  intro c v s2
  unfold attrOf
  split
  · unfold attrIn
    split
    · split <;> exact fun q => by cases q
    · split
      · split <;> exact fun q => by cases q
      · exact fun q => by cases q
  · exact fun q => by cases q
theorem calm_ok : ∀ (e : CE), calmE e = true → ∀ (env : Env) (st : Sto) c v s, evE P F e env st ≠ .exc c v s
  | .str _, _, _, _ => fun _ _ _ q => by cases q
  | .int _, _, _, _ => fun _ _ _ q => by cases q
  | .var _, _, _, _ => ofO_calm
  | .glob _, _, _, _ => ofO_calm
  | .bin _ a b, h, _, _ => by
    unfold calmE at h
    rw [Bool.and_eq_true] at h
    exact bind_calm (calm_ok a h.1 _ _) fun _ _ => bind_calm (calm_ok b h.2 _ _) fun _ _ => ofO_calm
  | .idx a b, h, _, _ => by
    unfold calmE at h
    rw [Bool.and_eq_true] at h
    exact bind_calm (calm_ok a h.1 _ _) fun _ _ => bind_calm (calm_ok b h.2 _ _) fun _ _ => ofO_calm
  | .attr a _, h, _, _ => by
    unfold calmE at h
    exact bind_calm (calm_ok a h _ _) fun _ _ => attr_calm
/-- parts that raise nothing -/
def calmEs : CEs → Bool
  | .nil => true
  | .cons b a r => !b && (calmE a && calmEs r)
theorem calms_ok : ∀ (es : CEs), calmEs es = true → ∀ (env : Env) (st : Sto) c v s, evEs P F es env st ≠ .exc c v s
  | .nil, _, _, _ => fun _ _ _ q => by cases q
  | .cons false a r, h, _, _ => by
    unfold calmEs at h
    simp only [Bool.not_false, Bool.true_and, Bool.and_eq_true] at h
    exact bind_calm (calm_ok a h.1 _ _) fun _ _ => bind_calm (calms_ok r h.2 _ _) fun _ _ _ _ _ q => by cases q
  | .cons true a r, h, _, _ => by
    unfold calmEs at h
    simp at h
end
section
variable (CX : CXT) (P : Prog) (F : Fns) (G : Wd) (k : Nat) (S : Cst)
/-- the parts are served -/
inductive FPs : List Expr → CEs → Prop
  | nil : FPs [] .nil
  | txt {v : List Nat} {j : Nat} {pos : Pos} {r : List Expr} {cr : CEs} (h : FPs r cr) : FPs (.Constant (.str (SS v)) j pos :: r) (.cons false (.str v) cr)
  | fmt {e : Expr} {a : CE} {pos : Pos} {r : List Expr} {cr : CEs} (ha : SE CX P F G k S e a) (h : FPs r cr) : FPs (.FormattedValue e (-1) none pos :: r) (.cons false a cr)
end
section
variable {CX : CXT} {P : Prog} {F : Fns} {G : Wd} {k : Nat} {S : Cst} {W : WX} {X : Cx}
theorem concat_cons {v : CV} {r : List CV} {acc : List Nat} {z : List Nat} (h : concat (v :: r) acc = some z) : ∃ x, partTxt v = some x ∧ lenOk (acc ++ x).length = true ∧ concat r (acc ++ x) = some z := by
  unfold concat at h
  cases hx : partTxt v with
  | none => rw [hx] at h; cases h
  | some x =>
    rw [hx] at h
    dsimp only [Option.bind_some] at h
    split at h
    · rename_i hl
      exact ⟨x, rfl, hl, h⟩
    · cases h
theorem SS_nil : SS [] = Str.empty := rfl
theorem parts_step {v : CV} {cr : CEs} {env : Env} {s : Sto} {acc : List Nat} {ok : CV → Sto → Prop} {ex : Nat → CV → Sto → Prop} (hc : calmEs cr = true) (h : RP ((evEs P F cr env s).bind fun xs s2 => ofO ((concat (v :: xs) acc).map CV.str) s2) ok ex) :
    ∃ x, partTxt v = some x ∧ lenOk (acc ++ x).length = true ∧ RP ((evEs P F cr env s).bind fun xs s2 => ofO ((concat xs (acc ++ x)).map CV.str) s2) ok ex := by
  cases he : evEs P F cr env s with
  | ok xs s2 =>
    rw [he] at h
    obtain ⟨a, e, q⟩ := RP.ofO h
    obtain ⟨z, e2, rfl⟩ := Option.map_eq_some_iff.mp e
    obtain ⟨x, h1, h2, h3⟩ := concat_cons e2
    refine ⟨x, h1, h2, ?_⟩
    show RP (ofO ((concat xs (acc ++ x)).map CV.str) s2) ok ex
    rw [h3]
    exact q
  | exc c w s2 => exact absurd he (calms_ok cr hc env s c w s2)
  | err => rw [he] at h; exact h.elim
theorem fps_run (g : Okay CX P F G k S W X) {es : List Expr} {cs : CEs} (h : FPs CX P F G k S es cs) : calmEs cs = true → ∃ ts, PJ X es ts ∧ ∀ (acc : List Nat) (κ : Addr → Prop) (ρ : List Addr) (st : Sto) (env : Env) (σ : L2.St) (H : Hp) (Q : VK), Sit G κ ρ st env σ H →
    RP ((evEs P F cs env st).bind fun as s1 => ofO ((concat as acc).map CV.str) s1) (BP G false κ ρ st H Q) (XP G W σ κ ρ st H) → tJs ts (SS acc) σ H fun out H1 => Q (.str out) H1 := by
  have one : ∀ (a : CE) (cr : CEs) (env : Env) (st : Sto) (acc : List Nat), (evEs P F (.cons false a cr) env st).bind (fun as s1 => ofO ((concat as acc).map CV.str) s1) = (evE P F a env st).bind fun x s1 => (evEs P F cr env s1).bind fun xs s2 => ofO ((concat (x :: xs) acc).map CV.str) s2 := fun a cr env st acc => by
    show ((evE P F a env st).bind fun x s1 => (evEs P F cr env s1).bind fun xs s2 => R.ok (x :: xs) s2).bind _ = _
    cases evE P F a env st with
    | ok v s1 =>
      show ((evEs P F cr env s1).bind fun xs s2 => R.ok (v :: xs) s2).bind _ = (evEs P F cr env s1).bind _
      cases evEs P F cr env s1 <;> rfl
    | exc c v s1 => rfl
    | err => rfl
  induction h with
  | nil =>
    intro _
    refine ⟨[], .nil, fun acc κ ρ st env σ H Q S1 h => ?_⟩
    exact h _ ρ H S1.rel .refl (.str acc)
  | @txt v j pos r cr hr ih =>
    intro hc
    unfold calmEs at hc
    simp only [Bool.not_false, Bool.true_and, Bool.and_eq_true] at hc
    obtain ⟨ts, pj, w⟩ := ih hc.2
    refine ⟨_, .cons (se_str.pe g) pj, fun acc κ ρ st env σ H Q S1 h => ?_⟩
    rw [one] at h
    refine stepE (OK := fun ρ st H => BP G false κ ρ st H Q) BP.mono S1 h fun v' s1 x ρ1 H1 eq S2 E2 r1 h => ?_
    cases eq
    cases r1
    obtain ⟨x, hx, hl, hw⟩ := parts_step hc.2 h
    have hx : (if lenOk v.length then some v else none) = some x := hx
    split at hx
    · cases hx
      refine ⟨_, rfl, by rw [ss_append, ss_length]; exact lenOk_line hl, ?_⟩
      rw [ss_append]
      exact w _ κ ρ1 _ env σ H1 Q S2 hw
    · cases hx
  | @fmt e a pos r cr ha hr ih =>
    intro hc
    unfold calmEs at hc
    simp only [Bool.not_false, Bool.true_and, Bool.and_eq_true] at hc
    obtain ⟨ts, pj, w⟩ := ih hc.2
    refine ⟨_, .cons (pe_fmt (ha.pe g)) pj, fun acc κ ρ st env σ H Q S1 h => ?_⟩
    rw [one] at h
    refine stepE (OK := fun ρ st H => BP G false κ ρ st H Q) BP.mono S1 h fun v s1 x ρ1 H1 eq S2 E2 r1 h => ?_
    obtain ⟨x, hx, hl, hw⟩ := parts_step hc.2 h
    cases v with
    | str y =>
      cases r1
      have hx : (if lenOk y.length then some y else none) = some x := hx
      split at hx
      · rename_i hy
        cases hx
        refine .inl ⟨_, rfl, by rw [ss_length]; exact lenOk_line hy, _, rfl, by rw [ss_append, ss_length]; exact lenOk_line hl, ?_⟩
        rw [ss_append]
        exact w _ κ ρ1 _ env σ H1 Q S2 hw
      · cases hx
    | int i =>
      cases r1
      have hx : (if i.natAbs.log2 < 1900 then some (intStr i) else none) = some x := hx
      split at hx
      · rename_i hy
        cases hx
        refine .inr ⟨i, rfl, by omega, _, rfl, by rw [intStr_eq, ss_append, ss_length]; exact lenOk_line hl, ?_⟩
        rw [intStr_eq, ss_append]
        exact w _ κ ρ1 _ env σ H1 Q S2 hw
      · cases hx
    | _ => cases hx
theorem se_fstr {v1 v2 : Expr} {rest : List Expr} {cs : CEs} (h : FPs CX P F G k S (v1 :: v2 :: rest) cs) (hc : calmEs cs = true) : SE CX P F G k S (.JoinedStr (v1 :: v2 :: rest) pos) (.fstr cs) := .val (fun _ _ => rfl) fun X W g bx hb => by
  cases nofresh hb rfl
  obtain ⟨ts, pj, w⟩ := fps_run g h hc
  exact (pe_joined pj).imp fun σ H Q ⟨κ, ρ, st, env, S1, h⟩ => w [] κ ρ st env σ H Q S1 h
end
end MP
end MPjb_text

section MPk_text
set_option Elab.async false
set_option linter.all false
set_option maxRecDepth 100000
/-! A call's end; attributes, calls. -/
namespace MP
open PySem PySem.Spec PyProof.Rows L2

/-! ### places below a bound -/
inductive LocLt (n : Nat) : CV → Prop
  | non : LocLt n .non
  | bl (b : Bool) : LocLt n (.bl b)
  | int (i : Int) : LocLt n (.int i)
  | str (s : List Nat) : LocLt n (.str s)
  | tup {xs : List CV} (h : ∀ x ∈ xs, LocLt n x) : LocLt n (.tup xs)
  | lst {xs : List CV} (h : ∀ x ∈ xs, LocLt n x) : LocLt n (.lst xs)
  | dic {t : Bool} {kvs : List (CV × CV)} (h2 : ∀ p ∈ kvs, LocLt n p.2) : LocLt n (.dic t kvs)
  | scr (ns : List Int) : LocLt n (.scr ns)
  | kt (ns : List Int) : LocLt n (.kt ns)
  | rcd {c : Nat} {fs : List (Nat × CV)} (h : ∀ p ∈ fs, LocLt n p.2) : LocLt n (.rcd c fs)
  | loc {l : Nat} (h : l < n) : LocLt n (.loc l)
theorem NoLoc.lt {n : Nat} {v : CV} (h : NoLoc v) : LocLt n v := by
  induction h with
  | non => exact .non
  | bl b => exact .bl b
  | int i => exact .int i
  | str s => exact .str s
  | tup h ih => exact .tup ih
  | lst h ih => exact .lst ih
  | dic h h2 ih ih2 => exact .dic ih2
  | scr ns => exact .scr ns
  | kt ns => exact .kt ns
  | rcd h ih => exact .rcd ih
section
variable {G : Wd} {ρ ρ0 : List Addr} {L L' : Addr → Prop} {H : Hp}
mutual
theorem RepV.lt : ∀ {x : CV} {v : V}, RepV G ρ L H x v → LocLt ρ.length x
  | _, _, .non => .non
  | _, _, .bl b => .bl b
  | _, _, .int i => .int i
  | _, _, .str s => .str s
  | _, _, .tup h n r => .tup (RepVs.lt r)
  | _, _, .kt h => .kt _
  | _, _, .lst h n r => .lst (RepVs.lt r)
  | _, _, .dicK h n r => .dic (RepDs.lt r)
  | _, _, .dicT h n r => .dic (RepTs.lt r)
  | _, _, .rcd h n r => .rcd (RepFs.lt r)
  | _, _, .loc h => .loc (List.getElem?_eq_some_iff.mp h).1
  | _, _, .scr h n => .scr _
  | _, _, .scrK h => .scr _
theorem RepVs.lt : ∀ {x : List CV} {v : List V}, RepVs G ρ L H x v → ∀ y ∈ x, LocLt ρ.length y
  | _, _, .nil, y, hy => nomatch hy
  | _, _, .cons h r, y, hy => by
    rcases List.mem_cons.mp hy with e | hy
    · rw [e]; exact RepV.lt h
    · exact RepVs.lt r y hy
theorem RepDs.lt : ∀ {x : List (CV × CV)} {v : List (Key × V)}, RepDs G ρ L H x v → ∀ y ∈ x, LocLt ρ.length y.2
  | _, _, .nil, y, hy => nomatch hy
  | _, _, .cons k h r, y, hy => by
    rcases List.mem_cons.mp hy with e | hy
    · rw [e]; exact RepV.lt h
    · exact RepDs.lt r y hy
theorem RepTs.lt : ∀ {x : List (CV × CV)} {v : List (List Key × V)}, RepTs G ρ L H x v → ∀ y ∈ x, LocLt ρ.length y.2
  | _, _, .nil, y, hy => nomatch hy
  | _, _, .cons k h r, y, hy => by
    rcases List.mem_cons.mp hy with e | hy
    · rw [e]; exact RepV.lt h
    · exact RepTs.lt r y hy
theorem RepFs.lt : ∀ {x : List (Nat × CV)} {v : List (Str × V)}, RepFs G ρ L H x v → ∀ y ∈ x, LocLt ρ.length y.2
  | _, _, .nil, y, hy => nomatch hy
  | _, _, .cons h r, y, hy => by
    rcases List.mem_cons.mp hy with e | hy
    · rw [e]; exact RepV.lt h
    · exact RepFs.lt r y hy
end
mutual
theorem RepV.trim (hp : ρ0 <+: ρ) (hL : ∀ a, ¬ L a → ¬ L' a) : ∀ {x : CV} {v : V}, LocLt ρ0.length x → RepV G ρ L H x v → RepV G ρ0 L' H x v
  | _, _, _, .non => .non
  | _, _, _, .bl b => .bl b
  | _, _, _, .int i => .int i
  | _, _, _, .str s => .str s
  | _, _, .tup q, .tup h n r => .tup h (hL _ n) (RepVs.trim hp hL q r)
  | _, _, _, .kt h => .kt h
  | _, _, .lst q, .lst h n r => .lst h (hL _ n) (RepVs.trim hp hL q r)
  | _, _, .dic q, .dicK h n r => .dicK h (hL _ n) (RepDs.trim hp hL q r)
  | _, _, .dic q, .dicT h n r => .dicT h (hL _ n) (RepTs.trim hp hL q r)
  | _, _, .rcd q, .rcd h n r => .rcd h (hL _ n) (RepFs.trim hp hL q r)
  | _, _, .loc q, .loc h => .loc (by
    obtain ⟨t, rfl⟩ := hp
    rw [List.getElem?_append_left q] at h
    exact h)
  | _, _, _, .scr h n => .scr h (hL _ n)
  | _, _, _, .scrK h => .scrK h
theorem RepVs.trim (hp : ρ0 <+: ρ) (hL : ∀ a, ¬ L a → ¬ L' a) : ∀ {x : List CV} {v : List V}, (∀ y ∈ x, LocLt ρ0.length y) → RepVs G ρ L H x v → RepVs G ρ0 L' H x v
  | _, _, _, .nil => .nil
  | _, _, q, .cons h r => .cons (RepV.trim hp hL (q _ List.mem_cons_self) h) (RepVs.trim hp hL (fun y hy => q y (List.mem_cons_of_mem _ hy)) r)
theorem RepDs.trim (hp : ρ0 <+: ρ) (hL : ∀ a, ¬ L a → ¬ L' a) : ∀ {x : List (CV × CV)} {v : List (Key × V)}, (∀ y ∈ x, LocLt ρ0.length y.2) → RepDs G ρ L H x v → RepDs G ρ0 L' H x v
  | _, _, _, .nil => .nil
  | _, _, q, .cons k h r => .cons k (RepV.trim hp hL (q _ List.mem_cons_self) h) (RepDs.trim hp hL (fun y hy => q y (List.mem_cons_of_mem _ hy)) r)
theorem RepTs.trim (hp : ρ0 <+: ρ) (hL : ∀ a, ¬ L a → ¬ L' a) : ∀ {x : List (CV × CV)} {v : List (List Key × V)}, (∀ y ∈ x, LocLt ρ0.length y.2) → RepTs G ρ L H x v → RepTs G ρ0 L' H x v
  | _, _, _, .nil => .nil
  | _, _, q, .cons k h r => .cons k (RepV.trim hp hL (q _ List.mem_cons_self) h) (RepTs.trim hp hL (fun y hy => q y (List.mem_cons_of_mem _ hy)) r)
theorem RepFs.trim (hp : ρ0 <+: ρ) (hL : ∀ a, ¬ L a → ¬ L' a) : ∀ {x : List (Nat × CV)} {v : List (Str × V)}, (∀ y ∈ x, LocLt ρ0.length y.2) → RepFs G ρ L H x v → RepFs G ρ0 L' H x v
  | _, _, _, .nil => .nil
  | _, _, q, .cons h r => .cons (RepV.trim hp hL (q _ List.mem_cons_self) h) (RepFs.trim hp hL (fun y hy => q y (List.mem_cons_of_mem _ hy)) r)
end
/-- what stands at a place names places below -/
def LtO (n : Nat) : CO → Prop
  | .gone => True
  | .lst xs => ∀ x ∈ xs, LocLt n x
  | .dic _ kvs => ∀ p ∈ kvs, LocLt n p.2
  | .ins _ fs => ∀ p ∈ fs, LocLt n p.2
theorem NoLocO.lt {n : Nat} : ∀ {o : CO}, NoLocO o → LtO n o
  | .gone, _ => trivial
  | .lst xs, h => fun x hx => (h x hx).lt
  | .dic _ kvs, h => fun p hp => (h p hp).2.lt
  | .ins _ fs, h => fun p hp => (h p hp).lt
theorem RepO.lt {a : Addr} : ∀ {o : CO}, RepO G ρ L H o a → LtO ρ.length o
  | .gone, _ => trivial
  | .lst xs, ⟨_, _, r⟩ => r.lt
  | .dic false kvs, ⟨_, _, r⟩ => r.lt
  | .dic true kvs, ⟨_, _, r⟩ => r.lt
  | .ins _ fs, ⟨_, _, _, r⟩ => r.lt
theorem RepO.trim {a : Addr} (hp : ρ0 <+: ρ) (hL : ∀ a, ¬ L a → ¬ L' a) : ∀ {o : CO}, LtO ρ0.length o → RepO G ρ L H o a → RepO G ρ0 L' H o a
  | .gone, _, h => h
  | .lst xs, q, ⟨vs, h, r⟩ => ⟨vs, h, r.trim hp hL q⟩
  | .dic false kvs, q, ⟨vs, h, r⟩ => ⟨vs, h, r.trim hp hL q⟩
  | .dic true kvs, q, ⟨vs, h, r⟩ => ⟨vs, h, r.trim hp hL q⟩
  | .ins _ fs, q, ⟨dx, vs, h, r⟩ => ⟨dx, vs, h, r.trim hp hL q⟩
end
section
variable {G : Wd} {κ : Addr → Prop} {ρ ρ0 : List Addr} {st st0 st' : Sto} {H H0 : Hp} {v v' : CV} {x : V}
theorem exit_ok (R0 : HRel G κ ρ0 st0 H0) (R : HRel G κ ρ st H) (E : Ext κ ρ0 st0 H0 ρ st H) (r : RepV G ρ (Live κ ρ st) H v x) (h : exitR st0 v st = .ok v' st') :
    ∃ ρ', HRel G κ ρ' st' H ∧ Ext κ ρ0 st0 H0 ρ' st' H ∧ RepV G ρ' (Live κ ρ' st') H v' x := by
  unfold exitR at h
  split at h
  · rename_i hd
    cases h
    obtain ⟨nv, pl⟩ := hd
    have hle : st0.length ≤ st.length := by
      rw [← R0.len, ← R.len]
      exact E.pre.length_le
    have hlen : (st.take st0.length).length = st0.length := by rw [List.length_take]; omega
    have at_ : ∀ l, l < st0.length → (st.take st0.length)[l]? = st[l]? := fun l hl => by rw [List.getElem?_take]; simp [hl]
    have sub : ∀ a, LiveP ρ0 (st.take st0.length) a → LiveP ρ st a := fun a ⟨l, o, h1, h2, h3⟩ => by
      have hl : l < st0.length := by rw [← R0.len]; exact (List.getElem?_eq_some_iff.mp h1).1
      rw [at_ l hl] at h2
      exact ⟨l, o, E.toPre.at_ h1, h2, h3⟩
    have subL : ∀ a, ¬ Live κ ρ st a → ¬ Live κ ρ0 (st.take st0.length) a := fun a n q => n (q.imp_right (sub a))
    refine ⟨ρ0, ⟨R0.len.trans hlen.symm, R0.nd, fun a ha => ⟨(R.hid a ha).1, fun q => (R.hid a ha).2 (sub a q)⟩, fun l a o h1 h2 => ?_⟩, ⟨List.prefix_refl _, E.hk, fun a o h1 h2 => ⟨(E.keep a o h1 h2).1, subL a (E.keep a o h1 h2).2⟩, E.tr, fun _ _ h => .inl h⟩, r.trim E.pre subL nv.lt⟩
    have hl : l < st0.length := by rw [← R0.len]; exact (List.getElem?_eq_some_iff.mp h1).1
    rw [at_ l hl] at h2
    refine (R.obj l a o (E.toPre.at_ h1) h2).trim E.pre subL ?_
    rcases pl l hl with e | ⟨o', e, no⟩
    · rw [h2] at e
      exact (R0.obj l a o h1 e.symm).lt
    · rw [h2] at e
      cases e
      exact no.lt
  · cases h
    exact ⟨ρ, R, E, r⟩
theorem clsOf_rep (R : HRel G κ ρ st H) {a : CV} {x : V} {q : Nat × List (Nat × CV)} (r : RepV G ρ (Live κ ρ st) H a x) (e : clsOf st a = some q) : ∃ p dx fv, x = .ref p ∧ H p = some (.ins (G.ca q.1) dx fv) ∧ RepFs G ρ (Live κ ρ st) H q.2 fv := by
  cases r with
  | rcd h n r => cases e; exact ⟨_, _, _, rfl, h, r⟩
  | @loc l a h =>
    unfold clsOf at e
    dsimp only at e
    split at e
    · rename_i c fs hl
      cases e
      obtain ⟨dx, fv, e1, r⟩ := R.obj l a _ h hl
      exact ⟨_, dx, fv, rfl, e1, r⟩
    · cases e
  | _ => cases e
end
theorem _root_.L2.PE.or {X : Cx} {e : Expr} {t t' : TE} (h : PE X e t) (h' : PE X e t') : PE X e (fun σ H Q => t σ H Q ∨ t' σ H Q) :=
  ⟨fun pins s σ H Q I q => q.elim (h.run pins s σ H Q I) (h'.run pins s σ H Q I)⟩
section
variable {CX : CXT} {P : Prog} {F : Fns} {G : Wd} {k : Nat} {S : Cst} {W : WX} {X : Cx} {e a b d : Expr} {c ca cb cd : CE} {pos : Pos}
theorem Prog.cls_of {c : Nat} (h : (P.cls c).flds ≠ [] ∨ (P.cls c).meths ≠ [] ∨ (P.cls c).props ≠ [] ∨ (P.cls c).init ≠ none) : P.clss[c]? = some (P.cls c) := by
  unfold Prog.cls at h ⊢
  rw [List.getD_eq_getElem?_getD] at h ⊢
  cases hc : P.clss[c]? with
  | some i => rfl
  | none => rw [hc] at h; exact absurd h (by simp)
/-- the defaults behind the arguments -/
structure Given (prog : Program) (w : World) (K : PySem.W.Frag) (mg : Str → Option Value) (base : Heap) (CX : CXT) (P : Prog) (F : Fns) (G : Wd) (k f n : Nat) (d : FnI) (ds : List Value) (dvs : List V) : Prop where
  F : FnOk prog w K mg base CX k (G.fa f) (G.fd f) (G.ps f) (fnSp G F f d.arity)
  kp : PySem.W.keepIn K (.ref (G.fa f)) = true
  nm : d.name ≠ [] → mg (SS d.name) = some (.ref (G.fa f))
  hb : Binds K (G.fd f) (G.ps f) ds
  hd : Vals dvs ds
  rv : ∀ ρ L H, RepVs G ρ L H (d.dfl.drop (n + d.dfl.length - d.arity)) dvs
theorem Okay.given (g : Okay CX P F G k S W X) {f : Nat} {d : FnI} (hf : P.fns[f]? = some d) (n : Nat) : ∃ ds dvs, Given X.prog X.w X.K X.mg X.base CX P F G k f n d ds dvs := by
  obtain ⟨FO, kp, _, nm, df⟩ := g.fix.fn f d hf
  by_cases hn : n ≤ d.arity
  · obtain ⟨ds, dvs, hb, hv, rv⟩ := df (n + d.dfl.length - d.arity) (by omega)
    exact ⟨ds, dvs, FO, kp, nm, hb, hv, rv⟩
  · obtain ⟨ds, dvs, hb, hv, rv⟩ := df d.dfl.length (Nat.le_refl _)
    refine ⟨ds, dvs, FO, kp, nm, hb, hv, fun ρ L H => ?_⟩
    have e : d.dfl.drop (n + d.dfl.length - d.arity) = d.dfl.drop d.dfl.length := by rw [List.drop_eq_nil_of_le (by omega), List.drop_eq_nil_of_le (Nat.le_refl _)]
    rw [e]
    exact rv ρ L H
/-- what a def is asked -/
theorem sp_of {κ : Addr → Prop} {ρ : List Addr} {st : Sto} {H : Hp} {f : Nat} {d : FnI} {as : List CV} {xs : List V} {n : Nat} {ds : List Value} {dvs : List V} {Q : VK} {E : XK} (g : Okay CX P F G k S W X) (hf : P.fns[f]? = some d) (w : Given X.prog X.w X.K X.mg X.base CX P F G k f n d ds dvs) (hn : as.length = n)
    (R : HRel G κ ρ st H) (r : RepVs G ρ (Live κ ρ st) H as xs)
    (h : RP (F f as st) (BP G false κ ρ st H Q) (fun c v st' => ∀ (x : V) (ρ' : List Addr) (H' : Hp) (d : Addr), HRel G κ ρ' st' H' → Ext κ ρ st H ρ' st' H' → RepV G ρ' (Live κ ρ' st') H' v x → H' d = some (.xd [(("value" : Str), x)]) → E (.ref (G.ca c)) (some d) H')) :
    fnSp G F f d.arity (xs ++ dvs) H Q E := by
  obtain ⟨d', full, h1, h2, h3⟩ := g.fix.fill f as st (h.imp (fun _ _ _ => trivial) fun _ _ _ _ => trivial)
  rw [hf] at h1
  cases h1
  unfold fillArgs at h2
  split at h2
  · rename_i hh
    cases h2
    have rv := w.rv ρ (Live κ ρ st) H
    rw [← hn] at rv
    refine ⟨?_, κ, ρ, st, as ++ d.dfl.drop (as.length + d.dfl.length - d.arity), R, r.append rv, ?_⟩
    · rw [List.length_append, ← r.length, ← rv.length, List.length_drop]
      omega
    · rw [← h3]
      exact h
  · cases h2
theorem evEs_len : ∀ (es : CEs) (env : Env) (st : Sto) (vs : List CV) (s1 : Sto), CEs.star es = false → evEs P F es env st = .ok vs s1 → vs.length = CEs.len es
  | .nil, env, st, vs, s1, _, h => by cases h; rfl
  | .cons true a r, env, st, vs, s1, hs, h => by cases hs
  | .cons false a r, env, st, vs, s1, hs, h => by
    have h : ((evE P F a env st).bind fun x s1 => (evEs P F r env s1).bind fun xs s2 => .ok (x :: xs) s2) = .ok vs s1 := h
    cases h1 : evE P F a env st with
    | ok x s2 =>
      rw [h1] at h
      cases h2 : evEs P F r env s2 with
      | ok xs s4 =>
        rw [R.bind_ok, h2] at h
        cases h
        have := evEs_len r env s2 xs _ hs h2
        rw [List.length_cons, this]
        rfl
      | exc c v s => rw [R.bind_ok, h2] at h; cases h
      | err => rw [R.bind_ok, h2] at h; cases h
    | exc c v s => rw [h1] at h; cases h
    | err => rw [h1] at h; cases h
end
end MP
end MPk_text

section MPl_text
set_option Elab.async false
set_option linter.all false
set_option maxRecDepth 100000
/-! Attributes, calls of defs, methods, classes. -/
namespace MP
open PySem PySem.Spec PyProof.Rows L2
theorem any_back {pos : Pos} : ∀ (l : List (Bool × Sem Value)), (backTo pos l).any (·.1) = l.any (·.1)
  | [] => rfl
  | (s, t) :: r => by
    show (s || (backTo pos r).any (·.1)) = _
    rw [any_back r]
    rfl
theorem all_back {pos : Pos} : ∀ (l : List (Bool × Sem Value)), (backTo pos l).all (fun x => !x.1) = l.all (fun x => !x.1)
  | [] => rfl
  | (s, t) :: r => by
    show (!s && (backTo pos r).all (fun x => !x.1)) = _
    rw [all_back r]
    rfl
theorem star_none {env : PySem.Env} : ∀ {es : List Expr}, es.all plainE = true → (starEach es env).any (·.1) = false ∧ (starEach es env).all (fun x => !x.1) = true
  | [], _ => ⟨rfl, rfl⟩
  | e :: es, h => by
    rw [List.all_cons] at h
    obtain ⟨h1, h2⟩ := Bool.and_eq_true_iff.mp h
    obtain ⟨i1, i2⟩ := star_none h2 (env := env)
    rw [star_plain h1]
    exact ⟨i1, i2⟩
theorem back_plain {env : PySem.Env} {pos : Pos} {es : List Expr} (h : es.all plainE = true) : (backTo pos (starEach es env)).any (·.1) = false := (any_back _).trans (star_none h).1
/-- the tree of a method's call -/
theorem meth_tree {o : Expr} {m : Str} {apos pos : Pos} {es : List Expr} {env : PySem.Env} (ho : noCall0 o = true) (he : es.all plainE = true) (hl : es.length < 30) (hline : (apos.endLine == pos.line) = true) :
    eval (.Call (.Attribute o m apos) es [] pos) env = (do
      let ov ← eval o env
      standAt apos.atName
      let (f, first) ← holding [ov] (getMethod ov m (do return (← importBound o env).getD true))
      callWith pos f first (backTo pos (starEach es env)) (backToKw pos (keywordEach [] env))) := by
  rw [arm_eval_Call, attr_plain ho]
  have hf : methodCallForm (es.length + ([] : List Keyword).length) (backTo pos (starEach es env)) (backToKw pos (keywordEach [] env)) = true := by
    show ((backTo pos (starEach es env)).all (fun x => !x.1) && true && decide (es.length + 0 + 0 < 30)) = true
    rw [all_back, (star_none he).2]
    simpa using hl
  have hp : methodCallPos true o env apos pos = pure pos := by
    unfold methodCallPos
    rw [hline]
    rfl
  unfold methodCall
  rw [hf, hp]
  rfl
section
variable {CX : CXT} {P : Prog} {F : Fns} {G : Wd} {k : Nat} {S : Cst} {W : WX} {X : Cx} {e a b d : Expr} {c ca cb cd : CE} {pos : Pos}

/-! ### attributes -/
theorem okAttr {f : Nat} {x : List Nat} (g : Okay CX P F G k S W X) (h : P.attrs[f]? = some x) : G.an f = SS x := g.fix.an f x h
theorem se_attr {f : Nat} {x : List Nat} (ha : SE CX P F G k S a ca) (hx : P.attrs[f]? = some x) (hn : noCall0 a = true) : SE CX P F G k S (.Attribute a (SS x) pos) (.attr ca f) := .val (fun _ _ => rfl) fun X W g bx hb' => by
  cases nofresh hb' rfl
  have ef := okAttr g hx
  have fld := pe_fld (pos := pos) (ha.pe g) (attr_plain (f := SS x) hn)
  have prop : ∀ i : Nat × Nat × FnI × List Value × List V, (P.clss[i.1]? = some (P.cls i.1) ∧ (P.cls i.1).props.lookup f = some i.2.1 ∧ P.fns[i.2.1]? = some i.2.2.1 ∧ Given X.prog X.w X.K X.mg X.base CX P F G k i.2.1 1 i.2.2.1 i.2.2.2.1 i.2.2.2.2) →
      PE X (.Attribute a (SS x) pos) (tProp (G.ca i.1) (fnSp G F i.2.1 i.2.2.1.arity) i.2.2.2.2 (fun _ _ _ => False) (tE P F G W false ca)) := fun ⟨c, gf, d, ds, dvs⟩ ⟨h1, h2, h3, w⟩ => by
    obtain ⟨cl, _, _, _, _, hp, _⟩ := g.fix.cls c _ h1
    obtain ⟨p, po⟩ := hp f gf h2
    rw [ef] at po
    exact pe_prop (ha.pe g) cl po w.F g.room w.hb w.hd (fun pins σ H s e s' I q => (g.fix.cx0 _ _ _ _ _ q).elim) (attr_plain hn)
  refine (fld.or (PE.any prop)).imp fun σ H Q ⟨κ, ρ, st, env, S1, h⟩ => ?_
  have h : RP ((evE P F ca env st).bind fun x s1 => attrOf P F x f s1) (BP G false κ ρ st H Q) (XP G W σ κ ρ st H) := h
  -- which of them: by the value
  cases hv : evE P F ca env st with
  | err => rw [hv] at h; exact h.elim
  | exc c v s1 =>
    left
    refine ⟨κ, ρ, st, env, S1, ?_⟩
    rw [hv] at h ⊢
    exact h
  | ok v s1 =>
    rw [hv, R.bind_ok] at h
    unfold attrOf at h
    cases hc : clsOf s1 v with
    | none => rw [hc] at h; exact h.elim
    | some q =>
      obtain ⟨c, fs⟩ := q
      rw [hc] at h
      have h : RP (attrIn P F v c fs f s1) (BP G false κ ρ st H Q) (XP G W σ κ ρ st H) := h
      unfold attrIn at h
      cases hl : fs.lookup f with
      | some u =>
        rw [hl] at h
        dsimp only at h
        split at h
        · rename_i hf
          left
          refine ⟨κ, ρ, st, env, S1, ?_⟩
          rw [hv]
          intro xv ρ' H' R E r
          obtain ⟨p, dx, fv, rfl, hp, rf⟩ := clsOf_rep R r hc
          obtain ⟨w, h1, h2⟩ := rf.lookup (fun p _ e => g.fix.ainj _ _ e) hl
          have hcl := Prog.cls_of (P := P) (c := c) (.inl fun z => by rw [z] at hf; cases hf)
          obtain ⟨cl, _, _, na, _⟩ := g.fix.cls c _ hcl
          refine ⟨p, _, dx, fv, w, rfl, hp, cl, by rw [← ef]; exact na f (by simpa using hf), by rw [← ef]; exact h1, ?_⟩
          exact h _ ρ' H' R E h2
        · exact h.elim
      | none =>
        rw [hl] at h
        dsimp only at h
        cases hp : (P.cls c).props.lookup f with
        | none => rw [hp] at h; exact h.elim
        | some gf =>
          rw [hp] at h
          dsimp only at h
          right
          obtain ⟨v2, s2, hF, h⟩ : ∃ v2 s2, F gf [v] s1 = .ok v2 s2 ∧ BP G false κ ρ st H Q v2 s2 := by
            cases hF : F gf [v] s1 with
            | ok v2 s2 => rw [hF] at h; exact ⟨v2, s2, rfl, h⟩
            | exc c v s => rw [hF] at h; exact h.elim
            | err => rw [hF] at h; exact h.elim
          obtain ⟨d, full, h1, h2, h3⟩ := g.fix.fill gf [v] s1 (by rw [hF]; trivial)
          obtain ⟨ds, dvs, w⟩ := g.given h1 1
          refine ⟨(c, gf, d, ds, dvs), ⟨Prog.cls_of (.inr (.inr (.inl fun z => by rw [z] at hp; cases hp))), hp, h1, w⟩, κ, ρ, st, env, S1, ?_⟩
          rw [hv]
          intro xv ρ' H' R E r
          obtain ⟨p, dx, fv, rfl, hpp, rf⟩ := clsOf_rep R r hc
          refine ⟨p, dx, fv, rfl, hpp, ?_⟩
          refine sp_of (xs := [.ref p]) g h1 w rfl R (.cons r .nil) ?_
          rw [hF]
          exact BP.mono (bx := false) E h

/-! ### calls -/
theorem call_key {f : Nat} {di : FnI} {cs : CEs} {ds : List Value} {dvs : List V} (g : Okay CX P F G k S W X) (hf : P.fns[f]? = some di) (w : Given X.prog X.w X.K X.mg X.base CX P F G k f cs.len di ds dvs) (hs : cs.star = false) {σ : L2.St} {H : Hp} {Q : VK} (h : tE P F G W false (.call f cs) σ H Q) :
    tEs P F G W cs σ H fun vs H1 => fnSp G F f di.arity (vs ++ dvs) H1 Q (fun c d H => W c d σ H) := by
  obtain ⟨κ, ρ, st, env, S1, h⟩ := h
  refine stepEs (OK := fun ρ st H => BP G false κ ρ st H Q) BP.mono S1 h fun vs s1 xs ρ1 H1 eq S2 E2 r1 h => ?_
  exact sp_of g hf w (evEs_len cs env st vs s1 hs eq) S2.rel r1 h
theorem se_call0 {f : Nat} {di : FnI} {p : Pos} (hf : P.fns[f]? = some di) (hnm : di.name ≠ []) (hg : okGl S (SS di.name) = true) : SE CX P F G k S (.Call (.Name (SS di.name) p) [] [] pos) (.call f .nil) := .val (fun _ _ => rfl) fun X W g bx hb' => by
  cases nofresh hb' rfl
  obtain ⟨ds, dvs, w⟩ := g.given hf (CEs.len .nil)
  obtain ⟨gl, ndb, _⟩ := g.gl hg
  refine ⟨fun pins s σ H Q I q => ?_⟩
  refine wpAny_Call_Name_kw (ld_glob I gl (w.nm hnm) ?_ ndb)
  refine PySem.W.callWith_K0 I.kIn w.kp ?_
  obtain ⟨κ, ρ, st, env, S1, h⟩ := call_key g hf w rfl q
  exact run_fnSD (E := fun σ c d H => W c d σ H) w.F (g.room.mono (Nat.le_succ k)) w.hb w.hd (g.pass σ) I .nil (h [] ρ H S1.rel .refl .nil)
theorem se_call {f : Nat} {di : FnI} {es : List Expr} {cs : CEs} {p : Pos} (hf : P.fns[f]? = some di) (hnm : di.name ≠ []) (hg : okGl S (SS di.name) = true) (hes : SEs CX P F G k S (e :: es) cs) (hp : plainE e = true) (hp2 : es.all plainE = true) (hs : cs.star = false) :
    SE CX P F G k S (.Call (.Name (SS di.name) p) (e :: es) [] pos) (.call f cs) := .val (fun _ _ => rfl) fun X W g bx hb' => by
  cases nofresh hb' rfl
  obtain ⟨ds, dvs, w⟩ := g.given hf cs.len
  obtain ⟨gl, ndb, _⟩ := g.gl hg
  exact (pe_callSD (E := fun σ c d H => W c d σ H) w.F (g.room.mono (Nat.le_succ k)) gl (w.nm hnm) w.kp w.hb w.hd (fun σ => g.pass σ) (hes X W g) ndb (star_plain hp) (back_plain hp2)).imp fun σ H Q h => call_key g hf w hs h

/-! ### methods -/
theorem se_meth {m : Nat} {x : List Nat} {es : List Expr} {cs : CEs} {apos : Pos} (ha : SE CX P F G k S a ca) (hx : P.attrs[m]? = some x) (hn : noCall0 a = true) (hes : SEs CX P F G k S es cs) (hp : es.all plainE = true) (hl : es.length < 30) (hs : cs.star = false) (hline : (apos.endLine == pos.line) = true)
    (hem : es = [] → cs = .nil) : SE CX P F G k S (.Call (.Attribute a (SS x) apos) es [] pos) (.meth ca m cs) := .val (fun _ _ => rfl) fun X W g bx hb' => by
  cases nofresh hb' rfl
  have ex := okAttr g hx
  refine ⟨fun pins s σ H Q I q => ?_⟩
  refine PySem.W.methodCall_KW (pl := do return (← importBound a X.env).getD true) (Q := EP X pins σ Q) ?_ (meth_tree hn hp hl hline)
  -- the object; then its def, the arguments
  have step : tE P F G W false ca σ H fun v H1 => ∃ (p dx : Addr) (fv : List (Str × V)) (C gf : Nat) (di : FnI) (ds : List Value) (dvs : List V), v = .ref p ∧ H1 p = some (.ins (G.ca C) dx fv) ∧ fv.lookup (SS x) = none ∧ Cls X.K (G.ca C) ∧ Meth X.K (G.ca C) (SS x) (G.fa gf) ∧
      Given X.prog X.w X.K X.mg X.base CX P F G k gf (cs.len + 1) di ds dvs ∧ tEs P F G W cs σ H1 fun vs H2 => fnSp G F gf di.arity (.ref p :: (vs ++ dvs)) H2 Q (fun c d H => W c d σ H) := by
    obtain ⟨κ, ρ, st, env, S1, h⟩ := q
    refine stepE (OK := fun ρ st H => BP G false κ ρ st H Q) BP.mono S1 h fun v s1 xv ρ1 H1 _ S2 E2 r1 h => ?_
    cases hm : methOf P s1 v m with
    | none => rw [hm] at h; exact h.elim
    | some gf =>
      rw [hm] at h
      have h : RP ((evEs P F cs env s1).bind fun as s2 => F gf (v :: as) s2) (BP G false κ ρ1 s1 H1 Q) (XP G W σ κ ρ1 s1 H1) := h
      unfold methOf at hm
      split at hm
      · rename_i c fs hc
        split at hm
        · rename_i hl'
          obtain ⟨p, dx, fv, rfl, hpp, rf⟩ := clsOf_rep S2.rel r1 hc
          have hcl := Prog.cls_of (P := P) (c := c) (.inr (.inl fun z => by rw [z] at hm; cases hm))
          obtain ⟨cl, _, _, _, hme, _⟩ := g.fix.cls c _ hcl
          obtain ⟨hme, di, hdi⟩ := hme m gf hm
          rw [ex] at hme
          have hfv := rf.lookupN (fun p _ e => g.fix.ainj _ _ e) hl'
          rw [ex] at hfv
          obtain ⟨ds, dvs, w⟩ := g.given hdi (cs.len + 1)
          refine ⟨p, dx, fv, c, gf, di, ds, dvs, rfl, hpp, hfv, cl, hme, w, ?_⟩
          refine stepEs (OK := fun ρ st H => BP G false κ ρ st H Q) BP.mono S2 h fun vs s2 xs ρ2 H2 eq S3 E3 r2 h => ?_
          exact sp_of (xs := .ref p :: xs) g hdi w (by rw [List.length_cons, evEs_len cs env s1 vs s2 hs eq]) S3.rel (.cons (r1.ext E3) r2) h
        · cases hm
      · cases hm
  refine thn ((ha.pe g).run pins s σ H _ I step) fun u s1 ⟨v, H1, I1, rv, p, dx, fv, C, gf, di, ds, dvs, ev, hpp, hfv, cl, hme, w, q1⟩ => ?_
  subst ev
  obtain rfl : u = Value.ref p := rv
  refine getmeth_ok I1 hpp cl hme hfv ?_
  cases es with
  | nil =>
    have e := hem rfl
    subst e
    obtain ⟨κ, ρ, st, env, S1, h⟩ := q1
    exact PySem.W.callWith_K0 (first := [.ref p]) I1.kIn hme.kp (run_fnSD (E := fun σ c d H => W c d σ H) (us := [.ref p]) (vs := [.ref p]) w.F (g.room.mono (Nat.le_succ k)) w.hb w.hd (g.pass σ) I1 (.cons rfl .nil) (h [] ρ H1 S1.rel .refl .nil))
  | cons e es =>
    rw [List.all_cons] at hp
    obtain ⟨h1, h2⟩ := Bool.and_eq_true_iff.mp hp
    refine PySem.W.callWith_K (first := [.ref p]) (h₀ := X.base) I.ok.mod.kin hme.kp (thn ((hes X W g).run pos pins s1 σ H1 _ I1 q1) fun us s2 ⟨vs, H2, I2, r, q2⟩ => ⟨I2.kIn, ?_⟩) (star_plain h1) (back_plain h2)
    exact run_fnSD (E := fun σ c d H => W c d σ H) (us := .ref p :: us) (vs := .ref p :: vs) w.F (g.room.mono (Nat.le_succ k)) w.hb w.hd (g.pass σ) I2 (.cons rfl r) q2

/-! ### new instances -/
theorem se_new {C : Nat} {cl : ClsI} {g0 : Nat} {es : List Expr} {cs : CEs} {p : Pos} (hc : P.clss[C]? = some cl) (hi : cl.init = some g0) (hnm : cl.name ≠ []) (hg : okGl S (SS cl.name) = true) (hes : SEs CX P F G k S (e :: es) cs) (hp : plainE e = true) (hp2 : es.all plainE = true) (hs : cs.star = false) :
    SE CX P F G k S (.Call (.Name (SS cl.name) p) (e :: es) [] pos) (.new C cs) := .val (fun _ _ => rfl) fun X W g bx hb' => by
  cases nofresh hb' rfl
  obtain ⟨gl, ndb, _⟩ := g.gl hg
  obtain ⟨kC, nm, _, _, _, _, mk⟩ := g.fix.cls C cl hc
  obtain ⟨M, di, hf⟩ := mk g0 hi
  obtain ⟨ds, dvs, w⟩ := g.given hf (cs.len + 1)
  have eC : P.cls C = cl := by unfold Prog.cls; rw [List.getD_eq_getElem?_getD, hc]; rfl
  refine ⟨fun pins s σ H Q I q => ?_⟩
  have key : tEs P F G W cs σ H fun vs H1 => ∀ x dx, H1 x = none → H1 dx = none → dx ≠ x →
      fnSp G F g0 di.arity (.ref x :: (vs ++ dvs)) (upd (upd H1 dx (.own x)) x (.ins (G.ca C) dx [])) (fun v H2 => v = .non ∧ Q (.ref x) H2) (fun c d H => W c d σ H) := by
    obtain ⟨κ, ρ, st, env, S1, h⟩ := q
    refine stepEs (OK := fun ρ st H => BP G false κ ρ st H Q) BP.mono S1 h fun vs s1 xs ρ1 H1 eq S2 E2 r1 h x dx hx hdx hne => ?_
    have h : RP (newOf P F C vs s1) (BP G false κ ρ1 s1 H1 Q) (XP G W σ κ ρ1 s1 H1) := h
    unfold newOf at h
    rw [eC, hi] at h
    dsimp only at h
    have R3 := rel_new (u := .own x) S2.rel hdx
    have E3 := ext_new (u := .own x) S2.rel hdx
    have hx3 : upd H1 dx (.own x) x = none := by rw [upd_ne (Ne.symm hne)]; exact hx
    have E4 := ext_push (u := .ins (G.ca C) dx []) (o := .ins C []) R3 hx3 rfl
    have R4 := rel_push (u := .ins (G.ca C) dx []) (o := .ins C []) R3 hx3 rfl ⟨dx, [], upd_same, .nil⟩
    have r4 : RepVs G (ρ1 ++ [x]) (Live κ (ρ1 ++ [x]) (s1 ++ [.ins C []])) (upd (upd H1 dx (.own x)) x (.ins (G.ca C) dx [])) (.loc s1.length :: vs) (.ref x :: xs) :=
      .cons (.loc (by rw [← S2.rel.len]; simp)) ((r1.ext E3).ext E4)
    refine sp_of (xs := .ref x :: xs) g hf w (by rw [List.length_cons, evEs_len cs env st vs s1 hs eq]) R4 r4 ?_
    refine (stepR h).imp (fun v s2 q y ρ' H' R' E' ry => ?_) fun c v s2 q y ρ' H' d R' E' ry hd => ?_
    · cases v with
      | non =>
        cases ry
        refine ⟨rfl, ?_⟩
        have ha : ρ'[s1.length]? = some x := E'.toPre.at_ (by rw [← S2.rel.len]; simp)
        cases ho : s2[s1.length]? with
        | none => rw [ho] at q; exact q.elim
        | some o =>
          rw [ho] at q
          cases o with
          | ins c' fs =>
            dsimp only at q
            split at q
            · rename_i hcc
              subst hcc
              split at q
              · cases he : exitR s1 (.rcd c' fs) (s2.set s1.length .gone) with
                | err => rw [he] at q; exact q.elim
                | exc c v s => rw [he] at q; unfold exitR at he; split at he <;> cases he
                | ok v' s3 =>
                  rw [he] at q
                  have R5 := rel_gone (l := s1.length) R'
                  have E5 := ext_gone (κ := κ) (ρ := ρ') (st := s2) (H := H') (l := s1.length)
                  obtain ⟨dx', fv, hv', rf⟩ := R'.obj _ _ _ ha ho
                  have nl : ¬ Live κ ρ' (s2.set s1.length .gone) x := fun z => by
                    rcases z with z | z
                    · exact (R'.hid x z).2 ⟨_, _, ha, ho, rfl⟩
                    · exact not_live_gone R' ha z
                  have rr : RepV G ρ' (Live κ ρ' (s2.set s1.length .gone)) H' (.rcd c' fs) (.ref x) := .rcd hv' nl (rf.ext E5)
                  obtain ⟨ρ6, R6, E6, r6⟩ := exit_ok S2.rel R5 (((E3.trans E4).trans E').trans E5) rr he
                  exact q _ ρ6 H' R6 E6 r6
              · exact q _ ρ' H' R' ((E3.trans E4).trans E') (.loc ha)
            · exact q.elim
          | _ => exact q.elim
      | _ => exact q.elim
    · exact q y ρ' H' d R' ((E3.trans E4).trans E') ry hd
  refine wpAny_Call_Name_kw (ld_glob I gl (nm hnm) ?_ ndb)
  refine PySem.W.callWith_K (h₀ := X.base) I.ok.mod.kin M.kp (thn ((hes X W g).run pos pins s σ H _ I key) fun us s1 ⟨vs, H1, I1, r, q1⟩ => ⟨I1.kIn, ?_⟩) (star_plain hp) (back_plain hp2)
  -- the instance is laid, its __init__ runs
  have I2 := Inv.made (C := G.ca C) I1
  have q2 := q1 (s1.heap.objs.size + 1) s1.heap.objs.size (I1.hok.fresh (Nat.le_succ _)) (I1.hok.fresh (Nat.le_refl _)) (Nat.ne_of_lt (Nat.lt_succ_self _))
  have rr : Vals (V.ref (s1.heap.objs.size + 1) :: (vs ++ dvs)) (Value.ref (s1.heap.objs.size + 1) :: (us ++ ds)) := .cons rfl (r.append w.hd)
  have hl : (Value.ref (s1.heap.objs.size + 1) :: us ++ ds).length = (G.ps g0).length := by
    have e1 := rr.length
    rw [w.F.len _ _ _ _ q2] at e1
    exact e1.symm
  refine wpAny_call (make_map (f := G.fa g0) I1.kIn M.makes M.init (beq_iff_eq.mp M.fn) ?_)
  refine codeAny_mono (w.F.run _ X.stack _ _ ⟨Value.ref (s1.heap.objs.size + 1) :: us, []⟩ _ _ _ _ (g.room.make _ us []) (I2.env0.make _ us []) (w.hb _ (Value.ref (s1.heap.objs.size + 1) :: us) I2.kIn hl) rr q2) fun fl s' hq => ?_
  cases fl with
  | error er => exact g.pass σ pins _ _ er s' I2 hq
  | ok fl =>
    cases fl with
    | ret u =>
      obtain ⟨v, H', I3, rv, ev, q3⟩ := I2.after hq
      subst ev
      exact ⟨rv, ⟨V.ref (s1.heap.objs.size + 1), H', I3, rfl, q3⟩⟩
    | next => exact hq.elim
    | brk => exact hq.elim
    | cont => exact hq.elim
end
end MP
end MPl_text

section MPm_text
set_option Elab.async false
set_option linter.all false
set_option maxRecDepth 100000
/-! The items of a dict, as a list, as a tuple. -/
namespace MP
open PySem PySem.Spec PyProof.Rows L2
open DT (Raw Made)
section
variable {prog : Program} {w : World} {A : Around} {E : Value → Shared → Prop} {s : Shared} {r d : Addr} {es : Array DictEntry} {ep : Nat}
/-- list(view) -/
theorem list_view {Q : Value → Shared → Prop} (hh : A.handled = none) (hv : s.heap.IsItemsView r d) (hm : Raw s.heap d es ep) (hn : es.size ≤ sizeLine)
    (q : ∀ h' tk acc c as, (∀ b o, s.heap.get? b = some o → h'.get? b = some o) → h'.get? s.heap.objs.size = some { cls := .type "list", dict := none, data := .seq acc c, slots := #[] } → as.length = es.size → Made es s.heap.objs.size h' as →
      acc.toList = as.map Value.ref → Q (.ref s.heap.objs.size) { s with heap := h', toks := tk }) : wpAny (model prog w) A (call (.type "list") [.ref r]) Q E s := by
  have lr : r < s.heap.objs.size := let ⟨_, ho, _⟩ := hv; Heap.lt_size ho
  have ld : d < s.heap.objs.size := hm.lt
  generalize hN : s.heap.objs.size = N at lr ld q
  have at0 : (s.heap.push { cls := .type "list", data := .seq #[] }).get? N = some { cls := .type "list", data := .seq #[] } := by rw [← hN]; exact Heap.get?_push_size _ rfl
  refine callType_codes (Q₁ := fun obj s₁ => obj = .ref N ∧ s₁ = { s with heap := s.heap.push { cls := .type "list", data := .seq #[] } }) PySem.F.called_list (PySem.F.typeCall_list_1 _) PySem.F.entry_list_init (code_list_new _ ⟨by rw [hN], rfl⟩) ?_
  rintro obj s₁ ⟨rfl, rfl⟩
  refine ⟨⟨_, at0, rfl⟩, PySem.F.args_list_init_2 _ _, ?_⟩
  show wpAny _ _ (do let old ← Builtin.List.listItems (.ref N); Builtin.List.listUpdate (.ref N) (fun _ => #[]); letGo old.toList.reverse; Builtin.List.listExtendWith (.ref N) (.ref r) .none) _ _ _
  refine wpAny_bind ?_
  unfold Builtin.List.listItems
  refine wpAny_bind (wpAny_seqItems at0 rfl (wpAny_pure ?_))
  show wpAny _ _ (updateSeq N (fun _ => #[]) >>= fun _ => letGo (#[] : Array Value).toList.reverse >>= fun _ => Builtin.List.listExtendWith (.ref N) (.ref r) .none) _ _ _
  refine wpAny_bind (wpAny_updateSeq at0 rfl ?_)
  have at1 := Heap.get?_update_self (Obj.mapSeq (fun _ => (#[] : Array Value))) at0 rfl
  have old : ∀ b o, s.heap.get? b = some o → ((s.heap.push { cls := .type "list", data := .seq #[] }).update N (Obj.mapSeq (fun _ => (#[] : Array Value)))).get? b = some o := fun b o e =>
    (Heap.get?_update_other _ _ (by rw [← hN]; exact Nat.ne_of_gt (Heap.lt_size e))).trans (Heap.get?_push_of_some _ e)
  refine wpAny_bind (wpAny_letGo ?_)
  refine DT.extI (es := es) (ep := ep) (A := A.in1) hh (let ⟨o, ho, x⟩ := hv; ⟨o, old r o ho, x⟩) (hm.at' fun o e => old d o e) N (Nat.ne_of_gt lr) (Nat.ne_of_lt ld) .none _ at1 (fun h' tk acc c as k1 k2 k3 k4 k5 => ?_) hn
  exact ⟨rfl, q h' tk acc c as (fun b o e => k1 b o (by rw [← hN]; exact Nat.ne_of_lt (Heap.lt_size e)) (old b o e)) k2 k3 (k4.low (Nat.le_of_lt (Heap.lt_size at1))) k5⟩
/-- tuple(view) -/
theorem tuple_view {Q : Value → Shared → Prop} (hh : A.handled = none) (hv : s.heap.IsItemsView r d) (hm : Raw s.heap d es ep) (hn : es.size ≤ sizeLine)
    (q : ∀ h' tk as, (∀ b o, s.heap.get? b = some o → h'.get? b = some o) → as.length = es.size → Made es s.heap.objs.size h' as → Q (.ref h'.objs.size) { s with heap := h'.push { cls := .type "tuple", data := .seq (as.map Value.ref).toArray }, toks := tk }) :
    wpAny (model prog w) A (call (.type "tuple") [.ref r]) Q E s := by
  refine callType_codes (Q₁ := fun obj s₁ => s₁.TypeIs obj "tuple" ∧ Q obj s₁) PySem.F.called_tuple (PySem.F.typeCall_tuple_1 _) PySem.F.entry_object_init ?_ fun obj s₁ h₁ => ?_
  · refine codeAny_of_tree ?_
    show wpAny _ A.in1.in1 (do checkBuiltinCall "tuple.__new__" ⟨[.type "tuple", .ref r], []⟩; again (.builtin "tuple.__new__" ⟨[.type "tuple", .ref r], []⟩)) _ _ s
    refine wpAny_bind (wpAny_of_eq (PySem.F.newCall_tuple_1 _) (wpAny_pure ⟨plainId_quiet PySem.F.plain_tuple_new _, codeAny_builtin PySem.F.entry_tuple_new ?_⟩))
    rw [Around.under_plainId PySem.F.plain_tuple_new _]
    have t0 := sub_tuple_self
    have t1 := init_tuple_lookup
    have t2 := madeHere_tuple
    have ty : s.TypeIs (.ref r) "dict_items" := hv.typeIs
    wp_walk using wpAny_typeOf ty, DT.collectI (A := A.in1.in1) hh hv hm hn
    intro h' tk as k1 k2 k3 k4
    show wpAny _ _ (Builtin.Tuple.tupleExact (as.map Value.ref).toArray >>= fun v => ret v) _ _ _
    unfold Builtin.Tuple.tupleExact
    refine wpAny_bind (wpAny_newObj_type ?_ (by show (as.map Value.ref).toArray.size ≤ sizeLine; rw [List.size_toArray, List.length_map, k3]; exact hn))
    exact wpAny_pure ⟨⟨_, Heap.get?_push_size _ rfl, rfl⟩, q h' tk as k1 k3 k4⟩
  · exact ⟨h₁.1, PySem.F.args_object_init_2 obj _, object_init_meets PySem.F.called_tuple.init.lookup PySem.F.called_tuple.made (by decide) prog w A.in1 _ s₁ ⟨h₁.1, rfl, h₁.2⟩⟩
end

/-! ### the same by values -/
section
variable {G : Wd} {κ : Addr → Prop} {ρ : List Addr} {st : Sto} {H : Hp} {X : Cx} {pins : List (Addr × Obj)} {σ : L2.St} {s : Shared}
theorem rept_rep (R : HRel G κ ρ st H) {k : CV} {y : List Key} {b : Addr} (h : RepT k y) (e : H b = some (.tup (y.map kV))) : RepV G ρ (Live κ ρ st) H k (.ref b) := by
  obtain ⟨ns, rfl, rfl⟩ := h
  have e2 : (ns.map Sum.inl : List Key).map kV = ns.map V.int := by rw [List.map_map]; rfl
  rw [e2] at e
  exact .tup e (R.tup e) (repInts ns)
theorem repk_rep {L : Addr → Prop} {k : CV} {y : Key} (h : RepK k y) : RepV G ρ L H k (kV y) := by
  cases h with
  | int i => exact .int i
  | str x => exact .str x
/-- an entry, by what it stands for -/
def EntV (q : V × V) (e : DictEntry) : Prop := RelV q.1 e.key ∧ RelV q.2 e.val
def RepP (G : Wd) (ρ : List Addr) (L : Addr → Prop) (H : Hp) (c : CV × CV) (q : V × V) : Prop := RepV G ρ L H c.1 q.1 ∧ RepV G ρ L H c.2 q.2
theorem ents_k {knd : PySem.KeyKind X.prog X.w Key} (hk : ∀ k v, knd.is k v = keyIs k v) : ∀ {kvs : List (Key × V)} {vs : List (Key × Value)} {es : List DictEntry} {cs : List (CV × CV)}, KV kvs vs → PySem.Pairs knd es vs → RepDs G ρ (Live κ ρ st) H cs kvs → ∃ qs, Paired EntV qs es ∧ Paired (RepP G ρ (Live κ ρ st) H) cs qs
  | _, _, _, _, .nil, .nil, .nil => ⟨[], .nil, .nil⟩
  | (k, v) :: kvs, (k', u) :: vs, e :: es, c :: cs, .cons h t, .cons p1 p2 p, .cons q1 q2 q => by
    obtain ⟨qs, a1, a2⟩ := ents_k hk t p q
    rw [hk] at p1
    have h1 : k = k' := h.1
    subst h1
    exact ⟨(kV k, v) :: qs, .cons ⟨relV_key p1, by rw [p2]; exact h.2⟩ a1, .cons ⟨repk_rep q1, q2⟩ a2⟩
theorem ents_t (R : HRel G κ ρ st H) {kn : PySem.HeapKind X.prog X.w (List Key)} : ∀ {kvs : List (List Key × V)} {xs : List (List Key × Addr × Value)} {es : List DictEntry} {cs : List (CV × CV)}, KT H kvs xs → es = xs.map (entryOfKey kn) → RepTs G ρ (Live κ ρ st) H cs kvs → ∃ qs, Paired EntV qs es ∧ Paired (RepP G ρ (Live κ ρ st) H) cs qs
  | _, _, _, _, .nil, e, .nil => by subst e; exact ⟨[], .nil, .nil⟩
  | (k, v) :: kvs, (k', b, u) :: xs, es, c :: cs, .cons h t, e, .cons q1 q2 q => by
    subst e
    obtain ⟨qs, a1, a2⟩ := ents_t R t rfl q
    exact ⟨(.ref b, v) :: qs, .cons ⟨rfl, h.2.2⟩ a1, .cons ⟨rept_rep R q1 h.2.1, q2⟩ a2⟩
theorem VP.mono {bx : Bool} {v : CV} {Q : VK} {ρ1 : List Addr} {H1 : Hp} (e : Ext κ ρ st H ρ1 st H1) (h : VP G bx κ ρ st H v Q) : VP G bx κ ρ1 st H1 v Q := BP.mono (bx := bx) e h
/-- the dict's entries -/
theorem ents_of (R : HRel G κ ρ st H) (I : Inv X pins σ H s) {t : Bool} {kvs : List (CV × CV)} {d : Addr} (h : DRep G ρ (Live κ ρ st) H t kvs d) :
    ∃ es ep qs, DT.Raw s.heap d es ep ∧ (d == sysModules) = false ∧ es.size ≤ sizeLine ∧ Paired EntV qs es.toList ∧ Paired (RepP G ρ (Live κ ρ st) H) kvs qs := by
  cases t with
  | false =>
    obtain ⟨ws, e, r⟩ := h
    obtain ⟨z, hd, vs, rel, o, es, ep, h1, h2, h3, h4, h5, h6⟩ := dk_of I.hok e
    obtain ⟨qs, a1, a2⟩ := ents_k (X := X) (κ := κ) (st := st) (mixKind_is X.prog X.w) rel h5 r
    have l1 := Paired.length a1
    have l2 := Paired.length a2
    have l3 := r.length
    have l4 : es.toList.length = es.size := Array.length_toList
    exact ⟨es, ep, qs, ⟨o, h1, h2, h3⟩, hd, by omega, a1, a2⟩
  | true =>
    obtain ⟨ws, e, r⟩ := h
    obtain ⟨z, hd, xs, rel, o, es, ep, h1, h2, h3, h4, h5⟩ := dt_of I.hok e
    obtain ⟨qs, a1, a2⟩ := ents_t (X := X) R rel h4 r
    have l1 := Paired.length a1
    have l2 := Paired.length a2
    have l3 := r.length
    have l4 : es.toList.length = es.size := Array.length_toList
    exact ⟨es, ep, qs, ⟨o, h1, h2, h3⟩, hd, by omega, a1, a2⟩
/-- the pairs that were made, tracked -/
theorem made_track (R : HRel G κ ρ st H) (I : Inv X pins σ H s) {es : Array DictEntry} {qs : List (V × V)} {kvs : List (CV × CV)} {h' : Heap} {tk : Nat} {as : List Addr} (hk : ∀ b o, s.heap.get? b = some o → h'.get? b = some o) (hl : as.length = es.size)
    (hm : DT.Made es s.heap.objs.size h' as) (p1 : Paired EntV qs es.toList) (p2 : Paired (RepP G ρ (Live κ ρ st) H) kvs qs) :
    ∃ H2, Inv X pins σ H2 { s with heap := h', toks := tk } ∧ (∀ b o, H b = some o → H2 b = some o) ∧ (∀ b, b ∉ as → H2 b = H b) ∧ RepVs G ρ (Live κ ρ st) H2 (kvs.map fun p => CV.tup [p.1, p.2]) (as.map V.ref) := by
  have nd : as.Nodup := List.Pairwise.imp (fun {a b} (h : a < b) => Nat.ne_of_lt h) hm.rise
  have lq : qs.length = es.size := by rw [Paired.length p1, Array.length_toList]
  have lk : kvs.length = qs.length := Paired.length p2
  have low : ∀ a ∈ as, H a = none := fun a ha => I.hok.fresh (Nat.le_of_lt (hm.above a ha))
  -- one by one
  have go : ∀ (L : List Addr) (H1 : Hp), Inv X pins σ H1 { s with heap := h', toks := tk } → L.Nodup → (∀ a ∈ L, a ∈ as ∧ H1 a = none) →
      ∃ H2, Inv X pins σ H2 { s with heap := h', toks := tk } ∧ (∀ b o, H1 b = some o → H2 b = some o) ∧ (∀ b, b ∉ L → H2 b = H1 b) ∧ ∀ a ∈ L, ∀ (j : Nat), as[j]? = some a → ∃ q : V × V, qs[j]? = some q ∧ H2 a = some (.tup [q.1, q.2]) := by
    intro L
    induction L with
    | nil => intro H1 I1 _ _; exact ⟨H1, I1, fun _ _ e => e, fun _ _ => rfl, fun _ h => nomatch h⟩
    | cons a L ih =>
      intro H1 I1 hn h
      obtain ⟨ha, hn1⟩ := h a List.mem_cons_self
      obtain ⟨j, hj⟩ := List.getElem?_of_mem ha
      obtain ⟨e, he, hg⟩ := hm.pairs j a hj
      have hlt : j < qs.length := by
        have := (Array.getElem?_eq_some_iff.mp he).1
        omega
      obtain ⟨e', he', ev⟩ : ∃ e', es.toList[j]? = some e' ∧ EntV qs[j] e' := LiI.paired_get p1 (List.getElem?_eq_getElem hlt)
      rw [Array.getElem?_toList, he] at he'
      cases he'
      have I2 : Inv X pins σ (upd H1 a (.tup [qs[j].1, qs[j].2])) { s with heap := h', toks := tk } := I1.take (h' := h') (t' := tk) (fun b ob _ e => e) (I.fpOk (Nat.le_of_lt (hm.above a ha)) hn1)
        ⟨by show 2 ≤ sizeLine; decide, [e.key, e.val], .cons ev.1 (.cons ev.2 .nil), ⟨_, hg, rfl, _, rfl⟩⟩
      rw [List.nodup_cons] at hn
      obtain ⟨H2, I3, k1, k2, k3⟩ := ih _ I2 hn.2 fun b hb => ⟨(h b (List.mem_cons_of_mem _ hb)).1, by rw [upd_ne fun z => hn.1 (by rw [← z]; exact hb)]; exact (h b (List.mem_cons_of_mem _ hb)).2⟩
      refine ⟨H2, I3, fun b o e => k1 b o (by rw [upd_ne (ne_of_none e hn1)]; exact e), fun b hb => ?_, fun b hb i hi => ?_⟩
      · rw [k2 b fun z => hb (List.mem_cons_of_mem _ z), upd_ne fun z => hb (by rw [z]; exact List.mem_cons_self)]
      · rcases List.mem_cons.mp hb with e1 | hb
        · subst e1
          have : i = j := by
            obtain ⟨i1, z1⟩ := List.getElem?_eq_some_iff.mp hi
            obtain ⟨i2, z2⟩ := List.getElem?_eq_some_iff.mp hj
            exact (List.getElem_inj nd).mp (z1.trans z2.symm)
          subst this
          exact ⟨qs[i], List.getElem?_eq_getElem hlt, by rw [k2 b hn.1, upd_same]⟩
        · exact k3 b hb i hi
  obtain ⟨H2, I2, k1, k2, k3⟩ := go as H (I.kept hk) nd fun a ha => ⟨ha, low a ha⟩
  refine ⟨H2, I2, k1, k2, ?_⟩
  have E := ext_more R k1
  have R2 := rel_more R k1
  -- as values
  have fin : ∀ (n : Nat) (ks : List (CV × CV)) (bs : List Addr) (ps : List (V × V)), (∀ j : Nat, bs[j]? = as[n + j]?) → (∀ j : Nat, ps[j]? = qs[n + j]?) → bs.length = ks.length → Paired (RepP G ρ (Live κ ρ st) H) ks ps → RepVs G ρ (Live κ ρ st) H2 (ks.map fun p => CV.tup [p.1, p.2]) (bs.map V.ref) := by
    intro n ks
    induction ks generalizing n with
    | nil =>
      intro bs ps _ _ hl _
      cases bs with
      | nil => exact .nil
      | cons b bs => cases hl
    | cons c ks ih =>
      intro bs ps h1 h2 hl hp
      cases bs with
      | nil => cases hl
      | cons b bs =>
        cases hp with
        | @cons _ q _ ps' hq hp =>
          have hb : as[n]? = some b := by
            have := h1 0
            simpa using this.symm
          have hq' : qs[n]? = some q := by
            have := h2 0
            simpa using this.symm
          obtain ⟨q', e1, e2⟩ := k3 b (List.mem_of_getElem? hb) n hb
          rw [hq'] at e1
          cases e1
          refine .cons (.tup e2 (R2.tup e2) (.cons (hq.1.ext E) (.cons (hq.2.ext E) .nil))) (ih (n + 1) bs ps' (fun j => ?_) (fun j => ?_) (by simpa using hl) hp)
          · have := h1 (j + 1)
            rw [List.getElem?_cons_succ] at this
            rw [this]
            congr 1
            omega
          · have := h2 (j + 1)
            rw [List.getElem?_cons_succ] at this
            rw [this]
            congr 1
            omega
  exact fin 0 kvs as qs (fun j => by rw [Nat.zero_add]) (fun j => by rw [Nat.zero_add]) (by omega) p2
end
/-- what is asked of a view -/
def rView (G : Wd) (bx tup : Bool) : List V → Hp → VK → Prop := fun xs H Q => ∃ κ ρ st r d t kvs, xs = [V.ref r] ∧ HRel G κ ρ st H ∧ H r = some (DX.itemsO r d) ∧ DRep G ρ (Live κ ρ st) H t kvs d ∧
  VP G bx κ ρ st H (if tup then .tup (kvs.map fun p => .tup [p.1, p.2]) else .lst (kvs.map fun p => .tup [p.1, p.2])) Q
section
variable {X : Cx} {G : Wd} {bx : Bool}
theorem fn_litems (hc : X.calm = true) : CallR X (.type "list") (rView G bx false) := by
  intro pins s σ H xs us Q I r h
  obtain ⟨κ, ρ, st, v, d, t, kvs, rfl, R, hv, hd, k⟩ := h
  rw [Vals.ref1 r]
  obtain ⟨es, ep, qs, raw, hs, hz, p1, p2⟩ := ents_of R I hd
  have view : s.heap.IsItemsView v d := (show ObjOk X.prog X.w H s.heap v (DX.itemsO v d) from I.hok v _ hv).1
  refine list_view (I.ok.hd hc) view raw hz fun h' tk acc c as k1 k2 k3 k4 k5 => ?_
  obtain ⟨H2, I2, m1, m2, rr⟩ := made_track (tk := tk) R I k1 k3 k4 p1 p2
  have nN : s.heap.objs.size ∉ as := fun z => Nat.lt_irrefl _ (k4.above _ z)
  have hN : H2 s.heap.objs.size = none := by rw [m2 _ nN]; exact I.hok.fresh (Nat.le_refl _)
  have I3 : Inv X pins σ (upd H2 s.heap.objs.size (.lst (as.map V.ref))) { s with heap := h', toks := tk } := I2.take (h' := h') (t' := tk) (fun b ob _ e => e) (I.fpOk (Nat.le_refl _) hN)
    ⟨by rw [List.length_map, k3]; exact hz, as.map Value.ref, c, LiI.vals_refs as, by rw [k2, ← k5, Array.toArray_toList]⟩
  exact ⟨.ref s.heap.objs.size, _, I3, rfl, VP.lst (rel_more R m1) (VP.mono (ext_more R m1) k) rr hN⟩
theorem fn_titems (hc : X.calm = true) : CallR X (.type "tuple") (rView G bx true) := by
  intro pins s σ H xs us Q I r h
  obtain ⟨κ, ρ, st, v, d, t, kvs, rfl, R, hv, hd, k⟩ := h
  rw [Vals.ref1 r]
  obtain ⟨es, ep, qs, raw, hs, hz, p1, p2⟩ := ents_of R I hd
  have view : s.heap.IsItemsView v d := (show ObjOk X.prog X.w H s.heap v (DX.itemsO v d) from I.hok v _ hv).1
  refine tuple_view (I.ok.hd hc) view raw hz fun h' tk as k1 k3 k4 => ?_
  obtain ⟨H2, I2, m1, m2, rr⟩ := made_track (tk := tk) R I k1 k3 k4 p1 p2
  have hN : H2 h'.objs.size = none := I2.hok.fresh (Nat.le_refl _)
  have I3 : Inv X pins σ (upd H2 h'.objs.size (.tup (as.map V.ref))) { s with heap := h'.push { cls := .type "tuple", data := .seq (as.map Value.ref).toArray }, toks := tk } :=
    I2.laid (t' := tk) (fun b u e => Heap.get?_push_of_some _ e) (Nat.le_refl _) ⟨by rw [List.length_map, k3]; exact hz, as.map Value.ref, LiI.vals_refs as, ⟨_, Heap.get?_push_size _ rfl, rfl, _, rfl⟩⟩
  exact ⟨.ref h'.objs.size, _, I3, rfl, VP.tup (rel_more R m1) (VP.mono (ext_more R m1) k) rr hN⟩
/-- e.items() -/
def rItemsV (G : Wd) : V → List V → Hp → VK → Prop := fun x xs H Q => ∃ κ ρ st d t kvs, x = .ref d ∧ xs = [] ∧ HRel G κ ρ st H ∧ DRep G ρ (Live κ ρ st) H t kvs d ∧ ∀ p, H p = none → Q (.ref p) (upd H p (DX.itemsO p d))
theorem mp_items : MtM X "dict.items" (rItemsV G) := by
  intro pins s σ H x xs v us Q I rx rs h
  obtain ⟨κ, ρ, st, d, t, kvs, rfl, rfl, R, hd, q⟩ := h
  cases rx
  cases rs
  obtain ⟨es, ep, qs, raw, hs, hz, p1, p2⟩ := ents_of R I hd
  refine DT.callItems (es := es) (ep := ep) hs raw ?_
  have hf : H s.heap.objs.size = none := I.hok.fresh (Nat.le_refl _)
  exact ⟨.ref s.heap.objs.size, upd H s.heap.objs.size (DX.itemsO s.heap.objs.size d), I.laid (t' := s.toks) (fun b u e => Heap.get?_push_of_some _ e) (Nat.le_refl _) (DX.itemsO_ok (Heap.get?_push_size _ rfl)), rfl, q _ hf⟩
end
end MP
end MPm_text

section MPn_text
set_option Elab.async false
set_option linter.all false
set_option maxRecDepth 100000
/-! Built-in functions, methods, types, displays of dicts, as expressions. -/
namespace MP
open PySem PySem.Spec PyProof.Rows L2

/-- the name of a built-in function; a type's -/
def Bfn.nm : Bfn → Bool × String
  | .len => (false, "len") | .abs => (false, "abs") | .min2 => (false, "min") | .max2 => (false, "max") | .maxl => (false, "max") | .minl => (false, "min")
  | .sum => (false, "sum") | .all => (false, "all") | .any => (false, "any") | .sorted => (false, "sorted")
  | .int => (true, "int") | .str => (true, "str") | .list => (true, "list") | .tuple => (true, "tuple") | .dict => (true, "dict")
  | _ => (false, "")
def Bfn.v (b : Bfn) : Value := if b.nm.1 then .type b.nm.2 else .builtin b.nm.2
theorem boot_bfn (b : Bfn) (h : b.nm.2 ≠ "") : bootBuiltins (Str.ofString b.nm.2) = some b.v := by
  cases b <;> first | exact absurd rfl h | decide +kernel
section
variable {CX : CXT} {P : Prog} {F : Fns} {G : Wd} {k : Nat} {S : Cst} {W : WX} {X : Cx} {e a b d : Expr} {c ca cb cd : CE} {pos : Pos}
theorem bfn_rule (g : Okay CX P F G k S W X) (bx : Bool) (b : Bfn) (h : b.nm.2 ≠ "") : CallR X b.v (rBfn G bx b) := by
  cases b with
  | len => exact fn_len g.hK
  | abs => exact fn_abs
  | min2 => exact fn_min2 g.calm
  | max2 => exact fn_max2 g.calm
  | maxl => exact fn_maxl g.calm
  | minl => exact fn_minl g.calm
  | sum => exact fn_sum g.calm
  | all => exact fn_all g.calm
  | any => exact fn_any g.calm
  | sorted => exact fn_sorted g.calm
  | int => exact fn_int' g.calm
  | str => exact fn_str
  | list => exact fn_list g.hK
  | tuple => exact fn_tuple g.hK
  | dict => exact fn_dict g.hK g.calm
  | _ => exact absurd rfl h
theorem bfn_key {bx : Bool} {b : Bfn} {cs : CEs} {σ : L2.St} {H : Hp} {Q : VK} (h : tE P F G W bx (.bfn b cs) σ H Q) : tCB (rBfn G bx b) (tEs P F G W cs) σ H Q := by
  obtain ⟨κ, ρ, st, env, S1, h⟩ := h
  refine stepEs (OK := fun ρ st H => BP G bx κ ρ st H Q) BP.mono S1 h fun vs s1 xs ρ1 H1 _ S2 E2 r1 h => ?_
  obtain ⟨v, hv, h⟩ := RP.ofO h
  exact ⟨κ, ρ1, s1, vs, v, S2.rel, r1, hv, h.vp⟩
theorem se_bfn {f : Bfn} {es : List Expr} {cs : CEs} {x : Str} {p : Pos} (hn : f.nm.2 ≠ "") (hg : okBlt S x f.nm.2 = true) (hes : SEs CX P F G k S (e :: es) cs) (hp : plainE e = true) (hp2 : es.all plainE = true) :
    SE CX P F G k S (.Call (.Name x p) (e :: es) [] pos) (.bfn f cs) := .val (fun _ _ => rfl) fun X W g bx hb' => by
  obtain ⟨ex, gl, m, nd, nn⟩ := g.blt hg
  have hv := boot_bfn f hn
  rw [← ex] at hv
  have rule := bfn_rule g bx f hn
  refine PE.imp (t := tCB (rBfn G bx f) (tEs P F G W cs)) ?_ fun σ H Q h => bfn_key h
  unfold Bfn.v at hv rule
  cases ht : f.nm.1 with
  | true =>
    rw [ht, if_pos rfl] at hv rule
    exact pe_callTy rule gl m hv (hes X W g) nn nd (star_plain hp) (back_plain hp2)
  | false =>
    rw [ht, if_neg (by decide)] at hv rule
    exact pe_callB rule gl m hv (hes X W g) nn nd (star_plain hp) (back_plain hp2)
/-- list(range(..)) -/
theorem rgV_rep {L : Addr → Prop} {ρ : List Addr} {H : Hp} (i j : Int) : RepVs G ρ L H (rangeL i j) (rgV i j) := by
  unfold rangeL rgV
  generalize List.range (j - i).toNat = l
  induction l with
  | nil => exact .nil
  | cons n r ih => exact .cons (.int _) ih
theorem rngOk_ok {i j : Int} (h : rngOk i j = true) : RgOk i j := by
  unfold rngOk at h
  simp only [Bool.and_eq_true, decide_eq_true_eq] at h
  exact ⟨by omega, by omega, by omega, by omega, by omega⟩
theorem se_rng1 {x y : Str} {p p2 pos2 : Pos} (hg : okBlt S x "list" = true) (hg2 : okBlt S y "range" = true) (ha : SE CX P F G k S a ca) (hp : plainE a = true) {f : Bool} :
    SE CX P F G k S (.Call (.Name x p) [.Call (.Name y p2) [a] [] pos2] [] pos) (.bfn .rng1 (.cons false ca .nil)) := .val (fun _ _ => rfl) fun X W g bx hb' => by
  obtain ⟨rfl, gl, m, nd, nn⟩ := g.blt hg
  obtain ⟨rfl, gl2, m2, nd2, nn2⟩ := g.blt hg2
  refine (pe_listRg g.calm gl m (prg_1 gl2 m2 (ha.pe g) (star_plain hp))).imp fun σ H Q ⟨κ, ρ, st, env, S1, h⟩ => ?_
  have h : RP (((evE P F ca env st).bind fun x s1 => R.ok [x] s1).bind fun as s1 => ofO (bfnop s1 .rng1 as) s1) (BP G bx κ ρ st H Q) (XP G W σ κ ρ st H) := h
  have h : RP ((evE P F ca env st).bind fun x s1 => ofO (bfnop s1 .rng1 [x]) s1) (BP G bx κ ρ st H Q) (XP G W σ κ ρ st H) := by
    cases hv : evE P F ca env st <;> (rw [hv] at h; exact h)
  refine stepE (OK := fun ρ st H => BP G bx κ ρ st H Q) BP.mono S1 h fun v s1 xv ρ1 H1 _ S2 E2 r1 h => ?_
  obtain ⟨z, hz, h⟩ := RP.ofO h
  have hz : bRng1 v = some z := hz
  unfold bRng1 at hz
  split at hz
  · split at hz
    · rename_i hr
      cases hz
      cases r1
      exact ⟨_, rfl, rngOk_ok hr, fun q hq => VP.lst S2.rel h.vp (rgV_rep _ _) hq⟩
    · cases hz
  · cases hz
theorem se_rng2 {x y : Str} {p p2 pos2 : Pos} (hg : okBlt S x "list" = true) (hg2 : okBlt S y "range" = true) (ha : SE CX P F G k S a ca) (hb : SE CX P F G k S b cb) (hp : plainE a = true) (hp2 : plainE b = true) :
    SE CX P F G k S (.Call (.Name x p) [.Call (.Name y p2) [a, b] [] pos2] [] pos) (.bfn .rng2 (.cons false ca (.cons false cb .nil))) := .val (fun _ _ => rfl) fun X W g bx hb' => by
  obtain ⟨rfl, gl, m, nd, nn⟩ := g.blt hg
  obtain ⟨rfl, gl2, m2, nd2, nn2⟩ := g.blt hg2
  refine (pe_listRg g.calm gl m (prg_2 gl2 m2 (ha.pe g) (hb.pe g) (star_plain hp) (star_plain hp2) (back_plain (by simp [hp2])))).imp fun σ H Q ⟨κ, ρ, st, env, S1, h⟩ => ?_
  have h : RP ((evE P F ca env st).bind fun x s1 => (evE P F cb env s1).bind fun y s2 => ofO (bfnop s2 .rng2 [x, y]) s2) (BP G bx κ ρ st H Q) (XP G W σ κ ρ st H) := by
    have h : RP (((evE P F ca env st).bind fun x s1 => ((evE P F cb env s1).bind fun y s2 => R.ok [y] s2).bind fun ys s2 => R.ok (x :: ys) s2).bind fun as s1 => ofO (bfnop s1 .rng2 as) s1) (BP G bx κ ρ st H Q) (XP G W σ κ ρ st H) := h
    cases hv : evE P F ca env st with
    | ok x s1 =>
      rw [hv] at h
      rw [R.bind_ok] at h ⊢
      cases hw : evE P F cb env s1 <;> (rw [hw] at h; exact h)
    | exc c v s => rw [hv] at h; exact h
    | err => rw [hv] at h; exact h
  refine stepE (OK := fun ρ st H => BP G bx κ ρ st H Q) BP.mono S1 h fun v s1 xv ρ1 H1 _ S2 E2 r1 h => ?_
  refine stepE (OK := fun ρ st H => BP G bx κ ρ st H Q) BP.mono S2 h fun w s2 yv ρ2 H2 _ S3 E3 r2 h => ?_
  obtain ⟨z, hz, h⟩ := RP.ofO h
  have hz : bRng2 v w = some z := hz
  unfold bRng2 at hz
  split at hz
  · split at hz
    · rename_i hr
      cases hz
      cases r1; cases r2
      exact ⟨_, _, rfl, rfl, rngOk_ok hr, fun q hq => VP.lst S3.rel h.vp (rgV_rep _ _) hq⟩
    · cases hz
  · cases hz

/-! ### methods of built-in types -/
def Bm.nm : Bm → String × String × String
  | .append => ("list", "append", "list.append") | .extend => ("list", "extend", "list.extend") | .pop => ("list", "pop", "list.pop") | .popAt => ("list", "pop", "list.pop")
  | .get1 => ("dict", "get", "dict.get") | .get2 => ("dict", "get", "dict.get") | .split => ("str", "split", "str.split") | .join => ("str", "join", "str.join")
  | _ => ("", "", "")
theorem bm_slot (m : Bm) (h : m.nm.1 ≠ "") : PlainAttrs m.nm.1 ∧ Slot m.nm.1 (Str.ofString m.nm.2.1) m.nm.2.2 ∧ typeOf (.builtin m.nm.2.2) = pure (.type "method_descriptor") := by
  cases m with
  | append => exact ⟨PySem.F.plainAttrs_list, PySem.F.slot_list_append, PySem.F.type_list_append⟩
  | extend => exact ⟨PySem.F.plainAttrs_list, PySem.F.slot_list_extend, PySem.F.type_list_extend⟩
  | pop => exact ⟨PySem.F.plainAttrs_list, PySem.F.slot_list_pop, PySem.F.type_list_pop⟩
  | popAt => exact ⟨PySem.F.plainAttrs_list, PySem.F.slot_list_pop, PySem.F.type_list_pop⟩
  | get1 => exact ⟨PySem.F.plainAttrs_dict, PySem.F.slot_dict_get, PySem.F.type_dict_get⟩
  | get2 => exact ⟨PySem.F.plainAttrs_dict, PySem.F.slot_dict_get, PySem.F.type_dict_get⟩
  | split => exact ⟨PySem.F.plainAttrs_str, PySem.F.slot_str_split, PySem.F.type_str_split⟩
  | join => exact ⟨PySem.F.plainAttrs_str, PySem.F.slot_str_join, PySem.F.type_str_join⟩
  | _ => exact absurd rfl h
theorem bm_rule (g : Okay CX P F G k S W X) (m : Bm) (h : m.nm.1 ≠ "") : MtM X m.nm.2.2 (rBm G m) := by
  have hu : X.A.units + 1 < cLine := by have := g.un; omega
  cases m with
  | append => exact mp_append
  | extend => exact mp_extend
  | pop => exact mp_pop
  | popAt => exact mp_popAt
  | get1 => exact mp_get1 hu
  | get2 => exact mp_get2 hu
  | split => exact mp_split
  | join => exact mp_join g.hK
  | _ => exact absurd rfl h
theorem bm_ty {K : PySem.W.Frag} {κ : Addr → Prop} {ρ : List Addr} {st : Sto} {H : Hp} {m : Bm} {v : CV} {x : V} (h : m.nm.1 ≠ "") (R : HRel G κ ρ st H) (r : RepV G ρ (Live κ ρ st) H v x) (ty : bmTy st m v = true) : tyV K m.nm.1 x H := by
  have lst : (lstOf st v).isSome = true → tyV K "list" x H := fun q => by
    obtain ⟨xs, hx⟩ := Option.isSome_iff_exists.mp q
    obtain ⟨p, vs, rfl, hp, _⟩ := lstOf_rep R r hx
    exact .inl ⟨rfl, vs, SqL.of hp⟩
  have dic : (dicOf st v).isSome = true → tyV K "dict" x H := fun q => by
    obtain ⟨⟨t, kvs⟩, hx⟩ := Option.isSome_iff_exists.mp q
    obtain ⟨p, rfl, hp⟩ := dicOf_rep R r hx
    cases t with
    | false => obtain ⟨ws, e, _⟩ := hp; exact .inr (.inr (.inl ⟨rfl, .inl ⟨ws, e⟩⟩))
    | true => obtain ⟨ws, e, _⟩ := hp; exact .inr (.inr (.inl ⟨rfl, .inr ⟨ws, e⟩⟩))
  have str : bmTy st .split v = true → tyV K "str" x H := fun q => by
    cases v with
    | str z => cases r; rfl
    | _ => cases q
  cases m with
  | append => exact lst ty
  | extend => exact lst ty
  | pop => exact lst ty
  | popAt => exact lst ty
  | get1 => exact dic ty
  | get2 => exact dic ty
  | split => exact str ty
  | join => exact str ty
  | _ => exact absurd rfl h
theorem bm_few {es : List Expr} {env : PySem.Env} {cpos : Pos} (hp : es.all plainE = true) (hl : es.length < 30) : ((backTo cpos (starEach es env)).all (fun x => !x.1) && (backToKw cpos (keywordEach [] env)).all (fun x => x.1.isSome)
      && decide (es.length + ([] : List Keyword).length + (if ([] : List Keyword).isEmpty then 0 else 1) < 30)) = true := by
  rw [all_back, (star_none hp).2]
  simpa [backToKw, keywordEach] using hl
theorem bm_key {m : Bm} {cs : CEs} (hn : m.nm.1 ≠ "") {σ : L2.St} {H : Hp} {Q : VK} (h : tE P F G W false (.bm m ca cs) σ H Q) : tBM X.K m.nm.1 (rBm G m) (tE P F G W false ca) (tEs P F G W cs) σ H Q := by
  obtain ⟨κ, ρ, st, env, S1, h⟩ := h
  refine stepE (OK := fun ρ st H => BP G false κ ρ st H Q) BP.mono S1 h fun v s1 xv ρ1 H1 _ S2 E2 r1 h => ?_
  split at h
  · rename_i ty
    refine ⟨bm_ty hn S2.rel r1 ty, ?_⟩
    refine stepEs (OK := fun ρ st H => BP G false κ ρ st H Q) BP.mono S2 h fun vs s2 xs ρ2 H2 _ S3 E3 r2 h => ?_
    cases hm : bmop s2 m v vs with
    | none => rw [hm] at h; exact h.elim
    | some w =>
      obtain ⟨z, s3⟩ := w
      rw [hm] at h
      exact ⟨κ, ρ2, s2, v, vs, z, s3, S3.rel, r1.ext E3, r2, hm, h⟩
  · exact h.elim
theorem se_bm {m : Bm} {es : List Expr} {cs : CEs} {x : Str} {apos : Pos} (hn : m.nm.1 ≠ "") (hx : x = Str.ofString m.nm.2.1) (ha : SE CX P F G k S a ca) (h0 : noCall0 a = true) (hes : SEs CX P F G k S (e :: es) cs) (hp : (e :: es).all plainE = true) (hl : (e :: es).length < 30) (hline : (apos.endLine == pos.line) = true) :
    SE CX P F G k S (.Call (.Attribute a x apos) (e :: es) [] pos) (.bm m ca cs) := .val (fun _ _ => rfl) fun X W g bx hb' => by
  cases nofresh hb' rfl
  subst hx
  obtain ⟨s1, s2, s3⟩ := bm_slot m hn
  have hp2 := hp
  rw [List.all_cons] at hp2
  obtain ⟨h1, h2⟩ := Bool.and_eq_true_iff.mp hp2
  exact (pe_bm s1 s2 s3 (bm_rule g m hn) (ha.pe g) (hes X W g) (attr_plain h0) (bm_few hp hl) hline (star_plain h1) (back_plain h2)).imp fun σ H Q h => bm_key hn h
theorem se_bm0 {m : Bm} {x : Str} {apos : Pos} (hn : m.nm.1 ≠ "") (hx : x = Str.ofString m.nm.2.1) (ha : SE CX P F G k S a ca) (h0 : noCall0 a = true) (hline : (apos.endLine == pos.line) = true) :
    SE CX P F G k S (.Call (.Attribute a x apos) [] [] pos) (.bm m ca .nil) := .val (fun _ _ => rfl) fun X W g bx hb' => by
  cases nofresh hb' rfl
  subst hx
  obtain ⟨s1, s2, s3⟩ := bm_slot m hn
  refine (pe_bm0 s1 s2 s3 (bm_rule g m hn) (ha.pe g) (attr_plain h0) hline).imp fun σ H Q h => ?_
  obtain ⟨κ, ρ, st, env, S1, h⟩ := bm_key (X := X) hn h
  refine ⟨κ, ρ, st, env, S1, h.imp (fun v s1 q x ρ' H' R E r => ?_) fun _ _ _ h => h⟩
  obtain ⟨ty, κ, ρ, st, env, S1, h⟩ := q x ρ' H' R E r
  exact ⟨ty, h [] ρ H' S1.rel .refl .nil⟩
end
end MP
end MPn_text

section MSa_text
set_option Elab.async false
set_option linter.all false
set_option maxRecDepth 100000
set_option maxHeartbeats 4000000
/-! sorted(set(a list of ints)). -/
namespace MP
open PySem PySem.Spec PyProof.Rows L2
/-- the object of an empty set -/
abbrev setB (w : World) : Obj := ⟨.type "set", none, .set #[] 0 (.fresh 0 0 (!w.params.followText "set-order")), #[]⟩
section
variable {P1 : Program} {w1 : World} {A1 : Around} {E1 : Value → Shared → Prop} {s0 : Shared}
/-- the set is filled from a list -/
theorem fill_set {l0 : Addr} {its : Array Value} {R1 : Result → Shared → Prop} (ks : List Int) (hd : A1.handled = none) (il : s0.heap.IsList l0 its) (ia : IntsAre its.toList ks) (few : ks.length + 1 < scanBound)
    (z : ∀ (h2 : Heap) (t2 n2 : Nat), SetR w1 h2 s0.heap.objs.size (fun j => decide (j ∈ ks)) n2 → n2 ≤ ks.length → (∀ b o, s0.heap.get? b = some o → h2.get? b = some o) → R1 (.ok (.ret .none)) { s0 with heap := h2, toks := t2 }) :
    codeAny (model P1 w1) A1 (.builtin "set.update.loop" ⟨[.ref s0.heap.objs.size, .ref (s0.heap.objs.size + 1)], []⟩) R1 { s0 with heap := (s0.heap.push (setB w1)).push { cls := .type "list_iterator", data := .fields #[.ref l0, .int 0 0] } } := by
  have ln : its.size = ks.length := by
    have := IntsAre.length ia
    rwa [Array.length_toList] at this
  have g0 : (s0.heap.push (setB w1)).get? s0.heap.objs.size = some (setB w1) := Heap.get?_push_size _ rfl
  have z1 : (s0.heap.push (setB w1)).objs.size = s0.heap.objs.size + 1 := Heap.size_push ..
  have ll : l0 < s0.heap.objs.size := by obtain ⟨_, e, _⟩ := il; exact Heap.lt_size e
  have ne1 : l0 ≠ (s0.heap.push (setB w1)).objs.size := by rw [z1]; exact Nat.ne_of_lt (Nat.lt_succ_of_lt ll)
  have ok3 : A1.in1.handled = none := by simp [hd]
  have il1 : (s0.heap.push (setB w1)).IsList l0 its := il.push _
  have hv : ∀ (i : Nat) (v : Value), its[i]? = some v → ∃ k t, ks[i]? = some k ∧ v = .int k t := fun i v e => by
    have hi : i < ks.length := by rw [← ln]; exact (Array.getElem?_eq_some_iff.mp e).1
    obtain ⟨t, et⟩ := PyProof.Rows.IntsAre.int_at ia i v (by rw [Array.getElem?_toList]; exact e)
    refine ⟨ks[i], t, List.getElem?_eq_getElem hi, ?_⟩
    rw [et, List.getD_eq_getElem?_getD, List.getElem?_eq_getElem hi]
    rfl
  rw [← z1]
  refine set_update_ints ((Walks.list ok3 _ l0 ne1 its).toS) s0.heap.objs.size ?_ ks ln few hv (its.size - 0) 0 _ (by omega) (Nat.zero_le _) ⟨⟨_, Heap.get?_push_size _ rfl, rfl, rfl⟩, il1.push _⟩ ⟨0, Nat.le_refl 0, setR_new_at (Heap.get?_push_of_some _ g0)⟩ fun s2 n2 mv hn hs => ?_
  · rw [z1]
    simp only [List.mem_cons, List.not_mem_nil, or_false, not_or]
    exact ⟨Nat.ne_of_lt (Nat.lt_succ_self _), Nat.ne_of_gt ll⟩
  · obtain ⟨h2, gg, dd, t2, oo⟩ := s2
    obtain rfl : gg = s0.gens := mv.gens
    obtain rfl : dd = s0.drawn := mv.drawn
    obtain rfl : oo = s0.os := mv.os
    refine z h2 t2 n2 hs (by omega) fun b o e => ?_
    have b0 := Heap.lt_size e
    refine mv.heap b o ?_ (Heap.get?_push_of_some _ (Heap.get?_push_of_some _ e))
    rw [z1]
    simp only [List.mem_cons, List.not_mem_nil, or_false, not_or]
    exact ⟨Nat.ne_of_lt b0, Nat.ne_of_lt (Nat.lt_succ_of_lt b0)⟩
/-- set(a list) -/
theorem call_setL {l0 : Addr} {its : Array Value} {Q1 : Value → Shared → Prop} (ks : List Int) (hd : A1.handled = none) (il : s0.heap.IsList l0 its) (ia : IntsAre its.toList ks) (few : ks.length + 1 < scanBound)
    (z : ∀ (h2 : Heap) (t2 n2 : Nat), SetR w1 h2 s0.heap.objs.size (fun j => decide (j ∈ ks)) n2 → n2 ≤ ks.length → (∀ b o, s0.heap.get? b = some o → h2.get? b = some o) → Q1 (.ref s0.heap.objs.size) { s0 with heap := h2, toks := t2 }) :
    wpAny (model P1 w1) A1 (call (.type "set") [.ref l0]) Q1 E1 s0 := by
  obtain ⟨_, _, mro⟩ := F.called_set.mro
  have made := F.called_set.made
  have self := F.called_set.sub
  refine wpAny_call (codeAny_of_tree (wpAny_pure ⟨Code.quiet_builtin _ (by decide +kernel), codeAny_builtin F.entry_type_call ?_⟩))
  rw [Around.under_plain (weight_type_call_type "set" [.ref l0] []) rfl]
  have u1 := F.called_set.notType
  have u2 := F.called_set.canCreate
  have u3 := F.typeCall_set_1 (.ref l0)
  repeat any_goals (first | assumption | wp_step)
  refine codeAny_mono (code_set_led1 (.ref l0) (E := E1) (Q₁ := fun v s1 => v = .ref s0.heap.objs.size ∧ s1 = { s0 with heap := s0.heap.push (setB w1) }) ⟨rfl, rfl⟩) fun r s1 hr => ?_
  rcases r with e | (v | _ | _ | _) <;> first | exact hr | exact hr.elim | skip
  obtain ⟨rfl, rfl⟩ := hr
  have gS : (s0.heap.push (setB w1)).get? s0.heap.objs.size = some (setB w1) := Heap.get?_push_size _ rfl
  have tS : Shared.TypeIs { s0 with heap := s0.heap.push (setB w1) } (.ref s0.heap.objs.size) "set" := ⟨_, gS, rfl⟩
  have v1 := F.called_set.init.lookup
  have v2 := F.called_set.init.bind (.ref s0.heap.objs.size)
  repeat any_goals (first | assumption | wp_step)
  refine codeAny_mono (codeAny_call_builtin (R := wants (fun r s2 => r = .none ∧ ∃ h2 t2 n2, s2 = { s0 with heap := h2, toks := t2 } ∧ SetR w1 h2 s0.heap.objs.size (fun j => decide (j ∈ ks)) n2 ∧ n2 ≤ ks.length ∧ ∀ b o, s0.heap.get? b = some o → h2.get? b = some o) E1) F.called_set.init.plain F.entry_set_init (check_set_init_1 tS ?_)) fun r s2 hr => ?_
  · obtain ⟨ol, hol, hc, nn, hdt⟩ := id il
    obtain ⟨oc, od, oda, osl⟩ := ol
    simp only at hc hdt
    subst hc
    subst hdt
    have hol1 : (s0.heap.push (setB w1)).get? l0 = some { cls := .type "list", dict := od, data := .seq its nn, slots := osl } := Heap.get?_push_of_some _ hol
    have w1' := F.sub_list_set
    have w2' := F.sub_list_frozenset
    have w3' : (Value.type "list" == Value.type "dict") = false := by decide
    have il1 : (s0.heap.push (setB w1)).IsList l0 its := ⟨_, hol1, rfl, nn, rfl⟩
    have z1 : (s0.heap.push (setB w1)).objs.size = s0.heap.objs.size + 1 := Heap.size_push ..
    unfold Builtin.«set.__init__» noKeywords Builtin.Frozenset.updateFrom
    generalize hPI : pyIter = PI
    wp_walk
    subst hPI
    refine wpAny_pyIter_list il1 (wpAny_bind (wpAny_runValue ?_))
    rw [z1]
    refine fill_set ks (by simp [hd]) il ia few fun h2 t2 n2 r1 r2 r3 => ?_
    show wpAny _ _ _ _ _ _
    refine wpAny_pure ?_
    show wpAny _ _ (ret Value.none) _ _ _
    exact wpAny_pure ⟨rfl, h2, t2, n2, rfl, r1, r2, r3⟩
  · rcases r with e | (v | _ | _ | _) <;> first | exact hr | exact hr.elim | skip
    obtain ⟨rfl, h2, t2, n2, rfl, r1, r2, r3⟩ := hr
    repeat any_goals (first | assumption | wp_step)
    exact z h2 t2 n2 r1 r2 r3
end
end MP
end MSa_text

section MSb_text
set_option Elab.async false
set_option linter.all false
set_option maxRecDepth 100000
set_option maxHeartbeats 1000000
namespace MP
open PySem PySem.Spec PyProof.Rows L2
theorem mem_insS {a k : Int} : ∀ {l : List Int}, k ∈ insS a l ↔ k = a ∨ k ∈ l
  | [] => by simp [insS]
  | b :: r => by
    unfold insS
    split
    · simp
    · split
      · rename_i h
        subst h
        simp
      · rw [List.mem_cons, mem_insS, List.mem_cons]
        constructor
        · rintro (h | h | h)
          · exact .inr (.inl h)
          · exact .inl h
          · exact .inr (.inr h)
        · rintro (h | h | h)
          · exact .inr (.inl h)
          · exact .inl h
          · exact .inr (.inr h)
theorem pw_insS {a : Int} : ∀ {l : List Int}, l.Pairwise (· < ·) → (insS a l).Pairwise (· < ·)
  | [], _ => by simp [insS]
  | b :: r, h => by
    obtain ⟨h1, h2⟩ := List.pairwise_cons.mp h
    unfold insS
    split
    · rename_i hab
      refine List.pairwise_cons.mpr ⟨fun x hx => ?_, h⟩
      rcases List.mem_cons.mp hx with rfl | hx
      · exact hab
      · exact Int.lt_trans hab (h1 x hx)
    · split
      · exact h
      · refine List.pairwise_cons.mpr ⟨fun x hx => ?_, pw_insS h2⟩
        rcases mem_insS.mp hx with rfl | hx
        · omega
        · exact h1 x hx
theorem mem_sortDist {k : Int} : ∀ {l : List Int}, k ∈ sortDist l ↔ k ∈ l
  | [] => by simp [sortDist]
  | a :: r => by
    unfold sortDist
    rw [mem_insS, mem_sortDist, List.mem_cons]
theorem pw_sortDist : ∀ (l : List Int), (sortDist l).Pairwise (· < ·)
  | [] => .nil
  | a :: r => pw_insS (pw_sortDist r)
theorem strict_uniq : ∀ {l m : List Int}, l.Pairwise (· < ·) → m.Pairwise (· < ·) → (∀ k, k ∈ l ↔ k ∈ m) → l = m
  | [], [], _, _, _ => rfl
  | [], y :: m, _, _, h => absurd ((h y).mpr List.mem_cons_self) (List.not_mem_nil)
  | x :: l, [], _, _, h => absurd ((h x).mp List.mem_cons_self) (List.not_mem_nil)
  | x :: l, y :: m, h1, h2, h => by
    obtain ⟨a1, a2⟩ := List.pairwise_cons.mp h1
    obtain ⟨b1, b2⟩ := List.pairwise_cons.mp h2
    have e : x = y := by
      rcases List.mem_cons.mp ((h x).mp List.mem_cons_self) with e | e
      · exact e
      · rcases List.mem_cons.mp ((h y).mpr List.mem_cons_self) with e2 | e2
        · exact e2.symm
        · have := a1 y e2
          have := b1 x e
          omega
    subst e
    congr 1
    refine strict_uniq a2 b2 fun k => ⟨fun hk => ?_, fun hk => ?_⟩
    · rcases List.mem_cons.mp ((h k).mp (List.mem_cons_of_mem _ hk)) with e | e
      · subst e
        exact absurd (a1 k hk) (Int.lt_irrefl _)
      · exact e
    · rcases List.mem_cons.mp ((h k).mpr (List.mem_cons_of_mem _ hk)) with e | e
      · subst e
        exact absurd (b1 k hk) (Int.lt_irrefl _)
      · exact e
def rSetL (X : Cx) : List V → Hp → VK → Prop := fun vs H Q => ∃ (a : Addr) (ks : List Int), vs = [.ref a] ∧ SqL X.K H a (ks.map V.int) ∧ ks.length + 1 < scanBound ∧
  ∀ (p : Addr) (n : Nat), H p = none → n ≤ ks.length → Q (.ref p) (upd H p (SetO X.w p (fun j => decide (j ∈ ks)) n))
theorem vals_ints : ∀ {ks : List Int} {its : List Value}, Vals (ks.map V.int) its → IntsAre its ks
  | [], _, h => by cases h; exact .nil
  | k :: ks, _, h => by
    cases h with
    | cons h r =>
      obtain ⟨t, e⟩ := h
      subst e
      exact .cons _ _ (vals_ints r)
theorem cr_setL {X : Cx} (hc : X.calm = true) : CallR X (.type "set") (rSetL X) := by
  intro pins s σ H vs us Q I r h
  obtain ⟨a, ks, rfl, hq, few, q⟩ := h
  rw [Vals.ref1 r]
  obtain ⟨its, rv, pl, hz⟩ := I.list hq
  refine call_setL (its := its.toArray) ks (I.ok.hd hc) pl.isList (by simpa using vals_ints rv) few fun h2 t2 n2 hs hn kk => ?_
  have fr : H s.heap.objs.size = none := I.hok.fresh (Nat.le_refl _)
  exact ⟨.ref s.heap.objs.size, _, I.laid (t' := t2) kk (Nat.le_refl _) (setO_new hs), rfl, q _ n2 fr hn⟩
section
variable {CX : CXT} {P : Prog} {F : Fns} {G : Wd} {k : Nat} {S : Cst} {a : Expr} {ca : CE} {pos : Pos}
theorem se_sortset {x y : Str} {p p2 pos2 : Pos} (hg : okBlt S x "sorted" = true) (hg2 : okBlt S y "set" = true) (ha : SE CX P F G k S a ca) (hp : plainE a = true) :
    SE CX P F G k S (.Call (.Name x p) [.Call (.Name y p2) [a] [] pos2] [] pos) (.bfn .sortset (.cons false ca .nil)) := .val (fun _ _ => rfl) fun X W g bx hb' => by
  obtain ⟨rfl, gl, m, nd, nn⟩ := g.blt hg
  obtain ⟨rfl, gl2, m2, nd2, nn2⟩ := g.blt hg2
  have pa := pa_cons (ha.pe g) pa_nil (star_plain hp)
  have ps := pe_callTy (p := p2) (pos := pos2) (cr_setL g.calm) gl2 m2 (by decide +kernel) pa nn2 nd2 (star_plain hp) rfl
  have pa2 := pa_cons ps pa_nil (star_plain rfl)
  refine (pe_callB (p := p) (pos := pos) (cr_sortedSet g.calm) gl m (by decide +kernel) pa2 nn nd (star_plain rfl) rfl).imp fun σ H Q ⟨κ, ρ, st, env, S1, h⟩ => ?_
  have h : RP (((evE P F ca env st).bind fun x s1 => R.ok [x] s1).bind fun as s1 => ofO (bfnop s1 .sortset as) s1) (BP G bx κ ρ st H Q) (XP G W σ κ ρ st H) := h
  have h : RP ((evE P F ca env st).bind fun x s1 => ofO (bfnop s1 .sortset [x]) s1) (BP G bx κ ρ st H Q) (XP G W σ κ ρ st H) := by
    cases hv : evE P F ca env st <;> (rw [hv] at h; exact h)
  refine stepE (OK := fun ρ st H => BP G bx κ ρ st H Q) BP.mono S1 h fun v s1 xv ρ1 H1 _ S2 E2 r1 h => ?_
  obtain ⟨z, hz, h⟩ := RP.ofO h
  have hz : bSortSet s1 v = some z := hz
  unfold bSortSet at hz
  obtain ⟨ns, e1, hz⟩ := Option.bind_eq_some_iff.mp hz
  obtain ⟨xs, e1, e2⟩ := Option.bind_eq_some_iff.mp e1
  split at hz
  · rename_i hl
    cases hz
    obtain ⟨q, vs, rfl, hq, rv⟩ := lstOf_rep S2.rel r1 e1
    rw [rv.ints e2] at hq
    refine ⟨q, ns, rfl, SqL.of hq, Nat.lt_trans (Nat.succ_lt_succ hl) (by decide), fun p n hp hn => ?_⟩
    refine ⟨p, _, n, rfl, upd_same, Nat.lt_of_le_of_lt hn hl, fun ms p2 pw mem len hp2 => ?_⟩
    have e : ms = sortDist ns := strict_uniq pw (pw_sortDist ns) fun k => by
      rw [mem, mem_sortDist]
      simp
    subst e
    exact VP.lst (rel_new S2.rel hp) ((VP.mono (ext_new S2.rel hp) h.vp)) (repInts _) hp2
  · cases hz
end
end MP
end MSb_text

section MPo_text
set_option Elab.async false
set_option linter.all false
set_option maxRecDepth 100000
/-! Items of dicts, isinstance, displays of dicts. -/
namespace MP
open PySem PySem.Spec PyProof.Rows L2
section
variable {CX : CXT} {P : Prog} {F : Fns} {G : Wd} {k : Nat} {S : Cst} {W : WX} {X : Cx} {e a b d : Expr} {c ca cb cd : CE} {pos : Pos}
/-- e.items(), as an argument -/
theorem pa_items (g : Okay CX P F G k S W X) {x : Str} {apos cpos : Pos} (hx : x = Str.ofString "items") (ha : SE CX P F G k S a ca) (h0 : noCall0 a = true) (hline : (apos.endLine == cpos.line) = true) :
    PA X [.Call (.Attribute a x apos) [] [] cpos] (tCons (tBM0 X.K "dict" (rItemsV G) (tE P F G W false ca)) tNil) := by
  subst hx
  exact pa_cons (pe_bm0 PySem.F.plainAttrs_dict PySem.F.slot_dict_items PySem.F.type_dict_items mp_items (ha.pe g) (attr_plain h0) hline) pa_nil
theorem items_key {K : PySem.W.Frag} {bx tup : Bool} {σ : L2.St} {H : Hp} {Q : VK} {κ : Addr → Prop} {ρ : List Addr} {st : Sto} {env : Env} (S1 : Sit G κ ρ st env σ H)
    (h : RP ((evE P F ca env st).bind fun x s1 => ofO ((dicOf s1 x).map fun d => if tup then CV.tup (d.2.map fun p => .tup [p.1, p.2]) else CV.lst (d.2.map fun p => .tup [p.1, p.2])) s1) (BP G bx κ ρ st H Q) (XP G W σ κ ρ st H)) :
    tCB (rView G bx tup) (tCons (tBM0 K "dict" (rItemsV G) (tE P F G W false ca)) tNil) σ H Q := by
  refine stepE (OK := fun ρ st H => BP G bx κ ρ st H Q) BP.mono S1 h fun v s1 xv ρ1 H1 _ S2 E2 r1 h => ?_
  obtain ⟨z, hz, h⟩ := RP.ofO h
  obtain ⟨⟨t, kvs⟩, hd, rfl⟩ := Option.map_eq_some_iff.mp hz
  obtain ⟨p, rfl, dr⟩ := dicOf_rep S2.rel r1 hd
  have ty : tyV K "dict" (.ref p) H1 := by
    cases t with
    | false => obtain ⟨ws, e, _⟩ := dr; exact .inr (.inr (.inl ⟨rfl, .inl ⟨ws, e⟩⟩))
    | true => obtain ⟨ws, e, _⟩ := dr; exact .inr (.inr (.inl ⟨rfl, .inr ⟨ws, e⟩⟩))
  refine ⟨ty, κ, ρ1, s1, p, t, kvs, rfl, rfl, S2.rel, dr, fun q hq => ?_⟩
  have E3 := ext_new (u := DX.itemsO q p) S2.rel hq
  have R3 := rel_new (u := DX.itemsO q p) S2.rel hq
  refine ⟨κ, ρ1, s1, q, p, t, kvs, rfl, R3, upd_same, ?_, VP.mono E3 h.vp⟩
  have ne : p ≠ q := by
    cases t with
    | false => obtain ⟨ws, e, _⟩ := dr; exact ne_of_none e hq
    | true => obtain ⟨ws, e, _⟩ := dr; exact ne_of_none e hq
  cases t with
  | false => obtain ⟨ws, e, r⟩ := dr; exact ⟨ws, by rw [upd_ne ne]; exact e, r.ext E3⟩
  | true => obtain ⟨ws, e, r⟩ := dr; exact ⟨ws, by rw [upd_ne ne]; exact e, r.ext E3⟩
theorem one_arg_key {bx : Bool} {b : Bfn} {f : CV → Sto → Option CV} {κ : Addr → Prop} {ρ : List Addr} {st : Sto} {env : Env} {σ : L2.St} {H : Hp} {Q : VK} (hf : ∀ st x, bfnop st b [x] = f x st) (h : RP (evE P F (.bfn b (.cons false ca .nil)) env st) (BP G bx κ ρ st H Q) (XP G W σ κ ρ st H)) :
    RP ((evE P F ca env st).bind fun x s1 => ofO (f x s1) s1) (BP G bx κ ρ st H Q) (XP G W σ κ ρ st H) := by
  have h : RP (((evE P F ca env st).bind fun x s1 => R.ok [x] s1).bind fun as s1 => ofO (bfnop s1 b as) s1) (BP G bx κ ρ st H Q) (XP G W σ κ ρ st H) := h
  cases hv : evE P F ca env st with
  | ok x s1 =>
    rw [hv, R.bind_ok, R.bind_ok, hf] at h
    exact h
  | exc c v s => rw [hv] at h; exact h
  | err => rw [hv] at h; exact h
theorem se_litems {x y : Str} {p apos cpos : Pos} (hg : okBlt S x "list" = true) (hy : y = Str.ofString "items") (ha : SE CX P F G k S a ca) (h0 : noCall0 a = true) (hline : (apos.endLine == cpos.line) = true) :
    SE CX P F G k S (.Call (.Name x p) [.Call (.Attribute a y apos) [] [] cpos] [] pos) (.bfn .litems (.cons false ca .nil)) := .val (fun _ _ => rfl) fun X W g bx hb' => by
  obtain ⟨ex, gl, m, nd, nn⟩ := g.blt hg
  have hv := boot_list
  rw [show ("list" : Str) = x from ex.symm] at hv
  exact (pe_callTy (fn_litems (G := G) (bx := bx) g.calm) gl m hv (pa_items g hy ha h0 hline) nn nd (star_plain rfl) rfl).imp fun σ H Q ⟨κ, ρ, st, env, S1, h⟩ =>
    items_key (K := X.K) (tup := false) S1 (one_arg_key (f := fun x st => (dicOf st x).map fun d => if false = true then CV.tup (d.2.map fun p => .tup [p.1, p.2]) else CV.lst (d.2.map fun p => .tup [p.1, p.2])) (fun _ _ => rfl) h)
theorem se_titems {x y : Str} {p apos cpos : Pos} (hg : okBlt S x "tuple" = true) (hy : y = Str.ofString "items") (ha : SE CX P F G k S a ca) (h0 : noCall0 a = true) (hline : (apos.endLine == cpos.line) = true) :
    SE CX P F G k S (.Call (.Name x p) [.Call (.Attribute a y apos) [] [] cpos] [] pos) (.bfn .titems (.cons false ca .nil)) := .val (fun _ _ => rfl) fun X W g bx hb' => by
  obtain ⟨ex, gl, m, nd, nn⟩ := g.blt hg
  have hv := boot_tuple
  rw [show ("tuple" : Str) = x from ex.symm] at hv
  exact (pe_callTy (fn_titems (G := G) (bx := bx) g.calm) gl m hv (pa_items g hy ha h0 hline) nn nd (star_plain rfl) rfl).imp fun σ H Q ⟨κ, ρ, st, env, S1, h⟩ =>
    items_key (K := X.K) (tup := true) S1 (one_arg_key (f := fun x st => (dicOf st x).map fun d => if true = true then CV.tup (d.2.map fun p => .tup [p.1, p.2]) else CV.lst (d.2.map fun p => .tup [p.1, p.2])) (fun _ _ => rfl) h)

/-! ### isinstance -/
/-- a value's kind -/
def kdOf (st : Sto) (v : CV) : Option (Option Ity) := match deref st v with
  | .non => some none
  | .bl _ => some (some .bool)
  | .int _ => some (some .int)
  | .str _ => some (some .str)
  | .tup _ | .kt _ => some (some .tuple)
  | .lst _ | .scr _ => some (some .list)
  | .dic _ _ => some (some .dict)
  | v => (clsOf st v).map fun q => some (.cls q.1)
theorem sqT_ty {K : PySem.W.Frag} {H : Hp} {a : Addr} {xs : List V} (h : SqT K H a xs) : TyX K H (.ref a) (.type "tuple") := by
  rcases h with (h | ⟨o, h⟩) | ⟨o, its, n, h1, h2, _⟩
  · exact .base (.tup h)
  · exact .fTuple h
  · exact .kTuple h1 h2
theorem sqL_ty {K : PySem.W.Frag} {H : Hp} {a : Addr} {xs : List V} (h : SqL K H a xs) : TyX K H (.ref a) (.type "list") := by
  rcases h with (h | ⟨o, h⟩) | ⟨o, its, n, h1, h2, _⟩
  · exact .base (.lst h)
  · exact .base (.frz h)
  · exact .kList h1 h2
theorem kd_rep (g : Okay CX P F G k S W X) {κ : Addr → Prop} {ρ : List Addr} {st : Sto} {H : Hp} (R : HRel G κ ρ st H) {v : CV} {x : V} (r : RepV G ρ (Live κ ρ st) H v x) {t : Option Ity} (h : kdOf st v = some t) (hc : ∀ c, t = some (.cls c) → c < P.clss.length) : TyX X.K H x (kdV G t) := by
  have ins : ∀ {p : Addr} {c : Nat} {dx : Addr} {fv : List (Str × V)}, H p = some (.ins (G.ca c) dx fv) → c < P.clss.length → TyX X.K H (.ref p) (.ref (G.ca c)) := fun {p c dx fv} hp hlt => by
    obtain ⟨cl, _, ⟨h1, h2⟩, _⟩ := g.fix.cls c _ (List.getElem?_eq_getElem hlt)
    exact .base (.ins hp cl h1 g.fix.cget.1 g.fix.cget.2 h2)
  cases r with
  | non => cases h; exact .base .non
  | bl b => cases h; exact .base (.bl b)
  | int b => cases h; exact .base (.int b)
  | str b => cases h; exact .base (.str _)
  | tup h1 n r => cases h; exact .base (.tup h1)
  | kt h1 => cases h; exact sqT_ty (by rw [g.hK]; exact h1 H)
  | lst h1 n r => cases h; exact .base (.lst h1)
  | dicK h1 n r => cases h; exact .base (.dK h1)
  | dicT h1 n r => cases h; exact .base (.dT h1)
  | rcd h1 n r => cases h; exact ins h1 (hc _ rfl)
  | scr h1 n =>
    cases h
    rcases h1 with h1 | ⟨o, h1⟩
    · exact .base (.lst h1)
    · exact .base (.frz h1)
  | scrK h1 => cases h; exact sqL_ty (by rw [g.hK]; exact h1 H)
  | @loc l p h1 =>
    unfold kdOf deref at h
    dsimp only at h
    cases ho : st[l]? with
    | none =>
      rw [ho] at h
      dsimp only at h
      unfold clsOf at h
      dsimp only at h
      rw [ho] at h
      cases h
    | some o =>
      rw [ho] at h
      cases o with
      | gone =>
        dsimp only at h
        unfold clsOf at h
        dsimp only at h
        rw [ho] at h
        cases h
      | lst xs =>
        obtain ⟨vs, e1, _⟩ := R.obj l p _ h1 ho
        cases h
        exact .base (.lst e1)
      | dic t kvs =>
        cases t with
        | false => obtain ⟨vs, e1, _⟩ := R.obj l p _ h1 ho; cases h; exact .base (.dK e1)
        | true => obtain ⟨vs, e1, _⟩ := R.obj l p _ h1 ho; cases h; exact .base (.dT e1)
      | ins c fs =>
        obtain ⟨dx, fv, e1, _⟩ := R.obj l p _ h1 ho
        dsimp only at h
        unfold clsOf at h
        dsimp only at h
        rw [ho] at h
        cases h
        exact ins e1 (hc _ rfl)
/-- the name of a type -/
def Ity.nm : Ity → String
  | .int => "int" | .bool => "bool" | .str => "str" | .tuple => "tuple" | .list => "list" | .dict => "dict" | .cls _ => ""
def okIty (P : Prog) (S : Cst) (x : Str) (t : Ity) : Bool := match t with
  | .cls c => match P.clss[c]? with
    | some i => decide (x = SS i.name) && (decide (i.name ≠ []) && okGl S x)
    | none => false
  | t => okBlt S x t.nm
theorem ity_pe (g : Okay CX P F G k S W X) {x : Str} {p : Pos} {t : Ity} (h : okIty P S x t = true) : ∃ v, PE X (.Name x p) (tC v) ∧ ClsV v (t.v G) ∧ ∀ c, t = .cls c → c < P.clss.length := by
  have blt : ∀ n : String, bootBuiltins (Str.ofString n) = some (.type n) → okBlt S x n = true → PE X (.Name x p) (tC (.ty n)) := fun n hv hg => by
    obtain ⟨ex, gl, m, nd, nn⟩ := g.blt hg
    rw [← ex] at hv
    exact pe_bltn gl m hv rfl nn nd
  cases t with
  | int => exact ⟨_, blt "int" boot_int h, .ty _, fun _ z => nomatch z⟩
  | bool => exact ⟨_, blt "bool" boot_bool h, .ty _, fun _ z => nomatch z⟩
  | str => exact ⟨_, blt "str" boot_str h, .ty _, fun _ z => nomatch z⟩
  | tuple => exact ⟨_, blt "tuple" boot_tuple h, .ty _, fun _ z => nomatch z⟩
  | list => exact ⟨_, blt "list" boot_list h, .ty _, fun _ z => nomatch z⟩
  | dict => exact ⟨_, blt "dict" boot_dict h, .ty _, fun _ z => nomatch z⟩
  | cls c =>
    unfold okIty at h
    dsimp only at h
    split at h
    · rename_i i hi
      simp only [Bool.and_eq_true, decide_eq_true_eq] at h
      obtain ⟨rfl, hne, hg⟩ := h
      obtain ⟨gl, nd, _⟩ := g.gl hg
      obtain ⟨_, nm, _⟩ := g.fix.cls c i hi
      refine ⟨_, pe_glob gl (nm hne) (v := .ref (G.ca c)) rfl nd, .own _, fun c' e => ?_⟩
      cases e
      exact (List.getElem?_eq_some_iff.mp hi).1
    · cases h
theorem se_isin {x y : Str} {p p2 : Pos} {t : Ity} (hg : okBlt S x "isinstance" = true) (ha : SE CX P F G k S a ca) (hp : plainE a = true) (ht : okIty P S y t = true) : SE CX P F G k S (.Call (.Name x p) [a, .Name y p2] [] pos) (.isin ca t) := .val (fun _ _ => rfl) fun X W g bx hb' => by
  cases nofresh hb' rfl
  obtain ⟨ex, gl, m, nd, nn⟩ := g.blt hg
  have hv := boot_isinstance
  rw [show ("isinstance" : Str) = x from ex.symm] at hv
  obtain ⟨v, pv, cv, ci⟩ := ity_pe (p := p2) g ht
  refine (pe_callB call_isi gl m hv (pa_cons (ha.pe g) (pa_cons pv pa_nil (star_plain rfl)) (star_plain hp)) nn nd (star_plain hp) rfl).imp fun σ H Q ⟨κ, ρ, st, env, S1, h⟩ => ?_
  refine stepE (OK := fun ρ st H => BP G false κ ρ st H Q) BP.mono S1 h fun u s1 xv ρ1 H1 _ S2 E2 r1 h => ?_
  obtain ⟨z, hz, h⟩ := RP.ofO h
  obtain ⟨bz, hi, rfl⟩ := Option.map_eq_some_iff.mp hz
  have q := BP.const (bx := false) (Q := Q) (v := .bl bz) S2.rel h (.bl _)
  have key : ∃ kd, kdOf s1 u = some kd ∧ kdIs P kd t = bz ∧ ∀ c, kd = some (.cls c) → c < P.clss.length := by
    unfold isIn at hi
    unfold kdOf
    revert hi
    generalize hdr : deref s1 u = w
    intro hi
    cases w with
    | non => cases hi; exact ⟨none, rfl, rfl, fun _ z => nomatch z⟩
    | bl _ => cases hi; exact ⟨_, rfl, rfl, fun _ z => nomatch z⟩
    | int _ => cases hi; exact ⟨_, rfl, rfl, fun _ z => nomatch z⟩
    | str _ => cases hi; exact ⟨_, rfl, rfl, fun _ z => nomatch z⟩
    | tup _ => cases hi; exact ⟨_, rfl, rfl, fun _ z => nomatch z⟩
    | lst _ => cases hi; exact ⟨_, rfl, rfl, fun _ z => nomatch z⟩
    | dic _ _ => cases hi; exact ⟨_, rfl, rfl, fun _ z => nomatch z⟩
    | scr _ => cases hi; exact ⟨_, rfl, rfl, fun _ z => nomatch z⟩
    | kt _ => cases hi; exact ⟨_, rfl, rfl, fun _ z => nomatch z⟩
    | rcd c fs =>
      have hi : (if c < P.clss.length then some (clsIs P c t) else none) = some bz := hi
      split at hi
      · rename_i hlt
        cases hi
        exact ⟨_, rfl, by cases t <;> rfl, fun c' e => by cases e; exact hlt⟩
      · cases hi
    | loc l =>
      dsimp only at hi ⊢
      cases hc : clsOf s1 (.loc l) with
      | none => rw [hc] at hi; cases hi
      | some q =>
        obtain ⟨c, fs⟩ := q
        rw [hc] at hi
        dsimp only at hi
        split at hi
        · rename_i hlt
          cases hi
          exact ⟨_, rfl, by cases t <;> rfl, fun c' e => by cases e; exact hlt⟩
        · cases hi
  obtain ⟨kd, k1, k2, k3⟩ := key
  exact ⟨xv, v, kdV G kd, t.v G, bz, rfl, cv, kd_rep g S2.rel r1 k1 k3, by rw [← k2]; exact g.fix.kit kd t k3 ci, q⟩
end
end MP
end MPo_text

section MPp_text
set_option Elab.async false
set_option linter.all false
set_option maxRecDepth 100000
/-! Displays of dicts. -/
namespace MP
open PySem PySem.Spec PyProof.Rows L2
section
variable {G : Wd} {bx : Bool} {κ : Addr → Prop} {ρ ρ2 : List Addr} {st st2 : Sto} {H H2 : Hp} {p : Addr} {u0 : HO} {Q : VK}
/-- what was made at p is a list -/
theorem made_lst (R : HRel G κ ρ st H) (hp : H p = none) (E : Ext (fun b => κ b ∨ b = p) ρ st (upd H p u0) ρ2 st2 H2) (R2 : HRel G (fun b => κ b ∨ b = p) ρ2 st2 H2) {xs : List CV} {vs : List V} (r : RepVs G ρ2 (Live (fun b => κ b ∨ b = p) ρ2 st2) H2 xs vs)
    (h : BP G bx κ ρ st H Q (.lst xs) st2) : Q (.ref p) (upd H2 p (.lst vs)) := by
  cases bx with
  | false => exact h _ ρ2 _ (made_rel R2 fun _ z => nomatch z) (made_ext R hp E) (.lst upd_same (made_not R hp R2) (r.extP (made_pre R2)))
  | true =>
    have e := box_pre (o := .lst xs) (u := .lst vs) R2 rfl
    exact h _ (ρ2 ++ [p]) _ (box_rel R2 rfl (made_nin R hp E) (R.noHid hp) ⟨vs, upd_same, r.extP e⟩) (box_ext R hp E R2 rfl) (.loc (by rw [← R2.len]; simp))
theorem made_dicK (R : HRel G κ ρ st H) (hp : H p = none) (E : Ext (fun b => κ b ∨ b = p) ρ st (upd H p u0) ρ2 st2 H2) (R2 : HRel G (fun b => κ b ∨ b = p) ρ2 st2 H2) {xs : List (CV × CV)} {vs : List (Key × V)} (r : RepDs G ρ2 (Live (fun b => κ b ∨ b = p) ρ2 st2) H2 xs vs)
    (h : BP G bx κ ρ st H Q (.dic false xs) st2) : Q (.ref p) (upd H2 p (.dK vs)) := by
  cases bx with
  | false => exact h _ ρ2 _ (made_rel R2 fun _ z => nomatch z) (made_ext R hp E) (.dicK upd_same (made_not R hp R2) (r.extP (made_pre R2)))
  | true =>
    have e := box_pre (o := .dic false xs) (u := .dK vs) R2 rfl
    exact h _ (ρ2 ++ [p]) _ (box_rel R2 rfl (made_nin R hp E) (R.noHid hp) ⟨vs, upd_same, r.extP e⟩) (box_ext R hp E R2 rfl) (.loc (by rw [← R2.len]; simp))
theorem made_dicT (R : HRel G κ ρ st H) (hp : H p = none) (E : Ext (fun b => κ b ∨ b = p) ρ st (upd H p u0) ρ2 st2 H2) (R2 : HRel G (fun b => κ b ∨ b = p) ρ2 st2 H2) {xs : List (CV × CV)} {vs : List (List Key × V)} (r : RepTs G ρ2 (Live (fun b => κ b ∨ b = p) ρ2 st2) H2 xs vs)
    (h : BP G bx κ ρ st H Q (.dic true xs) st2) : Q (.ref p) (upd H2 p (.dT vs)) := by
  cases bx with
  | false => exact h _ ρ2 _ (made_rel R2 fun _ z => nomatch z) (made_ext R hp E) (.dicT upd_same (made_not R hp R2) (r.extP (made_pre R2)))
  | true =>
    have e := box_pre (o := .dic true xs) (u := .dT vs) R2 rfl
    exact h _ (ρ2 ++ [p]) _ (box_rel R2 rfl (made_nin R hp E) (R.noHid hp) ⟨vs, upd_same, r.extP e⟩) (box_ext R hp E R2 rfl) (.loc (by rw [← R2.len]; simp))
/-- an exception comes between -/
theorem XP.made {W : WX} {σ : L2.St} (R : HRel G κ ρ st H) (hp : H p = none) {c : Nat} {v : CV} {s1 : Sto} (h : XP G W σ κ ρ st H c v s1) : XP G W σ (fun b => κ b ∨ b = p) ρ st (upd H p u0) c v s1 := fun x ρ' H' d R2 E r hd => by
  have e : upd H' p u0 = H' := by
    funext b
    by_cases hb : b = p
    · subst hb; rw [upd_same, E.hk b (.inr rfl), upd_same]
    · rw [upd_ne hb]
  have E2 := made_ext (u := u0) R hp E
  rw [e] at E2
  exact h x ρ' H' d (rel_show R2) E2 (r.extP pre_show) hd
/-- into what is being made -/
theorem Sit.hide {env : Env} {σ : L2.St} (S : Sit G κ ρ st env σ H) (hp : H p = none) (hu : ∀ xs, u0 ≠ .tup xs) : Sit G (fun b => κ b ∨ b = p) ρ st env σ (upd H p u0) :=
  ⟨rel_hide S.rel hp hu, S.len, fun i v h => let ⟨x, h1, h2⟩ := S.sl i v h; ⟨x, h1, h2.extP (pre_hide S.rel hp)⟩⟩
end
theorem Paired.mono {α β : Type} {A B : α → β → Prop} (f : ∀ a b, A a b → B a b) : ∀ {l : List α} {m : List β}, Paired A l m → Paired B l m
  | _, _, .nil => .nil
  | _, _, .cons h t => .cons (f _ _ h) (Paired.mono f t)
section
variable {CX : CXT} {P : Prog} {F : Fns} {G : Wd} {k : Nat} {S : Cst} {W : WX} {X : Cx} {e a b d : Expr} {c ca cb cd : CE} {pos : Pos}
/-- pairs of expressions -/
def DP (G : Wd) (κ : Addr → Prop) (ρ : List Addr) (st : Sto) (H : Hp) (Q : List (V × V) → Hp → Prop) (ps : List (CV × CV)) (st' : Sto) : Prop :=
  ∀ xs ρ' H', HRel G κ ρ' st' H' → Ext κ ρ st H ρ' st' H' → Paired (RepP G ρ' (Live κ ρ' st') H') ps xs → Q xs H'
def SD (CX : CXT) (P : Prog) (F : Fns) (G : Wd) (k : Nat) (S : Cst) (keys : List (Option Expr)) (values : List Expr) (c : CKs) : Prop := ∀ (X : Cx) (W : WX), Okay CX P F G k S W X → ∀ pos, ∃ trs, PPs X pos keys values trs ∧
  ∀ κ ρ st env σ H Q, Sit G κ ρ st env σ H → RP (evD P F c env st) (DP G κ ρ st H Q) (XP G W σ κ ρ st H) → tPairs trs σ H Q
theorem DP.mono {κ : Addr → Prop} {ρ ρ1 : List Addr} {st s1 : Sto} {H H1 : Hp} {ps : List (CV × CV)} {st' : Sto} {Q : List (V × V) → Hp → Prop} (e : Ext κ ρ st H ρ1 s1 H1) (h : DP G κ ρ st H Q ps st') : DP G κ ρ1 s1 H1 Q ps st' :=
  fun x ρ' H' R E r => h x ρ' H' R (e.trans E) r
theorem sd_nil : SD CX P F G k S [] [] .nil := fun X W g pos => ⟨[], pps_nil, fun κ ρ st env σ H Q S1 h => h [] ρ H S1.rel .refl .nil⟩
theorem sd_cons {keys : List (Option Expr)} {values : List Expr} {r : CKs} (ha : SE CX P F G k S a ca) (hb : SE CX P F G k S b cb) (hr : SD CX P F G k S keys values r) : SD CX P F G k S (some a :: keys) (b :: values) (.cons ca cb r) := fun X W g pos => by
  obtain ⟨trs, pp, key⟩ := hr X W g pos
  refine ⟨_, pps_cons (ha.pe g) (hb.pe g) pp, fun κ ρ st env σ H Q S1 h => ?_⟩
  refine stepE (OK := fun ρ st H => DP G κ ρ st H Q) DP.mono S1 h fun x s1 xv ρ1 H1 _ S2 E2 r1 h => ?_
  refine stepE (OK := fun ρ st H => DP G κ ρ st H Q) DP.mono S2 h fun y s2 yv ρ2 H2 _ S3 E3 r2 h => ?_
  refine key κ ρ2 s2 env σ H2 _ S3 ((stepR h).imp (fun ps s3 q xs ρ3 H3 R E rr => ?_) fun _ _ _ h => h)
  exact q ((xv, yv) :: xs) ρ3 H3 R E (.cons ⟨(r1.ext E3).ext E, r2.ext E⟩ rr)
theorem pairs_keys {L : Addr → Prop} {ρ : List Addr} {H : Hp} : ∀ {ps : List (CV × CV)} {xs : List (V × V)} {acc out : List (CV × CV)}, Paired (RepP G ρ L H) ps xs → dictOf false acc ps = some out → ∃ ks : List (Key × V), xs = ks.map (fun kv => (kV kv.1, kv.2)) ∧ RepDs G ρ L H ps ks
  | _, _, _, _, .nil, _ => ⟨[], rfl, .nil⟩
  | (kc, vc) :: ps, (kx, vx) :: xs, acc, out, .cons h t, e => by
    have e : (if okKey false kc then dictOf false (dput acc kc vc) ps else none) = some out := e
    split at e
    · rename_i ok
      obtain ⟨ks, rfl, r⟩ := pairs_keys t e
      obtain ⟨y, hk, rfl⟩ := key_k h.1 ok
      exact ⟨(y, vx) :: ks, rfl, .cons hk h.2 r⟩
    · cases e
theorem se_dic0 {t : Bool} : SE CX P F G k S (.Dict [] [] pos) (.dic t .nil) := .val (fun _ _ => rfl) fun X W g bx hb' => by
  cases t with
  | false => exact pe_dnewK.imp fun σ H Q ⟨κ, ρ, st, env, S1, h⟩ p hp => VP.dicK S1.rel (show VP G bx κ ρ st H (.dic false []) Q from h) .nil hp
  | true => exact pe_dnewT.imp fun σ H Q ⟨κ, ρ, st, env, S1, h⟩ p hp => VP.dicT S1.rel (show VP G bx κ ρ st H (.dic true []) Q from h) .nil hp
theorem se_dic {keys : List (Option Expr)} {values : List Expr} {c : CKs} (hd : SD CX P F G k S keys values c) (hall : keys.all (·.isSome) = true) (hl : keys.length = values.length) (h0 : keys ≠ []) (h15 : keys.length ≤ 15) : SE CX P F G k S (.Dict keys values pos) (.dic false c) := .val (fun _ _ => rfl) fun X W g bx hb' => by
  obtain ⟨trs, pp, key⟩ := hd X W g pos
  refine (pe_disp pp hall hl h0 h15).imp fun σ H Q ⟨κ, ρ, st, env, S1, h⟩ p hp => ?_
  have h : RP ((evD P F c env st).bind fun ps s1 => if ps.length ≤ 15 then ofO ((dictOf false [] ps).map (.dic false)) s1 else .err) (BP G bx κ ρ st H Q) (XP G W σ κ ρ st H) := h
  refine key _ ρ st env σ _ _ (S1.hide hp fun _ z => nomatch z) ((stepR h).imp (fun ps s1 q xs ρ' H' R E rr => ?_) fun cc v s1 q => XP.made S1.rel hp q)
  split at q
  · rename_i h15
    obtain ⟨z, hz, q⟩ := RP.ofO q
    obtain ⟨out, ho, rfl⟩ := Option.map_eq_some_iff.mp hz
    obtain ⟨ks, rfl, rd⟩ := pairs_keys rr ho
    refine ⟨by rw [E.hk p (.inr rfl), upd_same], ks, rfl, by rw [← rd.length]; exact h15, ?_⟩
    exact made_dicK S1.rel hp E R (RepDs.merge .nil rd ho) q
  · exact q.elim
end
end MP
end MPp_text

section MPq_text
set_option Elab.async false
set_option linter.all false
set_option maxRecDepth 100000
/-! What is walked. -/
namespace MP
open PySem PySem.Spec PyProof.Rows L2
/-- a later state, with more that is being made -/
structure Lat (κ : Addr → Prop) (ρ : List Addr) (st : Sto) (H : Hp) (κ2 : Addr → Prop) (ρ2 : List Addr) (st2 : Sto) (H2 : Hp) : Prop where
  pre : Pre κ ρ st H κ2 ρ2 st2 H2
  hk : ∀ a, κ a → κ2 a ∧ H2 a = H a
/-- an iterator tells the items, from this state on -/
def IsWalk (G : Wd) (J : It) (items : List CV) (κ : Addr → Prop) (ρ : List Addr) (st : Sto) (H : Hp) : Prop := ∀ (i : Nat) (κ2 : Addr → Prop) (ρ2 : List Addr) (st2 : Sto) (H2 : Hp), HRel G κ2 ρ2 st2 H2 → Lat κ ρ st H κ2 ρ2 st2 H2 →
  (items.length = i → J.stop i H2) ∧ ∀ x, items[i]? = some x → J.go i H2 ∧ ∀ xv H', J.yld i H2 xv H' → HRel G κ2 ρ2 st2 H' ∧ Ext κ2 ρ2 st2 H2 ρ2 st2 H' ∧ RepV G ρ2 (Live κ2 ρ2 st2) H' x xv
/-- .. its own place out of reach -/
def WalkS (G : Wd) (J : It) (src : Src) (κ : Addr → Prop) (ρ : List Addr) (st : Sto) (H : Hp) : Prop := match src.lock with
  | none => IsWalk G J src.items κ ρ st H
  | some (l, ys) => ∃ p, ρ[l]? = some p ∧ st[l]? = some (.lst ys) ∧ IsWalk G J src.items (fun b => κ b ∨ b = p) ρ (st.set l .gone) H
section
variable {G : Wd} {κ : Addr → Prop} {ρ : List Addr} {st : Sto} {H : Hp}
theorem walk_lst {K : PySem.W.Frag} {a : Addr} {xs : List CV} {vs : List V} (hq : ∀ κ2 ρ2 st2 H2, HRel G κ2 ρ2 st2 H2 → Lat κ ρ st H κ2 ρ2 st2 H2 → SqL K H2 a vs ∧ RepVs G ρ2 (Live κ2 ρ2 st2) H2 xs vs) : IsWalk G (Itl K a) xs κ ρ st H := fun i κ2 ρ2 st2 H2 R E => by
  obtain ⟨q, r⟩ := hq κ2 ρ2 st2 H2 R E
  refine ⟨fun hi' => have hi := Nat.le_of_eq hi'; ⟨vs, q, by rw [← r.length]; exact hi⟩, fun x hx => ?_⟩
  obtain ⟨v, e, rv⟩ := r.get hx
  refine ⟨⟨vs, v, q, e⟩, fun xv H' y => ?_⟩
  obtain ⟨rfl, y⟩ := y
  have := y vs q
  rw [e] at this
  cases this
  exact ⟨R, .refl, rv⟩
theorem walk_tup {K : PySem.W.Frag} {a : Addr} {xs : List CV} {vs : List V} (hq : ∀ κ2 ρ2 st2 H2, HRel G κ2 ρ2 st2 H2 → Lat κ ρ st H κ2 ρ2 st2 H2 → SqT K H2 a vs ∧ RepVs G ρ2 (Live κ2 ρ2 st2) H2 xs vs) : IsWalk G (Itt K a) xs κ ρ st H := fun i κ2 ρ2 st2 H2 R E => by
  obtain ⟨q, r⟩ := hq κ2 ρ2 st2 H2 R E
  refine ⟨fun hi' => have hi := Nat.le_of_eq hi'; ⟨vs, q, by rw [← r.length]; exact hi⟩, fun x hx => ?_⟩
  obtain ⟨v, e, rv⟩ := r.get hx
  refine ⟨⟨vs, v, q, e⟩, fun xv H' y => ?_⟩
  obtain ⟨rfl, y⟩ := y
  have := y vs q
  rw [e] at this
  cases this
  exact ⟨R, .refl, rv⟩
theorem enumL_get {xs : List CV} {i : Nat} {x : CV} (h : (enumL xs)[i]? = some x) : ∃ y, xs[i]? = some y ∧ x = .tup [.int (i : Nat), y] := by
  unfold enumL at h
  rw [List.getElem?_zipWith] at h
  cases h1 : (List.range xs.length)[i]? with
  | none => rw [h1] at h; simp at h
  | some j =>
    rw [h1] at h
    cases h2 : xs[i]? with
    | none => rw [h2] at h; simp at h
    | some y =>
      rw [h2] at h
      have hj : j = i := by
        have := List.getElem?_range (i := i) (n := xs.length) (List.getElem?_eq_some_iff.mp h2).1
        rw [this] at h1
        exact (Option.some.inj h1).symm
      subst hj
      exact ⟨y, rfl, (by simpa using h : CV.tup [.int (j : Nat), y] = x).symm⟩
theorem enumL_len {xs : List CV} : (enumL xs).length = xs.length := by unfold enumL; simp
theorem walk_enum {K : PySem.W.Frag} {a : Addr} {xs : List CV} {vs : List V} (hq : ∀ κ2 ρ2 st2 H2, HRel G κ2 ρ2 st2 H2 → Lat κ ρ st H κ2 ρ2 st2 H2 → SqL K H2 a vs ∧ RepVs G ρ2 (Live κ2 ρ2 st2) H2 xs vs) : IsWalk G (Ite K a) (enumL xs) κ ρ st H := fun i κ2 ρ2 st2 H2 R E => by
  obtain ⟨q, r⟩ := hq κ2 ρ2 st2 H2 R E
  refine ⟨fun hi' => have hi := Nat.le_of_eq hi'; ⟨vs, q, by rw [← r.length, ← enumL_len]; exact hi⟩, fun x hx => ?_⟩
  obtain ⟨y, hy, rfl⟩ := enumL_get hx
  obtain ⟨v, e, rv⟩ := r.get hy
  refine ⟨⟨vs, v, q, e⟩, fun xv H' z => ?_⟩
  obtain ⟨T, x, rfl, hT, rfl, z⟩ := z
  have := z vs q
  rw [e] at this
  cases this
  have E3 := ext_new (u := .tup [.int (i : Nat), v]) R hT
  exact ⟨rel_new R hT, E3, .tup upd_same (R.noLive hT) (.cons (.int _) (.cons (rv.ext E3) .nil))⟩
theorem rangeL_get {a b : Int} {i : Nat} {x : CV} (h : (rangeL a b)[i]? = some x) : i < (b - a).toNat ∧ x = .int (a + (i : Nat)) := by
  unfold rangeL at h
  rw [List.getElem?_map] at h
  cases h1 : (List.range (b - a).toNat)[i]? with
  | none => rw [h1] at h; cases h
  | some j =>
    rw [h1] at h
    have hl := (List.getElem?_eq_some_iff.mp h1).1
    rw [List.length_range] at hl
    rw [List.getElem?_range hl] at h1
    cases h1
    exact ⟨hl, (Option.some.inj h).symm⟩
theorem walk_rng {a b : Int} : IsWalk G (Itr a (b - a).toNat) (rangeL a b) κ ρ st H := fun i κ2 ρ2 st2 H2 R E => by
  refine ⟨fun hi' => by have hi := Nat.le_of_eq hi'; unfold rangeL at hi; rw [List.length_map, List.length_range] at hi; exact hi, fun x hx => ?_⟩
  obtain ⟨h1, rfl⟩ := rangeL_get hx
  refine ⟨h1, fun xv H' y => ?_⟩
  obtain ⟨rfl, rfl⟩ := y
  exact ⟨R, .refl, .int _⟩
theorem walk_down {a b : Int} : IsWalk G (Itc a (-1) (a - b).toNat) ((List.range (a - b).toNat).map fun (n : Nat) => CV.int (a - (n : Int))) κ ρ st H := fun i κ2 ρ2 st2 H2 R E => by
  refine ⟨fun hi' => by have hi := Nat.le_of_eq hi'; rw [List.length_map, List.length_range] at hi; exact hi, fun x hx => ?_⟩
  rw [List.getElem?_map] at hx
  cases h1 : (List.range (a - b).toNat)[i]? with
  | none => rw [h1] at hx; cases hx
  | some j =>
    rw [h1] at hx
    have hl := (List.getElem?_eq_some_iff.mp h1).1
    rw [List.length_range] at hl
    rw [List.getElem?_range hl] at h1
    cases h1
    cases hx
    refine ⟨hl, fun xv H' y => ?_⟩
    obtain ⟨rfl, rfl⟩ := y
    refine ⟨R, .refl, ?_⟩
    have e : a + (i : Int) * (-1) = a - (i : Int) := by omega
    rw [e]
    exact .int _
theorem walk_str {x : List Nat} : IsWalk G (Its (SS x)) (x.map fun c => CV.str [c]) κ ρ st H := fun i κ2 ρ2 st2 H2 R E => by
  refine ⟨fun hi' => by have hi := Nat.le_of_eq hi'; rw [List.length_map] at hi; show (SS x).cps.size ≤ i; simpa using hi, fun y hy => ?_⟩
  rw [List.getElem?_map] at hy
  cases h1 : x[i]? with
  | none => rw [h1] at hy; cases hy
  | some c =>
    rw [h1] at hy
    cases hy
    refine ⟨by show i < (SS x).cps.size; simpa using (List.getElem?_eq_some_iff.mp h1).1, fun xv H' z => ?_⟩
    obtain ⟨rfl, c', e, rfl⟩ := z
    have : c' = c := by
      have e2 : (SS x).cps[i]? = x[i]? := by simp
      rw [e2, h1] at e
      exact (Option.some.inj e).symm
    subst this
    exact ⟨R, .refl, .str [c']⟩
/-- a list at its own place: kept while it is walked -/
theorem lock_sq (R : HRel G κ ρ st H) {l : Nat} {p : Addr} {ys : List CV} (hp : ρ[l]? = some p) (h : st[l]? = some (.lst ys)) : ∃ vs, H p = some (.lst vs) ∧ ∀ K κ2 ρ2 st2 H2, HRel G κ2 ρ2 st2 H2 → Lat (fun b => κ b ∨ b = p) ρ (st.set l .gone) H κ2 ρ2 st2 H2 → SqL K H2 p vs ∧ RepVs G ρ2 (Live κ2 ρ2 st2) H2 ys vs := by
  obtain ⟨vs, e, r⟩ := R.obj l p _ hp h
  refine ⟨vs, e, fun K κ2 ρ2 st2 H2 R2 E2 => ⟨SqL.of (by rw [(E2.hk p (.inr rfl)).2]; exact e), ?_⟩⟩
  have e1 : Pre κ ρ st H (fun b => κ b ∨ b = p) ρ (st.set l .gone) H := ⟨List.prefix_refl _, fun a w h2 n => ⟨h2, fun q => n ((live_lock R hp h rfl a).mp q)⟩⟩
  exact (r.extP e1).extP E2.pre
end

/-! ### their soundness -/
def WP (G : Wd) (κ : Addr → Prop) (ρ : List Addr) (st : Sto) (H : Hp) (Q : It → Hp → Prop) (src : Src) (st' : Sto) : Prop := ∀ J ρ' H', HRel G κ ρ' st' H' → Ext κ ρ st H ρ' st' H' → WalkS G J src κ ρ' st' H' → Q J H'
def tI (P : Prog) (F : Fns) (G : Wd) (W : WX) (c : CI) : TI := fun σ H R => ∃ κ ρ st env, Sit G κ ρ st env σ H ∧ RP (evI P F c env st) (WP G κ ρ st H R) (XP G W σ κ ρ st H)
theorem WP.mono {G : Wd} {κ : Addr → Prop} {ρ ρ1 : List Addr} {st s1 : Sto} {H H1 : Hp} {Q : It → Hp → Prop} {src : Src} {st' : Sto} (e : Ext κ ρ st H ρ1 s1 H1) (h : WP G κ ρ st H Q src st') : WP G κ ρ1 s1 H1 Q src st' :=
  fun J ρ' H' R E w => h J ρ' H' R (e.trans E) w
def SI (CX : CXT) (P : Prog) (F : Fns) (G : Wd) (k : Nat) (S : Cst) (tg it : Expr) (c : CI) : Prop := ∀ (X : Cx) (W : WX), Okay CX P F G k S W X → PI X tg it (tI P F G W c)
theorem _root_.L2.PI.imp {X : Cx} {tg e : Expr} {t t' : TI} (h : PI X tg e t) (w : ∀ σ H Q, t' σ H Q → t σ H Q) : PI X tg e t' := ⟨fun pins s σ H Q I q => h.run pins s σ H Q I (w σ H Q q)⟩
theorem _root_.L2.PI.or {X : Cx} {tg e : Expr} {t t' : TI} (h : PI X tg e t) (h' : PI X tg e t') : PI X tg e (fun σ H Q => t σ H Q ∨ t' σ H Q) := ⟨fun pins s σ H Q I q => q.elim (h.run pins s σ H Q I) (h'.run pins s σ H Q I)⟩
section
variable {CX : CXT} {P : Prog} {F : Fns} {G : Wd} {k : Nat} {S : Cst} {W : WX} {X : Cx} {e a b d tg : Expr} {c ca cb cd : CE} {pos : Pos}
theorem si_seq (ha : SE CX P F G k S a ca) : SI CX P F G k S tg a (.seq ca) := fun X W g => by
  refine ((pi_list (tg := tg) (ha.pe g)).or ((pi_tup (tg := tg) (ha.pe g)).or (pi_str (tg := tg) (ha.pe g)))).imp fun σ H Q ⟨κ, ρ, st, env, S1, h⟩ => ?_
  have h : RP ((evE P F ca env st).bind fun x s1 => walk x s1 id) (WP G κ ρ st H Q) (XP G W σ κ ρ st H) := h
  -- by the value
  cases hv : evE P F ca env st with
  | err => rw [hv] at h; exact h.elim
  | exc cc v s1 =>
    left
    refine ⟨κ, ρ, st, env, S1, ?_⟩
    rw [hv] at h ⊢
    exact h
  | ok v s1 =>
    rw [hv, R.bind_ok] at h
    have lst : ∀ (a' : Addr) (xs : List CV) (vs : List V) (ρ1 : List Addr) (H1 : Hp), HRel G κ ρ1 s1 H1 → H1 a' = some (.lst vs) → ¬ Live κ ρ1 s1 a' → RepVs G ρ1 (Live κ ρ1 s1) H1 xs vs → IsWalk G (Itl X.K a') xs κ ρ1 s1 H1 := fun a' xs vs ρ1 H1 R1 e n r =>
      walk_lst fun κ2 ρ2 st2 H2 R2 E2 => ⟨SqL.of (E2.pre.keep _ _ e n).1, r.extP E2.pre⟩
    cases v with
    | tup xs =>
      right; left
      refine ⟨κ, ρ, st, env, S1, ?_⟩
      rw [hv]
      intro xv ρ1 H1 R1 E1 r1
      cases r1 with
      | tup e n r => exact ⟨_, rfl, ⟨_, SqT.of e⟩, h _ ρ1 H1 R1 E1 (walk_tup fun κ2 ρ2 st2 H2 R2 E2 => ⟨SqT.of (E2.pre.keep _ _ e n).1, r.extP E2.pre⟩)⟩
    | kt ns =>
      right; left
      refine ⟨κ, ρ, st, env, S1, ?_⟩
      rw [hv]
      intro xv ρ1 H1 R1 E1 r1
      cases r1 with
      | kt e =>
        refine ⟨_, rfl, ⟨_, by rw [g.hK]; exact e H1⟩, h _ ρ1 H1 R1 E1 (walk_tup fun κ2 ρ2 st2 H2 R2 E2 => ⟨by rw [g.hK]; exact e H2, repInts ns⟩)⟩
    | lst xs =>
      left
      refine ⟨κ, ρ, st, env, S1, ?_⟩
      rw [hv]
      intro xv ρ1 H1 R1 E1 r1
      cases r1 with
      | lst e n r => exact ⟨_, rfl, ⟨_, SqL.of e⟩, h _ ρ1 H1 R1 E1 (lst _ _ _ ρ1 H1 R1 e n r)⟩
    | scr ns =>
      left
      refine ⟨κ, ρ, st, env, S1, ?_⟩
      rw [hv]
      intro xv ρ1 H1 R1 E1 r1
      cases r1 with
      | scr e n => exact ⟨_, rfl, ⟨_, .inl e⟩, h _ ρ1 H1 R1 E1 (walk_lst fun κ2 ρ2 st2 H2 R2 E2 => ⟨.inl (E2.pre.rd e n).1, repInts ns⟩)⟩
      | scrK e => rw [← g.hK] at e; exact ⟨_, rfl, ⟨_, e H1⟩, h _ ρ1 H1 R1 E1 (walk_lst fun κ2 ρ2 st2 H2 R2 E2 => ⟨e H2, repInts ns⟩)⟩
    | str x =>
      right; right
      refine ⟨κ, ρ, st, env, S1, ?_⟩
      rw [hv]
      intro xv ρ1 H1 R1 E1 r1
      cases r1
      exact ⟨_, rfl, h _ ρ1 H1 R1 E1 walk_str⟩
    | loc l =>
      left
      refine ⟨κ, ρ, st, env, S1, ?_⟩
      rw [hv]
      intro xv ρ1 H1 R1 E1 r1
      cases r1 with
      | loc hp =>
        unfold walk at h
        dsimp only at h
        split at h
        · rename_i ys ho
          obtain ⟨vs, e, w⟩ := lock_sq R1 hp ho
          refine ⟨_, rfl, ⟨vs, SqL.of e⟩, h _ ρ1 H1 R1 E1 ⟨_, hp, ho, walk_lst (w X.K)⟩⟩
        · exact h.elim
    | _ => exact h.elim
theorem si_rng1 {x : Str} {p : Pos} (hg : okBlt S x "range" = true) (ha : SE CX P F G k S a ca) (hp : plainE a = true) : SI CX P F G k S tg (.Call (.Name x p) [a] [] pos) (.rng1 ca) := fun X W g => by
  obtain ⟨rfl, gl, m, nd, nn⟩ := g.blt hg
  refine (pi_range1 (tg := tg) gl m (pa_cons (ha.pe g) pa_nil (star_plain hp)) (star_plain hp)).imp fun σ H Q ⟨κ, ρ, st, env, S1, h⟩ => ?_
  refine stepE (OK := fun ρ st H => WP G κ ρ st H Q) WP.mono S1 h fun v s1 xv ρ1 H1 _ S2 E2 r1 h => ?_
  cases v with
  | int j =>
    cases r1
    have h : RP (if rngOk 0 j then .ok ⟨rangeL 0 j, none⟩ s1 else .err) (WP G κ ρ1 s1 H1 Q) (XP G W σ κ ρ1 s1 H1) := h
    split at h
    · rename_i hr
      obtain ⟨_, _, h3, h4, _⟩ := rngOk_ok hr
      refine ⟨j, rfl, h3, h4, ?_⟩
      have e : j.toNat = (j - 0).toNat := by omega
      rw [e]
      exact h _ ρ1 H1 S2.rel .refl walk_rng
    · exact h.elim
  | _ => exact h.elim
theorem si_rng2 {x : Str} {p : Pos} (hg : okBlt S x "range" = true) (ha : SE CX P F G k S a ca) (hb : SE CX P F G k S b cb) (hp : plainE a = true) (hp2 : plainE b = true) : SI CX P F G k S tg (.Call (.Name x p) [a, b] [] pos) (.rng2 ca cb) := fun X W g => by
  obtain ⟨rfl, gl, m, nd, nn⟩ := g.blt hg
  have s2 : ∀ env : PySem.Env, starEach [b] env = [(false, eval b env)] := fun env => star_plain hp2
  refine (pi_range2 (tg := tg) gl m (pa_cons (ha.pe g) (pa_cons (hb.pe g) pa_nil (star_plain hp2)) (star_plain hp)) (by rw [star_plain hp, s2]) (s2 _)).imp fun σ H Q ⟨κ, ρ, st, env, S1, h⟩ => ?_
  refine stepE (OK := fun ρ st H => WP G κ ρ st H Q) WP.mono S1 h fun v s1 xv ρ1 H1 _ S2 E2 r1 h => ?_
  refine stepE (OK := fun ρ st H => WP G κ ρ st H Q) WP.mono S2 h fun w s2 yv ρ2 H2 _ S3 E3 r2 h => ?_
  cases v with
  | int i =>
    cases w with
    | int j =>
      cases r1; cases r2
      have h : RP (if rngOk i j then .ok ⟨rangeL i j, none⟩ s2 else .err) (WP G κ ρ2 s2 H2 Q) (XP G W σ κ ρ2 s2 H2) := h
      split at h
      · rename_i hr
        obtain ⟨h1, h2, h3, h4, _⟩ := rngOk_ok hr
        exact ⟨i, j, rfl, ⟨h1, h2, h3, h4⟩, h _ ρ2 H2 S3.rel .refl walk_rng⟩
      · exact h.elim
    | _ => exact h.elim
  | _ => exact h.elim
end
end MP
end MPq_text

section MPqa_text
set_option Elab.async false
set_option linter.all false
set_option maxRecDepth 100000
/-! Ranges that go down. -/
namespace MP
open PySem PySem.Spec PyProof.Rows L2
section
variable {CX : CXT} {P : Prog} {F : Fns} {G : Wd} {k : Nat} {S : Cst} {W : WX} {X : Cx} {tg e a b : Expr} {c ca cb : CE} {pos : Pos}
theorem si_rng3 {x : Str} {p q1 q2 : Pos} {j : Nat} (hg : okBlt S x "range" = true) (ha : SE CX P F G k S a ca) (hb : SE CX P F G k S b cb) (hp : plainE a = true) (hp2 : plainE b = true) :
    SI CX P F G k S tg (.Call (.Name x p) [a, b, .UnaryOp .USub (.Constant (.int 1) j q1) q2] [] pos) (.rng3 ca cb (-1)) := fun X W g => by
  obtain ⟨rfl, gl, m, nd, nn⟩ := g.blt hg
  have hc : SE CX P F G k S (.UnaryOp .USub (.Constant (.int 1) j q1) q2) (.neg (.int 1)) := se_neg se_int
  have hp3 : plainE (.UnaryOp .USub (.Constant (.int 1) j q1) q2) = true := rfl
  have s3 : ∀ env : PySem.Env, starEach [.UnaryOp .USub (.Constant (.int 1) j q1) q2] env = [(false, eval (.UnaryOp .USub (.Constant (.int 1) j q1) q2) env)] := fun env => star_plain hp3
  refine (pi_range3 (tg := tg) gl m (pa_cons (ha.pe g) (pa_cons (hb.pe g) (pa_cons (hc.pe g) pa_nil (star_plain hp3)) (star_plain hp2)) (star_plain hp)) (star_plain hp) (by rw [star_plain hp2, s3]; rfl)).imp fun σ H Q ⟨κ, ρ, st, env, S1, h⟩ => ?_
  refine stepE (OK := fun ρ st H => WP G κ ρ st H Q) WP.mono S1 h fun v s1 xv ρ1 H1 _ S2 E2 r1 h => ?_
  refine stepE (OK := fun ρ st H => WP G κ ρ st H Q) WP.mono S2 h fun w s2 yv ρ2 H2 _ S3 E3 r2 h => ?_
  cases v with
  | int i =>
    cases w with
    | int j =>
      cases r1; cases r2
      have h : RP (if rngOk i j && ((-1 : Int) == -1) then .ok ⟨(List.range (i - j).toNat).map fun (n : Nat) => CV.int (i - (n : Int)), none⟩ s2 else .err) (WP G κ ρ2 s2 H2 Q) (XP G W σ κ ρ2 s2 H2) := h
      split at h
      · rename_i hr
        rw [Bool.and_eq_true] at hr
        obtain ⟨h1, h2, h3, h4, _⟩ := rngOk_ok hr.1
        refine ⟨κ, ρ2, s2, env, S3, ?_⟩
        show Post G κ ρ2 s2 H2 (.int (-1)) s2 _
        intro x ρ3 H3 R3 E3 r3
        cases r3
        exact ⟨i, j, -1, (i - j).toNat, rfl, RgC.neg (by omega) (by omega) (by omega) (by omega), h _ ρ3 H3 R3 E3 walk_down⟩
      · exact h.elim
    | _ => exact h.elim
  | _ => exact h.elim
end
end MP
end MPqa_text

section MPqb_text
set_option Elab.async false
set_option linter.all false
set_option maxRecDepth 100000
/-! enumerate over tuples. -/
namespace MP
open PySem PySem.Spec PyProof.Rows L2
open Sem (wp)
/-- enumerate of one argument begins -/
theorem enum1_meets {v : Value} {o : Obj} {Hh : Heap → Prop} (B : Begins v o Hh) :
    Meets (Builtin.«enumerate.__new__» ⟨[.type "enumerate", v], []⟩) (fun _ R s => Hh s.heap ∧ R (.ok (.ret (.ref (s.heap.push o).objs.size)))
      { s with heap := (s.heap.push o).push { cls := .type "enumerate", data := .fields #[.none, .bool false, .ref s.heap.objs.size, rawInt 0, .none, .none] } }) :=
  .of_wp fun P1 w1 A1 R1 s1 h1 => by
    obtain ⟨hp, g0, d0, t0, os0⟩ := s1
    obtain ⟨hb, hr⟩ := h1
    have sb := sub_enumerate
    have it1 : ∀ {A' : Around} {E' Q' : Value → Shared → Prop}, Q' (.ref hp.objs.size) ⟨hp.push o, g0, d0, t0, os0⟩ → wpAny (model P1 w1) A' (pyIter v) Q' E' ⟨hp, g0, d0, t0, os0⟩ := fun q => B.iter P1 w1 _ _ ⟨hp, g0, d0, t0, os0⟩ _ hb q
    wp_walk using it1
    refine wpAny_stack_any fun z => wpAny_pure ?_
    split
    · rename_i c _ _ _ _ _
      cases (c == Value.type "enumerate") <;> (wp_walk using it1; exact ⟨_, rfl, hr⟩)
    · wp_walk using it1
      exact ⟨_, rfl, hr⟩
/-- its two cells -/
theorem enum1_begins {P1 : Program} {w1 : World} {A1 : Around} {E1 Q1 : Value → Shared → Prop} {s1 : Shared} {v : Value} {o : Obj} {Hh : Heap → Prop} (B : Begins v o Hh) (hb : Hh s1.heap)
    (k : ∀ h2, IsEnum h2 (s1.heap.objs.size + 1) s1.heap.objs.size 0 .none → h2.get? s1.heap.objs.size = some o → (∀ b ob, s1.heap.get? b = some ob → h2.get? b = some ob) → Q1 (.ref (s1.heap.objs.size + 1)) { s1 with heap := h2 }) :
    wpAny (model P1 w1) A1 (call (.type "enumerate") [v]) Q1 E1 s1 := by
  refine callType_new F.called_enumerate (by decide) (F.typeCall_enumerate_1 _) (F.newCall_enumerate_1 _) (fun ob => F.args_object_init_2 ob _) F.entry_enumerate_new (enum1_meets B) ⟨hb, ?_⟩
  have sz : (s1.heap.push o).objs.size = s1.heap.objs.size + 1 := Heap.size_push ..
  show _ ∧ _
  rw [sz]
  obtain ⟨eo, heo⟩ : ∃ eo : Obj, eo = { cls := .type "enumerate", data := .fields #[.none, .bool false, .ref s1.heap.objs.size, rawInt 0, .none, .none] } := ⟨_, rfl⟩
  have he : IsEnum ((s1.heap.push o).push eo) (s1.heap.objs.size + 1) s1.heap.objs.size 0 .none := by
    have := Heap.get?_push_size (s1.heap.push o) (o := eo) (by rw [heo]; rfl)
    rw [sz, heo] at this
    rw [heo]
    exact this
  rw [← heo]
  refine ⟨⟨_, he, rfl⟩, k _ he (Heap.get?_push_of_some _ (Heap.get?_push_size _ B.free)) fun b ob x => Heap.get?_push_of_some _ (Heap.get?_push_of_some _ x)⟩
/-- a tuple's items, each in a new pair with its number -/
def Ieu (K : PySem.W.Frag) (a : Addr) : It :=
  ⟨fun i H => ∃ (xs : List V) (x : V), SqT K H a xs ∧ xs[i]? = some x,
    fun i H v H' => ∃ T x, v = .ref T ∧ H T = none ∧ H' = upd H T (.tup [.int (i : Nat), x]) ∧ ∀ xs, SqT K H a xs → xs[i]? = some x,
    fun i H => ∃ xs : List V, SqT K H a xs ∧ xs.length ≤ i⟩
theorem enumU_end {P1 : Program} {w1 : World} {A1 : Around} {E1 : Value → Shared → Prop} {s1 : Shared} {Q1 : Option Value → Shared → Prop} {a e it : Addr} {i : Nat} {c : Int} {old : Value} {its : Array Value} (hd : A1.handled = none)
    (he : IsEnum s1.heap e it c old) (hit : s1.heap.IsTupleIter it a i) (ha : s1.heap.IsTuple a its) (hl : its.size ≤ i) (k : ∀ h2, Heap.ExtBut it s1.heap h2 → Q1 none { s1 with heap := h2 }) : wpAny (model P1 w1) A1 (pyNext (.ref e)) Q1 E1 s1 := by
  have ty : s1.TypeIs (.ref e) "enumerate" := ⟨_, he, rfl⟩
  unfold pyNext
  refine wpAny_bind (wpAny_attempt (wpAny_callSpecial?_slot (name := Str.ofString "__next__") ty F.slot_enumerate_next (wpAny_call_entry F.slot_enumerate_next ty F.entry_enumerate_next ?_ (F.args_enumerate_next_1 _))))
  show wpAny _ _ (field (.ref e) 2 >>= _) _ _ s1
  refine wpAny_bind (wpAny_field (x := .ref it) he rfl rfl ?_)
  refine wpAny_bind (wpAny_nextOf_tuple_end (A := A1.in1) (by simpa using hd) hit ha (by simpa using hl) fun h2 x eb hx => ?_)
  obtain ⟨ob, hob, hcl⟩ := hx
  refine wpAny_bind (wpAny_isInstance (b := true) (T := "StopIteration") ⟨ob, hob, hcl⟩ isSubtype_stop ?_)
  exact wpAny_pure (k h2 eb)
theorem turn_enumU {P1 : Program} {w1 : World} {K : PySem.W.Frag} {elts : List Expr} {kk : Nat} {tpos : Pos} {a e it : Addr} (ne : e ≠ it) (nt : a ≠ it) (na : a ≠ e) :
    Turn P1 w1 K (.Tuple elts kk tpos) (Ieu K a) [e, it] e (fun i h => (∃ old, IsEnum h e it ((i : Nat) : Int) old) ∧ h.IsTupleIter it a i) where
  mem := by simp
  obj := fun i h st b hb => by
    obtain ⟨⟨old, he⟩, o, ho, hc, hd⟩ := st
    have z : b = e ∨ b = it := by simpa using hb
    rcases z with rfl | rfl
    · exact ⟨_, he, fun v q => nomatch q⟩
    · exact ⟨o, ho, fun v q => by rw [hd] at q; cases q⟩
  keep := fun i h h' st kk => ⟨⟨st.1.choose, kk e (by simp) _ st.1.choose_spec⟩, st.2.at fun o q => kk it (by simp) o q⟩
  item := by
    intro X hP hw hK hc i pins s σ H E I hf st hg
    subst hP hw hK
    obtain ⟨⟨old, he⟩, hit⟩ := st
    obtain ⟨xs, x, hq, hx⟩ := hg
    obtain ⟨its, rv, p, hz⟩ := I.tuple hq
    obtain ⟨u, hu, ru⟩ := rv.get hx
    have el : e < s.heap.objs.size := Heap.lt_size he
    have il : it < s.heap.objs.size := by obtain ⟨_, q, _⟩ := hit; exact Heap.lt_size q
    have p2 : s.heap.IsTuple a its.toArray := p
    have hd : X.A.handled = none := I.ok.hd hc
    have hul := (List.getElem?_eq_some_iff.mp hu).1
    refine wpAny_pyNext_enum_itemD (Draws.tuple (A := X.A.in1) (by simpa using hd) it a nt its.toArray) he (i := i) ⟨hit, p2⟩ (by simpa using hul) ne (by simp; exact ⟨ne, fun z => na z.symm⟩) fun y h2 tk hy ho st2 hT sz2 hk => ?_
    have eu : y = u := by
      have : its.toArray[i]? = some y := hy
      rw [List.getElem?_toArray, hu] at this
      exact (Option.some.inj this).symm
    subst eu
    refine ⟨_, rfl, wpAny_letOwnedTupleGo_enum (s := { s with heap := h2, toks := tk + 1 }) ho fun h3 he3 sb => ?_⟩
    have hT3 : h3.get? s.heap.objs.size = some { cls := .type "tuple", data := .seq #[.int i tk, y] } := (sb.2 _ (Nat.ne_of_gt el)).trans hT
    have fresh : ObjOk X.prog X.w (upd H s.heap.objs.size (.tup [.int (i : Nat), x])) h3 s.heap.objs.size (.tup [.int (i : Nat), x]) := ⟨by show 2 ≤ sizeLine; decide, [.int i tk, y], .cons ⟨_, rfl⟩ (.cons ru .nil), ⟨_, hT3, rfl, _, rfl⟩⟩
    have two : ∀ b : Addr, b ∈ [e, it] ↔ b = e ∨ b = it := fun b => by simp
    have I1 : Inv X pins σ (upd H s.heap.objs.size (.tup [.int (i : Nat), x])) { s with heap := h3, toks := tk + 1 } :=
      I.turnedNew (ch := [e, it]) (fun b ob hb q => (sb.2 b (fun z => hb ((two b).mpr (.inl z)))).trans (hk b ob (fun z => hb ((two b).mpr (.inl z))) (fun z => hb ((two b).mpr (.inr z))) q)) hf (Nat.le_refl _) fresh
    refine ⟨.ref s.heap.objs.size, _, I1, rfl, ⟨_, x, rfl, I.hok.fresh (Nat.le_refl _), rfl, fun ys hy => by rw [I.tuple_inj hy hq]; exact hx⟩, ⟨⟨y, ?_⟩, st2.1.at fun o q => (sb.2 it (Ne.symm ne)).trans q⟩, fun b hb => ?_⟩
    · rw [show ((i + 1 : Nat) : Int) = (i : Int) + 1 by omega]
      exact he3
    · have lt : b < s.heap.objs.size := by
        rcases (two b).mp hb with z | z
        · rw [z]; exact el
        · rw [z]; exact il
      rw [upd_ne (Nat.ne_of_lt lt)]
      exact (hf b hb).1
  done := by
    intro X hP hw hK hc i pins s σ H E I hf st hg
    subst hP hw hK
    obtain ⟨⟨old, he⟩, hit⟩ := st
    obtain ⟨xs, hq, hx⟩ := hg
    obtain ⟨its, rv, p, hz⟩ := I.tuple hq
    obtain ⟨f0, f1, f2, f3, f4, f5⟩ := hf it (by simp)
    have p2 : s.heap.IsTuple a its.toArray := p
    have hd : X.A.handled = none := I.ok.hd hc
    have ln := rv.length
    have hl : its.toArray.size ≤ i := by rw [List.size_toArray]; omega
    exact enumU_end hd he hit p2 hl fun h2 eb => ⟨rfl, I.turned (t' := s.toks) (fun b ob hb q => eb b ob hb q) f0 f1 f3 f4 f5⟩
  self := fun A1 i s1 Q1 E1 st hx => st.1.elim fun _ he => wpAny_pyIter_enum he hx
/-- .. of a tuple -/
def iEnumU (K : PySem.W.Frag) (ta : TA) : TI := fun σ H R => ta σ H fun vs H1 => ∃ a xs, vs = [.ref a] ∧ SqT K H1 a xs ∧ R (Ieu K a) H1
theorem pi_enumU {X : Cx} {e : Expr} {ta : TA} {p pos tpos : Pos} {elts : List Expr} {kk : Nat} (hg : Gl X "enumerate") (hm : X.mg "enumerate" = none) (ha : PA X [e] ta) (hs : starEach [e] X.env = [(false, eval e X.env)]) :
    PI X (.Tuple elts kk tpos) (.Call (.Name "enumerate" p) [e] [] pos) (iEnumU X.K ta) := by
  refine ⟨fun pins s σ H R I h => ?_⟩
  refine Call_ (ld_blt I hg hm boot_enumerate (PyProof.Rows.callWith_type1 (thn (ha.run pos pins s σ H _ I h) fun us s1 ⟨vs, H1, I1, r1, q1⟩ => ?_) hs rfl))
  obtain ⟨a, xs, ex, hq, q⟩ := q1
  subst ex
  cases r1 with
  | cons r rr =>
    cases rr
    cases r
    obtain ⟨its, rv, pt, hz⟩ := I1.tuple hq
    have p2 : s1.heap.IsTuple a its.toArray := pt
    have al : a < s1.heap.objs.size := by obtain ⟨_, x, _⟩ := p2; exact Heap.lt_size x
    refine enum1_begins (begins_tuple a its.toArray) p2 fun h2 he hit kk => wpAny_pyIter_enum he ?_
    have I2 : Inv X pins σ H1 { s1 with heap := h2 } := I1.kept (t' := s1.toks) kk
    refine ⟨s1.heap.objs.size + 1, [s1.heap.objs.size + 1, s1.heap.objs.size], _, _, H1, rfl, I2, turn_enumU (Nat.succ_ne_self _) (Nat.ne_of_lt al) (Nat.ne_of_lt (Nat.lt_succ_of_lt al)), ⟨⟨.none, he⟩, ⟨_, hit, rfl, rfl⟩⟩, fun b hb => ?_, q⟩
    have z : b = s1.heap.objs.size + 1 ∨ b = s1.heap.objs.size := by simpa using hb
    have ge : s1.heap.objs.size ≤ b := by
      rcases z with z | z
      · rw [z]; exact Nat.le_succ _
      · rw [z]; exact Nat.le_refl _
    exact I1.fpOk ge (I1.hok.fresh ge)
section
variable {G : Wd} {κ : Addr → Prop} {ρ : List Addr} {st : Sto} {H : Hp}
theorem walk_enumU {K : PySem.W.Frag} {a : Addr} {xs : List CV} {vs : List V} (hq : ∀ κ2 ρ2 st2 H2, HRel G κ2 ρ2 st2 H2 → Lat κ ρ st H κ2 ρ2 st2 H2 → SqT K H2 a vs ∧ RepVs G ρ2 (Live κ2 ρ2 st2) H2 xs vs) : IsWalk G (Ieu K a) (enumL xs) κ ρ st H := fun i κ2 ρ2 st2 H2 R E => by
  obtain ⟨q, r⟩ := hq κ2 ρ2 st2 H2 R E
  refine ⟨fun hi' => have hi := Nat.le_of_eq hi'; ⟨vs, q, by rw [← r.length, ← enumL_len]; exact hi⟩, fun x hx => ?_⟩
  obtain ⟨y, hy, rfl⟩ := enumL_get hx
  obtain ⟨v, e, rv⟩ := r.get hy
  refine ⟨⟨vs, v, q, e⟩, fun xv H' ⟨T, x, ex, hT, eH, z⟩ => ?_⟩
  subst ex
  subst eH
  have := z vs q
  rw [e] at this
  cases this
  have E3 := ext_new (u := .tup [.int (i : Nat), v]) R hT
  exact ⟨rel_new R hT, E3, .tup upd_same (R.noLive hT) (.cons (.int _) (.cons (rv.ext E3) .nil))⟩
theorem pairUp_get {xs ys : List CV} {i : Nat} {x : CV} (h : (pairUp xs ys)[i]? = some x) : ∃ y z, xs[i]? = some y ∧ ys[i]? = some z ∧ x = .tup [y, z] := by
  unfold pairUp at h
  rw [List.getElem?_zipWith] at h
  cases h1 : xs[i]? with
  | none => rw [h1] at h; simp at h
  | some y =>
    rw [h1] at h
    cases h2 : ys[i]? with
    | none => rw [h2] at h; simp at h
    | some z =>
      rw [h2] at h
      exact ⟨y, z, rfl, rfl, (by simpa using h : CV.tup [y, z] = x).symm⟩
theorem walk_zip {K : PySem.W.Frag} {a b : Addr} {xs ys : List CV} {us vs : List V} (hq : ∀ κ2 ρ2 st2 H2, HRel G κ2 ρ2 st2 H2 → Lat κ ρ st H κ2 ρ2 st2 H2 → (SqL K H2 a us ∧ RepVs G ρ2 (Live κ2 ρ2 st2) H2 xs us) ∧ SqL K H2 b vs ∧ RepVs G ρ2 (Live κ2 ρ2 st2) H2 ys vs) : IsWalk G (Itz K a b) (pairUp xs ys) κ ρ st H := fun i κ2 ρ2 st2 H2 R E => by
  obtain ⟨⟨q1, r1⟩, q2, r2⟩ := hq κ2 ρ2 st2 H2 R E
  refine ⟨fun hi' => have hi := Nat.le_of_eq hi'; ⟨us, vs, q1, q2, ?_⟩, fun x hx => ?_⟩
  · have e1 := r1.length
    have e2 := r2.length
    unfold pairUp at hi
    rw [List.length_zipWith] at hi
    omega
  obtain ⟨y, z, hy, hz, rfl⟩ := pairUp_get hx
  obtain ⟨u, eu, ru⟩ := r1.get hy
  obtain ⟨v, ev, rv⟩ := r2.get hz
  refine ⟨⟨us, vs, u, v, q1, q2, eu, ev⟩, fun xv H' ⟨T, x, x', ex, hT, eH, z1, z2⟩ => ?_⟩
  subst ex
  subst eH
  have t1 := z1 us q1
  have t2 := z2 vs q2
  rw [eu] at t1
  rw [ev] at t2
  cases t1
  cases t2
  have E3 := ext_new (u := .tup [u, v]) R hT
  exact ⟨rel_new R hT, E3, .tup upd_same (R.noLive hT) (.cons (ru.ext E3) (.cons (rv.ext E3) .nil))⟩
theorem walk_zipT {K : PySem.W.Frag} {a b : Addr} {xs ys : List CV} {us vs : List V} (hq : ∀ κ2 ρ2 st2 H2, HRel G κ2 ρ2 st2 H2 → Lat κ ρ st H κ2 ρ2 st2 H2 → (SqT K H2 a us ∧ RepVs G ρ2 (Live κ2 ρ2 st2) H2 xs us) ∧ SqT K H2 b vs ∧ RepVs G ρ2 (Live κ2 ρ2 st2) H2 ys vs) : IsWalk G (RZ.ItzT K a b) (pairUp xs ys) κ ρ st H := fun i κ2 ρ2 st2 H2 R E => by
  obtain ⟨⟨q1, r1⟩, q2, r2⟩ := hq κ2 ρ2 st2 H2 R E
  refine ⟨fun hi' => have hi := Nat.le_of_eq hi'; ⟨us, vs, q1, q2, ?_⟩, fun x hx => ?_⟩
  · have e1 := r1.length
    have e2 := r2.length
    unfold pairUp at hi
    rw [List.length_zipWith] at hi
    omega
  obtain ⟨y, z, hy, hz, rfl⟩ := pairUp_get hx
  obtain ⟨u, eu, ru⟩ := r1.get hy
  obtain ⟨v, ev, rv⟩ := r2.get hz
  refine ⟨⟨us, vs, u, v, q1, q2, eu, ev⟩, fun xv H' ⟨T, x, x', ex, hT, eH, z1, z2⟩ => ?_⟩
  subst ex
  subst eH
  have t1 := z1 us q1
  have t2 := z2 vs q2
  rw [eu] at t1
  rw [ev] at t2
  cases t1
  cases t2
  have E3 := ext_new (u := .tup [u, v]) R hT
  exact ⟨rel_new R hT, E3, .tup upd_same (R.noLive hT) (.cons (ru.ext E3) (.cons (rv.ext E3) .nil))⟩
end
section
variable {CX : CXT} {P : Prog} {F : Fns} {G : Wd} {k : Nat} {S : Cst} {W : WX} {X : Cx} {a b : Expr} {ca cb : CE} {pos : Pos}
theorem si_enum {x : Str} {p tp : Pos} {elts : List Expr} {j : Nat} (hg : okBlt S x "enumerate" = true) (ha : SE CX P F G k S a ca) (hp : plainE a = true) : SI CX P F G k S (.Tuple elts j tp) (.Call (.Name x p) [a] [] pos) (.enum ca) := fun X W g => by
  obtain ⟨rfl, gl, m, nd, nn⟩ := g.blt hg
  have pa := pa_cons (ha.pe g) pa_nil (star_plain hp)
  refine ((pi_enum gl m pa (star_plain hp)).or (pi_enumU gl m pa (star_plain hp))).imp fun σ H Q ⟨κ, ρ, st, env, S1, h⟩ => ?_
  have h : RP ((evE P F ca env st).bind fun v s1 => if v.isRow then walk v s1 enumL else .err) (WP G κ ρ st H Q) (XP G W σ κ ρ st H) := h
  by_cases tu : ∃ xs s1, evE P F ca env st = .ok (.tup xs) s1
  · obtain ⟨xs, s1, hv⟩ := tu
    rw [hv] at h
    right
    refine ⟨κ, ρ, st, env, S1, ?_⟩
    rw [hv]
    intro xv ρ1 H1 R1 E1 r1
    cases r1 with
    | tup e n r => exact ⟨_, _, rfl, SqT.of e, h _ ρ1 H1 R1 E1 (walk_enumU fun κ2 ρ2 st2 H2 R2 E2 => ⟨SqT.of (E2.pre.keep _ _ e n).1, r.extP E2.pre⟩)⟩
  · left
    refine stepE (OK := fun ρ st H => WP G κ ρ st H Q) WP.mono S1 h fun v s1 xv ρ1 H1 eq S2 E2 r1 h => ?_
    split at h
    · rename_i hv
      cases r1 with
      | tup e n r => exact absurd ⟨_, _, eq⟩ tu
      | lst e n r => exact ⟨_, _, rfl, SqL.of e, h _ ρ1 H1 S2.rel .refl (walk_enum fun κ2 ρ2 st2 H2 R2 E2 => ⟨SqL.of (E2.pre.keep _ _ e n).1, r.extP E2.pre⟩)⟩
      | scrK e => rw [← g.hK] at e; exact ⟨_, _, rfl, e H1, h _ ρ1 H1 S2.rel .refl (walk_enum fun κ2 ρ2 st2 H2 R2 E2 => ⟨e H2, repInts _⟩)⟩
      | scr e n => exact ⟨_, _, rfl, .inl e, h _ ρ1 H1 S2.rel .refl (walk_enum fun κ2 ρ2 st2 H2 R2 E2 => ⟨.inl (E2.pre.rd e n).1, repInts _⟩)⟩
      | @loc l pp hpp =>
        unfold walk at h
        dsimp only at h
        split at h
        · rename_i ys ho
          obtain ⟨vs, e, w⟩ := lock_sq S2.rel hpp ho
          exact ⟨_, vs, rfl, SqL.of e, h _ ρ1 H1 S2.rel .refl ⟨_, hpp, ho, walk_enum (w X.K)⟩⟩
        · exact h.elim
      | _ => cases hv
    · exact h.elim
theorem si_zip {x : Str} {p tp : Pos} {elts : List Expr} {j : Nat} (hg : okBlt S x "zip" = true) (ha : SE CX P F G k S a ca) (hb : SE CX P F G k S b cb) (hp : plainE a = true) (hp2 : plainE b = true) :
    SI CX P F G k S (.Tuple elts j tp) (.Call (.Name x p) [a, b] [] pos) (.zip (.cons false ca (.cons false cb .nil))) := fun X W g => by
  obtain ⟨rfl, gl, m, nd, nn⟩ := g.blt hg
  have s2 : ∀ env : PySem.Env, starEach [b] env = [(false, eval b env)] := fun env => star_plain hp2
  refine (RZ.pi_zipA gl m (pa_cons (ha.pe g) (pa_cons (hb.pe g) pa_nil (star_plain hp2)) (star_plain hp)) (star_plain hp) (by rw [s2]; rfl)).imp fun σ H Q ⟨κ, ρ, st, env, S1, h⟩ => ?_
  have h : RP ((evE P F ca env st).bind fun x s1 => (evE P F cb env s1).bind fun y s2 => ofO ((zipL [x, y]).map fun xs => (⟨xs, none⟩ : Src)) s2) (WP G κ ρ st H Q) (XP G W σ κ ρ st H) := by
    have e : evI P F (.zip (.cons false ca (.cons false cb .nil))) env st = (evE P F ca env st).bind fun x s1 => (evE P F cb env s1).bind fun y s2 => ofO ((zipL [x, y]).map fun xs => (⟨xs, none⟩ : Src)) s2 := by
      show ((evE P F ca env st).bind fun x s1 => ((evE P F cb env s1).bind fun y s2 => (R.ok [] s2).bind fun r s3 => R.ok (y :: r) s3).bind fun r s3 => R.ok (x :: r) s3).bind _ = _
      cases evE P F ca env st with
      | ok x s1 =>
        show (((evE P F cb env s1).bind fun y s2 => (R.ok [] s2).bind fun r s3 => R.ok (y :: r) s3).bind fun r s3 => R.ok (x :: r) s3).bind _ = (evE P F cb env s1).bind _
        cases evE P F cb env s1 <;> rfl
      | exc c v s1 => rfl
      | err => rfl
    rw [← e]
    exact h
  refine stepE (OK := fun ρ st H => WP G κ ρ st H Q) WP.mono S1 h fun v s1 xv ρ1 H1 _ S2 E2 r1 h => ?_
  refine stepE (OK := fun ρ st H => WP G κ ρ st H Q) WP.mono S2 h fun w s2 yv ρ2 H2 _ S3 E3 r2 h => ?_
  obtain ⟨sr, hs, h⟩ := RP.ofO h
  obtain ⟨zs, hz, rfl⟩ := Option.map_eq_some_iff.mp hs
  have r1 := r1.ext E3
  cases r1 with
  | @lst xs us a1 e1 n1 q1 =>
    cases r2 with
    | @lst ys vs a2 e2 n2 q2 =>
      cases hz
      exact ⟨_, _, _, _, rfl, .inl ⟨SqL.of e1, SqL.of e2, h _ ρ2 H2 S3.rel .refl (walk_zip fun κ3 ρ3 st3 H3 R3 E3 => ⟨⟨SqL.of (E3.pre.keep _ _ e1 n1).1, q1.extP E3.pre⟩, SqL.of (E3.pre.keep _ _ e2 n2).1, q2.extP E3.pre⟩)⟩⟩
    | _ => cases hz
  | @tup xs us a1 e1 n1 q1 =>
    cases r2 with
    | @tup ys vs a2 e2 n2 q2 =>
      cases hz
      exact ⟨_, _, _, _, rfl, .inr ⟨SqT.of e1, SqT.of e2, h _ ρ2 H2 S3.rel .refl (walk_zipT fun κ3 ρ3 st3 H3 R3 E3 => ⟨⟨SqT.of (E3.pre.keep _ _ e1 n1).1, q1.extP E3.pre⟩, SqT.of (E3.pre.keep _ _ e2 n2).1, q2.extP E3.pre⟩)⟩⟩
    | _ => cases hz
  | _ => cases hz
end
end MP
end MPqb_text

section MPr_text
set_option Elab.async false
set_option linter.all false
set_option maxRecDepth 100000
/-! Targets. -/
namespace MP
open PySem PySem.Spec PyProof.Rows L2
section
variable {G : Wd} {κ : Addr → Prop} {ρ ρ1 : List Addr} {st s1 : Sto} {env : Env} {σ : L2.St} {H H1 : Hp}
theorem getV_set {env : Env} {i j : Nat} {v w : CV} (h : getV (setV env i v) j = some w) : (j = i ∧ i < env.length ∧ w = v) ∨ (j ≠ i ∧ getV env j = some w) := by
  unfold getV setV at h
  by_cases hj : i = j
  · subst hj
    by_cases hl : i < env.length
    · rw [List.getElem?_set_self hl] at h
      exact .inl ⟨rfl, hl, (Option.some.inj h).symm⟩
    · rw [List.getElem?_eq_none_iff.mpr (by rw [List.length_set]; omega)] at h
      cases h
  · rw [List.getElem?_set_ne hj] at h
    exact .inr ⟨fun z => hj z.symm, h⟩
theorem Sit.set (S : Sit G κ ρ st env σ H) {i : Nat} {v : CV} {x : V} (r : RepV G ρ (Live κ ρ st) H v x) : Sit G κ ρ st (setV env i v) (σ.set i (some x)) H := by
  refine ⟨S.rel, by unfold setV; rw [List.length_set, List.length_set]; exact S.len, fun j w h => ?_⟩
  rcases getV_set h with ⟨rfl, hl, rfl⟩ | ⟨hj, h⟩
  · exact ⟨x, List.getElem?_set_self (by rw [S.len]; exact hl), r⟩
  · obtain ⟨y, h1, h2⟩ := S.sl j w h
    exact ⟨y, by rw [List.getElem?_set_ne (Ne.symm hj)]; exact h1, h2⟩
/-- what follows new names, a new store -/
def NP (G : Wd) (κ : Addr → Prop) (ρ : List Addr) (st : Sto) (H : Hp) (Q : L2.St → Hp → Prop) (env' : Env) (st' : Sto) : Prop := ∀ ρ' σ' H', Sit G κ ρ' st' env' σ' H' → Ext κ ρ st H ρ' st' H' → Q σ' H'
theorem NP.mono {Q : L2.St → Hp → Prop} {env' : Env} {st' : Sto} (e : Ext κ ρ st H ρ1 s1 H1) (h : NP G κ ρ st H Q env' st') : NP G κ ρ1 s1 H1 Q env' st' := fun ρ' σ' H' S E => h ρ' σ' H' S (e.trans E)
/-- .. the names at ns alone are new -/
def NQ (G : Wd) (κ : Addr → Prop) (ρ : List Addr) (st : Sto) (σ : L2.St) (H : Hp) (ns : List Nat) (Q : L2.St → Hp → Prop) (env' : Env) (st' : Sto) : Prop := ∀ ρ' σ' H', Sit G κ ρ' st' env' σ' H' → Ext κ ρ st H ρ' st' H' → (∀ j : Nat, j ∉ ns → σ'[j]? = σ[j]?) → σ'.length = σ.length → Q σ' H'
/-- only new names and a new store come -/
def FN (x : Fl) (nx : Env → Sto → Prop) : Prop := match x with
  | .nx env s => nx env s
  | _ => False
theorem FN.imp {x : Fl} {p q : Env → Sto → Prop} (h : FN x p) (f : ∀ e s, p e s → q e s) : FN x q := by
  cases x <;> first | exact f _ _ h | exact h
theorem FN.okF {α : Type} {r : R α} {f : α → Sto → Fl} {p : Env → Sto → Prop} (h : FN (okF r f) p) : ∃ a s, r = .ok a s ∧ FN (f a s) p := by
  cases r with
  | ok a s => exact ⟨a, s, rfl, h⟩
  | exc c v s => exact h.elim
  | err => exact h.elim
theorem FN.thn {x : Fl} {f : Env → Sto → Fl} {p : Env → Sto → Prop} (h : FN (x.then f) p) : FN x fun e s => FN (f e s) p := by
  cases x <;> first | exact h | exact h.elim
end
section
variable (P : Prog) (F : Fns) (G : Wd)
def gT (t : CT) : TG := fun v σ H Q => ∃ κ ρ st env cv, Sit G κ ρ st env σ H ∧ RepV G ρ (Live κ ρ st) H cv v ∧ FN (evT P F t cv env st) (NQ G κ ρ st σ H t.names Q)
def gTs (ts : CTs) : TGs := fun vs σ H Q => ∃ κ ρ st env cvs, Sit G κ ρ st env σ H ∧ RepVs G ρ (Live κ ρ st) H cvs vs ∧ FN (evTs P F ts cvs env st) (NQ G κ ρ st σ H ts.names Q)
end
theorem _root_.L2.PG.imp {X : Cx} {tg : Expr} {t t' : TG} (h : PG X tg t) (w : ∀ v σ H Q, t' v σ H Q → t v σ H Q) : PG X tg t' := ⟨fun pins s σ H v u Q I r q => h.run pins s σ H v u Q I r (w v σ H Q q)⟩
theorem _root_.L2.PGs.imp {X : Cx} {tg : List Expr} {t t' : TGs} (h : PGs X tg t) (w : ∀ v σ H Q, t' v σ H Q → t v σ H Q) : PGs X tg t' := ⟨fun pins s σ H v u Q I r q => h.run pins s σ H v u Q I r (w v σ H Q q)⟩
section
variable {CX : CXT} {P : Prog} {F : Fns} {G : Wd} {k : Nat} {S : Cst} {W : WX} {X : Cx} {e a b d tg : Expr} {c ca cb cd : CE} {pos : Pos}
def ST (CX : CXT) (P : Prog) (F : Fns) (G : Wd) (k : Nat) (S : Cst) (tg : Expr) (t : CT) : Prop := ∀ (X : Cx) (W : WX), Okay CX P F G k S W X → PG X tg (gT P F G t)
def STs (CX : CXT) (P : Prog) (F : Fns) (G : Wd) (k : Nat) (S : Cst) (tg : List Expr) (t : CTs) : Prop := ∀ (X : Cx) (W : WX), Okay CX P F G k S W X → PGs X tg (gTs P F G t)
theorem st_var {i : Nat} {x : Str} (h : okLoc S i x = true) : ST CX P F G k S (.Name x pos) (.var i) := fun X W g => by
  obtain ⟨h1, h2, h3⟩ := g.loc h
  refine (pg_name g.nd h1 h2 h3).imp fun v σ H Q ⟨κ, ρ, st, env, cv, S1, r, h⟩ => ?_
  exact h ρ _ H (S1.set r) .refl (fun j hj => List.getElem?_set_ne fun z => hj (by rw [z]; exact List.mem_singleton.mpr rfl)) (List.length_set)
theorem sts_nil : STs CX P F G k S [] .nil := fun X W g => pgs_nil.imp fun vs σ H Q ⟨κ, ρ, st, env, cvs, S1, r, h⟩ => by
  cases r with
  | nil => exact ⟨rfl, h ρ σ H S1 .refl (fun _ _ => rfl) rfl⟩
  | cons h1 r => exact h.elim
theorem asg_plain {e : Expr} {es : List Expr} {env : PySem.Env} (h : plainE e = true) : assignEach (e :: es) env = (false, assign e env) :: assignEach es env := by
  cases e <;> first | rfl | cases h
theorem sts_cons {es : List Expr} {t : CT} {ts : CTs} (ha : ST CX P F G k S a t) (hr : STs CX P F G k S es ts) (hp : plainE a = true) : STs CX P F G k S (a :: es) (.cons t ts) := fun X W g => by
  refine (pgs_cons (ha X W g) (hr X W g) (by rw [asg_plain hp]; rfl)).imp fun vs σ H Q ⟨κ, ρ, st, env, cvs, S1, r, h⟩ => ?_
  cases r with
  | nil => exact h.elim
  | cons h1 r =>
    refine ⟨_, _, rfl, κ, ρ, st, env, _, S1, h1, (FN.thn h).imp fun env' st' q ρ' σ' H' S2 E hj hl => ?_⟩
    exact ⟨κ, ρ', st', env', _, S2, r.ext E, q.imp fun _ _ q ρ2 σ2 H2 S3 E3 hj3 hl3 => q ρ2 σ2 H2 S3 (E.trans E3)
      (fun j hn => (hj3 j fun z => hn (List.mem_append_right _ z)).trans (hj j fun z => hn (List.mem_append_left _ z))) (hl3.trans hl)⟩
theorem asg_all {es : List Expr} {env : PySem.Env} (h : es.all plainE = true) : (assignEach es env).length = es.length ∧ (assignEach es env).findIdx? (·.1) = none := by
  induction es with
  | nil => exact ⟨rfl, rfl⟩
  | cons e es ih =>
    rw [List.all_cons] at h
    obtain ⟨h1, h2⟩ := Bool.and_eq_true_iff.mp h
    obtain ⟨i1, i2⟩ := ih h2
    rw [asg_plain h1]
    refine ⟨by rw [List.length_cons, List.length_cons, i1], ?_⟩
    rw [List.findIdx?_cons]
    simp [i2]
theorem evTs_len : ∀ (ts : CTs) (cvs : List CV) (env : Env) (st : Sto) (p : Env → Sto → Prop), FN (evTs P F ts cvs env st) p → cvs.length = CTs.len ts
  | .nil, [], _, _, _, _ => rfl
  | .nil, _ :: _, _, _, _, h => h.elim
  | .cons _ _, [], _, _, _, h => h.elim
  | .cons t r, x :: xs, env, st, p, h => by
    have h := FN.thn (show FN ((evT P F t x env st).then fun env1 s1 => evTs P F r xs env1 s1) p from h)
    cases hv : evT P F t x env st with
    | nx env1 s1 => rw [hv] at h; rw [List.length_cons, evTs_len r xs env1 s1 p h]; rfl
    | ret v s => rw [hv] at h; exact h.elim
    | exc c v e s => rw [hv] at h; exact h.elim
    | err => rw [hv] at h; exact h.elim
theorem st_tup {es : List Expr} {j : Nat} {ts : CTs} (h : STs CX P F G k S es ts) (hp : es.all plainE = true) (hl : es.length = CTs.len ts) : ST CX P F G k S (.Tuple es j pos) (.tup ts) := fun X W g => by
  obtain ⟨l1, l2⟩ := asg_all (env := X.env) hp
  refine (pg_tup (n := es.length) g.calm (h X W g) l1 l2).imp fun v σ H Q ⟨κ, ρ, st, env, cv, S1, r, h⟩ => ?_
  cases r with
  | tup h1 n r => exact ⟨_, _, rfl, SqT.of h1, by rw [← r.length, hl]; exact evTs_len ts _ _ _ _ h, κ, ρ, st, env, _, S1, r, h⟩
  | kt h1 =>
    have r := repInts (G := G) (ρ := ρ) (L := Live κ ρ st) (H := H) (by assumption)
    exact ⟨_, _, rfl, by rw [g.hK]; exact h1 H, by rw [← r.length, hl]; exact evTs_len ts _ _ _ _ h, κ, ρ, st, env, _, S1, r, h⟩
  | _ => exact h.elim
/-- o[i] = v -/
def rSet (G : Wd) : TSet := fun o i v H Q => ∃ κ ρ st oc ic vc st', HRel G κ ρ st H ∧ RepV G ρ (Live κ ρ st) H oc o ∧ RepV G ρ (Live κ ρ st) H ic i ∧ RepV G ρ (Live κ ρ st) H vc v ∧ setItem st oc ic vc = some st' ∧ ∀ H', HRel G κ ρ st' H' → Ext κ ρ st H ρ st' H' → Q H'
theorem dicAt_rep {κ : Addr → Prop} {ρ : List Addr} {st : Sto} {H : Hp} {a : CV} {x : V} {q : Nat × Bool × List (CV × CV)} (r : RepV G ρ (Live κ ρ st) H a x) (e : dicAt st a = some q) : ∃ p, x = .ref p ∧ ρ[q.1]? = some p ∧ st[q.1]? = some (.dic q.2.1 q.2.2) := by
  unfold dicAt at e
  split at e
  · split at e
    · rename_i l t kvs hl
      cases e
      cases r with
      | loc h => exact ⟨_, rfl, h, hl⟩
    · cases e
  · cases e
theorem set_all (hu : X.A.units + 64 < cLine) : PSet X (rSet G) := by
  intro pins s σ H o i v ov iv u Q I ro ri rv h
  obtain ⟨κ, ρ, st, oc, ic, vc, st', R, r1, r2, r3, e, q⟩ := h
  unfold setItem at e
  split at e
  · rename_i l xs hx
    split at e
    · rename_i n
      obtain ⟨j, hj, rfl⟩ := Option.map_eq_some_iff.mp e
      cases r2
      obtain ⟨p, vs, rfl, hp, hs, hv, r⟩ := lstAt_rep R r1 hx
      obtain ⟨R2, E2⟩ := lst_put R hp hs (r.set j r3)
      exact set_list pins s σ H _ _ v ov iv u Q I ro ri rv ⟨p, vs, n, j, rfl, rfl, hv, by rw [← r.length]; exact (ixOf_eq _ _).trans hj, q _ R2 E2⟩
    · cases e
  · split at e
    · rename_i l t kvs hx
      split at e
      · rename_i hok
        cases e
        obtain ⟨ok, hz⟩ := Bool.and_eq_true_iff.mp hok
        obtain ⟨p, rfl, hp, hs⟩ := dicAt_rep r1 hx
        obtain rfl : ov = Value.ref p := ro
        have obj := R.obj l p _ hp hs
        cases t with
        | false =>
          obtain ⟨ws, e1, rd⟩ := obj
          obtain ⟨y, hk, rfl⟩ := key_k r2 ok
          have E2 := ext_set (u := .dK (putK ws y v)) (o' := .dic false (dput kvs ic vc)) R hp hs rfl rfl
          exact d_setItem (by omega) I (DPut.k e1 (by rw [← rd.length]; exact lenOk_lt hz)) ri rv fun s' I' => ⟨_, I', q _ (rel_set R hp hs rfl rfl ⟨_, upd_same, (rd.put hk r3).ext E2⟩) E2⟩
        | true =>
          obtain ⟨ws, e1, rd⟩ := obj
          obtain ⟨b, ns, rfl, rfl, hb⟩ := key_t r2 ok
          have E2 := ext_set (u := .dT (putK ws (ns.map Sum.inl) v)) (o' := .dic true (dput kvs (.tup (ns.map CV.int)) vc)) R hp hs rfl rfl
          exact d_setItem (by omega) I (DPut.t e1 hb (by rw [← rd.length]; exact lenOk_lt hz)) ri rv fun s' I' => ⟨_, I', q _ (rel_set R hp hs rfl rfl ⟨_, upd_same, (rd.put ⟨ns, rfl, rfl⟩ r3).ext E2⟩) E2⟩
      · cases e
    · cases e
theorem tE_ok {κ : Addr → Prop} {ρ : List Addr} {st s1 : Sto} {env : Env} {σ : L2.St} {H : Hp} {v : CV} {Q : VK} (S1 : Sit G κ ρ st env σ H) (h : evE P F c env st = .ok v s1) (q : ∀ x ρ1 H1, Sit G κ ρ1 s1 env σ H1 → Ext κ ρ st H ρ1 s1 H1 → RepV G ρ1 (Live κ ρ1 s1) H1 v x → Q x H1) : tE P F G W false c σ H Q :=
  ⟨κ, ρ, st, env, S1, by rw [h]; exact fun x ρ1 H1 R E r => q x ρ1 H1 (S1.ext R E) E r⟩
theorem assign_sub {o i : Expr} {env : PySem.Env} (h : noSlice i = true) (v : Value) : assign (.Subscript o i pos) env v = (do
      let ov ← holding [v] (eval o env)
      let iv ← holding [v, ov] (eval i env)
      standAt pos
      holding [v, ov, iv] (PySem.setItem ov iv v)
      release [v, ov, iv] []) := by
  cases i <;> first | rfl | cases h
theorem st_idx (ha : SE CX P F G k S a ca) (hb : SE CX P F G k S b cb) (hs : noSlice b = true) : ST CX P F G k S (.Subscript a b pos) (.idx ca cb) := fun X W g => by
  refine (pg_sub (ha.pe g) (hb.pe g) (set_all (G := G) g.un) (assign_sub hs)).imp fun v σ H Q ⟨κ, ρ, st, env, cv, S1, r, h⟩ => ?_
  obtain ⟨o, s1, e1, h⟩ := FN.okF (show FN (okF (evE P F ca env st) fun o s1 => okF (evE P F cb env s1) fun x s2 => match setItem s2 o x cv with
    | some s3 => .nx env s3
    | none => .err) _ from h)
  refine tE_ok S1 e1 fun ox ρ1 H1 S2 E2 r1 => ?_
  obtain ⟨i, s2, e2, h⟩ := FN.okF h
  refine tE_ok S2 e2 fun ix ρ2 H2 S3 E3 r2 => ?_
  cases hi : setItem s2 o i cv with
  | none => rw [hi] at h; exact h.elim
  | some s3 =>
    rw [hi] at h
    exact ⟨κ, ρ2, s2, o, i, cv, s3, S3.rel, r1.ext E3, r2, (r.ext E2).ext E3, hi, fun H' R' E' => h ρ2 σ H' (S3.ext R' E') ((E2.trans E3).trans E') (fun _ _ => rfl) rfl⟩
end
end MP
end MPr_text

section MPs_text
set_option Elab.async false
set_option linter.all false
set_option maxRecDepth 100000
/-! Comprehensions. -/
namespace MP
open PySem PySem.Spec PyProof.Rows L2
section
variable {G : Wd} {κ : Addr → Prop} {ρ ρ2 : List Addr} {st st2 : Sto} {H H2 : Hp} {l : Nat} {p : Addr} {ys : List CV}
theorem lock_gone (R : HRel G κ ρ st H) (hp : ρ[l]? = some p) (h : st[l]? = some (.lst ys)) (E : Ext (fun b => κ b ∨ b = p) ρ (st.set l .gone) H ρ2 st2 H2) (R2 : HRel G (fun b => κ b ∨ b = p) ρ2 st2 H2) : ρ2[l]? = some p ∧ st2[l]? = some .gone := by
  have h2 := E.toPre.at_ hp
  refine ⟨h2, ?_⟩
  have hl : l < st2.length := by rw [← R2.len]; exact (List.getElem?_eq_some_iff.mp h2).1
  rw [List.getElem?_eq_getElem hl]
  congr 1
  have n := (R2.hid p (.inr rfl)).2
  cases ho : st2[l] with
  | gone => rfl
  | lst xs => exact (n ⟨l, _, h2, (List.getElem?_eq_getElem hl).trans (by rw [ho]), rfl⟩).elim
  | dic t xs => exact (n ⟨l, _, h2, (List.getElem?_eq_getElem hl).trans (by rw [ho]), rfl⟩).elim
  | ins c xs => exact (n ⟨l, _, h2, (List.getElem?_eq_getElem hl).trans (by rw [ho]), rfl⟩).elim
theorem lock_nk (R : HRel G κ ρ st H) (hp : ρ[l]? = some p) (h : st[l]? = some (.lst ys)) : ¬ κ p := fun q => (R.hid p q).2 ⟨l, _, hp, h, rfl⟩
theorem pre_lock (R : HRel G κ ρ st H) (hp : ρ[l]? = some p) (h : st[l]? = some (.lst ys)) : Pre κ ρ st H (fun b => κ b ∨ b = p) ρ (st.set l .gone) H := ⟨List.prefix_refl _, fun a w h2 n => ⟨h2, fun q => n ((live_lock R hp h rfl a).mp q)⟩⟩
theorem pre_unlock (hp : ρ[l]? = some p) (h : st[l]? = some .gone) : Pre (fun b => κ b ∨ b = p) ρ st H κ ρ (st.set l (.lst ys)) H := ⟨List.prefix_refl _, fun a w h2 n => ⟨h2, fun q => n ((live_unlock hp h rfl a).mp q)⟩⟩
theorem unlock_rel (R : HRel G κ ρ st H) (hp : ρ[l]? = some p) (h : st[l]? = some (.lst ys)) (E : Ext (fun b => κ b ∨ b = p) ρ (st.set l .gone) H ρ2 st2 H2) (R2 : HRel G (fun b => κ b ∨ b = p) ρ2 st2 H2) : HRel G κ ρ2 (st2.set l (.lst ys)) H2 := by
  obtain ⟨h1, h2⟩ := lock_gone R hp h E R2
  obtain ⟨vs, e, w⟩ := lock_sq R hp h
  obtain ⟨_, r⟩ := w G.K _ ρ2 st2 H2 R2 ⟨E.toPre, fun a h => ⟨h, E.hk a h⟩⟩
  exact rel_unlock R2 (lock_nk R hp h) h1 h2 ⟨vs, by rw [E.hk p (.inr rfl)]; exact e, r⟩
theorem unlock_ext (R : HRel G κ ρ st H) (hp : ρ[l]? = some p) (h : st[l]? = some (.lst ys)) (E : Ext (fun b => κ b ∨ b = p) ρ (st.set l .gone) H ρ2 st2 H2) (R2 : HRel G (fun b => κ b ∨ b = p) ρ2 st2 H2) : Ext κ ρ st H ρ2 (st2.set l (.lst ys)) H2 := by
  obtain ⟨h1, h2⟩ := lock_gone R hp h E R2
  refine ⟨E.pre, fun a ha => E.hk a (.inl ha), fun a o e n => ?_, E.tr, E.nw⟩
  obtain ⟨k1, k2⟩ := (pre_lock R hp h).keep a o e n
  obtain ⟨k3, k4⟩ := E.keep a o k1 k2
  exact (pre_unlock (ys := ys) h1 h2).keep a o k3 k4
end

/-! ### the locked state, in one -/
/-- what is out of reach while src is walked; the store then -/
def lockK (κ : Addr → Prop) (ρ : List Addr) : Option (Nat × List CV) → Addr → Prop
  | none => κ
  | some (l, _) => fun b => κ b ∨ some b = ρ[l]?
structure Locked (G : Wd) (κ κ' : Addr → Prop) (ρ : List Addr) (st : Sto) (H : Hp) (src : Src) : Prop where
  rel : HRel G κ' ρ (src.on st) H
  pre : Pre κ ρ st H κ' ρ (src.on st) H
  ln : ∀ l ys, src.lock = some (l, ys) → l < ρ.length
  back : ∀ ρ2 st2 H2, Ext κ' ρ (src.on st) H ρ2 st2 H2 → HRel G κ' ρ2 st2 H2 → HRel G κ ρ2 (src.off st2) H2 ∧ Ext κ ρ st H ρ2 (src.off st2) H2 ∧ Pre κ' ρ2 st2 H2 κ ρ2 (src.off st2) H2
theorem walk_locked {G : Wd} {J : It} {src : Src} {κ : Addr → Prop} {ρ : List Addr} {st : Sto} {H : Hp} (R : HRel G κ ρ st H) (w : WalkS G J src κ ρ st H) : ∃ κ', Locked G κ κ' ρ st H src ∧ IsWalk G J src.items κ' ρ (src.on st) H := by
  obtain ⟨items, lock⟩ := src
  cases lock with
  | none => exact ⟨κ, ⟨R, ⟨List.prefix_refl _, fun a o h n => ⟨h, n⟩⟩, (fun _ _ q => nomatch q), fun ρ2 st2 H2 E R2 => ⟨R2, E, ⟨List.prefix_refl _, fun a o h n => ⟨h, n⟩⟩⟩⟩, w⟩
  | some q =>
    obtain ⟨l, ys⟩ := q
    obtain ⟨p, hp, h, w⟩ := w
    refine ⟨fun b => κ b ∨ b = p, ⟨rel_lock R hp h, pre_lock R hp h, (fun l' ys' q => by cases q; exact (List.getElem?_eq_some_iff.mp hp).1), fun ρ2 st2 H2 E R2 => ⟨unlock_rel R hp h E R2, unlock_ext R hp h E R2, ?_⟩⟩, w⟩
    obtain ⟨h1, h2⟩ := lock_gone R hp h E R2
    exact pre_unlock h1 h2

/-! ### a block's names -/
theorem wipe_at (σ : L2.St) (j : Nat) : ∀ vs : List Nat, (wipe σ vs)[j]? = if j ∈ vs then (if j < σ.length then some none else none) else σ[j]?
  | [] => by simp [wipe]
  | v :: vs => by
    unfold wipe
    by_cases h : v = j
    · subst h
      rw [if_pos List.mem_cons_self]
      by_cases hl : v < σ.length
      · rw [if_pos hl, List.getElem?_set_self (by rw [wipe_length]; exact hl)]
      · rw [if_neg hl, List.getElem?_eq_none_iff.mpr (by rw [List.length_set, wipe_length]; omega)]
    · rw [List.getElem?_set_ne h, wipe_at σ j vs]
      have e : (j ∈ v :: vs) = (j ∈ vs) := by
        rw [List.mem_cons]
        exact propext ⟨fun z => z.elim (fun q => absurd q.symm h) id, .inr⟩
      simp only [e]
theorem wipeV_at (env : Env) (j : Nat) : ∀ (ns : List Nat) (v : CV), getV (wipeV env ns) j = some v → j ∉ ns ∧ getV env j = some v
  | [], v, h => ⟨by simp, h⟩
  | n :: ns, v, h => by
    unfold wipeV getV at h
    by_cases hn : n = j
    · subst hn
      by_cases hl : n < (wipeV env ns).length
      · rw [List.getElem?_set_self hl] at h; cases h
      · rw [List.getElem?_eq_none_iff.mpr (by rw [List.length_set]; omega)] at h; cases h
    · rw [List.getElem?_set_ne hn] at h
      obtain ⟨h1, h2⟩ := wipeV_at env j ns v h
      exact ⟨fun q => (List.mem_cons.mp q).elim (fun z => hn z.symm) h1, h2⟩
theorem wipeV_len (env : Env) : ∀ ns : List Nat, (wipeV env ns).length = env.length
  | [] => rfl
  | n :: ns => by unfold wipeV; rw [List.length_set, wipeV_len env ns]
theorem Sit.wipe {G : Wd} {κ : Addr → Prop} {ρ : List Addr} {st : Sto} {env : Env} {σ : L2.St} {H : Hp} (S : Sit G κ ρ st env σ H) {ns vs : List Nat} (h : ∀ j ∈ vs, j ∈ ns) : Sit G κ ρ st (wipeV env ns) (L2.wipe σ vs) H := by
  refine ⟨S.rel, by rw [wipe_length, wipeV_len]; exact S.len, fun j v hv => ?_⟩
  obtain ⟨h1, h2⟩ := wipeV_at env j ns v hv
  obtain ⟨x, h3, h4⟩ := S.sl j v h2
  exact ⟨x, by rw [wipe_at, if_neg fun z => h1 (h j z)]; exact h3, h4⟩
theorem wipe_same {σ σ2 : L2.St} {vs ns : List Nat} (h : ∀ j ∈ ns, j ∈ vs) (h2 : ∀ j : Nat, j ∉ ns → σ2[j]? = (L2.wipe σ vs)[j]?) (hl : σ2.length = (L2.wipe σ vs).length) : L2.wipe σ2 vs = L2.wipe σ vs := by
  refine List.ext_getElem? fun j => ?_
  rw [wipe_at, wipe_at]
  by_cases hj : j ∈ vs
  · rw [if_pos hj, if_pos hj, hl, wipe_length]
  · rw [if_neg hj, if_neg hj, h2 j fun z => hj (h j z), wipe_at, if_neg hj]
/-- what a block may be, by its syntax -/
def okBlk (S : Cst) (scope : Scope) (own : List (Str × Nat)) (ns : List Nat) : Bool :=
  decide (scope.kind = .function) && (scope.names.all fun y => decide (scope.names.lookup y.1 = some y.2)) && (own.all fun p => decide (S.N[p.2]? = some p.1)) &&
  (scope.names.all fun y => decide (y.2 ≠ .free) || (decide (S.sc.names.lookup y.1 = some .cell) || decide (S.sc.names.lookup y.1 = some .free))) &&
  (scope.names.all fun y => !(decide (y.2 = .local) || decide (y.2 = .cell)) || ((own.map (·.1)).contains y.1 || !(S.N.contains y.1))) &&
  ((own.map (·.2)).all fun j => ns.contains j) && (ns.all fun j => (own.map (·.2)).contains j)
theorem okBlk_ok {S : Cst} {scope : Scope} {own : List (Str × Nat)} {ns : List Nat} (h : okBlk S scope own ns = true) : BlkOk S.N S.sc scope own ∧ (∀ j ∈ own.map (·.2), j ∈ ns) ∧ ∀ j ∈ ns, j ∈ own.map (·.2) := by
  unfold okBlk at h
  simp only [Bool.and_eq_true, List.all_eq_true, decide_eq_true_eq, Bool.or_eq_true, Bool.not_eq_true'] at h
  obtain ⟨⟨⟨⟨⟨⟨h1, h2⟩, h3⟩, h4⟩, h5⟩, h6⟩, h7⟩ := h
  refine ⟨⟨h1, h2, h3, fun y hy e => ?_, fun y hy e => ?_⟩, fun j hj => by simpa using h6 j hj, fun j hj => by simpa using h7 j hj⟩
  · rcases h4 y hy with z | z
    · exact absurd e z
    · exact z
  · rcases h5 y hy with z | z
    · rw [Bool.or_eq_false_iff] at z
      rcases e with e | e
      · exact absurd e (of_decide_eq_false z.1)
      · exact absurd e (of_decide_eq_false z.2)
    · rcases z with z | z
      · exact .inl (by simpa using z)
      · exact .inr (by simpa using z)
theorem BlkOk.sc {N : List Str} {a b scope : Scope} {own : List (Str × Nat)} (h : BlkOk N a scope own) (r : ScR a b) : BlkOk N b scope own :=
  ⟨h.kind, h.uniq, h.ix, fun y hy e => (h.free y hy e).elim (fun z => .inl (r.cell _ z)) (fun z => r.free _ z), h.own⟩
theorem lookup_relabel {env : PySem.Env} {x : Str} : ∀ {names : List (Str × NameKind)} {q : NameKind}, names.lookup x = some q →
    (names.map fun (n, k) => if (k == NameKind.free && env.scope.kind == .function && env.kindOf n == some .cell) then (n, NameKind.cell) else (n, k)).lookup x = some (if (q == NameKind.free && env.scope.kind == .function && env.kindOf x == some .cell) then .cell else q)
  | [], q, h => by cases h
  | (n, k) :: r, q, h => by
    rw [List.map_cons]
    have ih := @lookup_relabel env x r q
    by_cases hx : x = n
    · subst hx
      rw [List.lookup_cons_self] at h
      cases h
      dsimp only
      split
      · rw [List.lookup_cons_self]
      · rw [List.lookup_cons_self]
    · have hb : (x == n) = false := beq_eq_false_iff_ne.mpr hx
      rw [List.lookup_cons, hb] at h
      dsimp only
      split
      · rw [List.lookup_cons, hb]; exact ih h
      · rw [List.lookup_cons, hb]; exact ih h
theorem scr_blk (scope : Scope) (env : PySem.Env) : ScR scope (relabel scope env) :=
  ⟨fun x h => lookup_relabel h, fun x h => lookup_relabel h, fun x h => lookup_relabel h, fun x h => by
    have := lookup_relabel (env := env) h
    unfold relabel
    dsimp only
    rw [this]
    split
    · exact .inl rfl
    · exact .inr rfl⟩
/-- within a block -/
theorem Okay.blk {CX : CXT} {P : Prog} {F : Fns} {G : Wd} {k : Nat} {S : Cst} {W : WX} {X : Cx} (g : Okay CX P F G k S W X) (scope : Scope) (s : Shared) (H : Hp) (C : Addr) (cl : List (Str × Addr)) (fp : List Addr) :
    Okay CX P F G k ⟨S.N, scope, false⟩ (fun _ _ _ _ => False) (X.blk s H scope (compEnvC scope cl C X.env) fp) :=
  ⟨g.fix, g.calm, g.N, g.nd, scr_blk scope X.env, (fun q => nomatch q), g.room, (fun σ pins H s e s' I q => (g.fix.cx0 _ _ _ _ _ q).elim), (fun q => nomatch q)⟩
end MP
end MPs_text

section MPt_text
set_option Elab.async false
set_option linter.all false
set_option maxRecDepth 100000
/-! List comprehensions. -/
namespace MP
open PySem PySem.Spec PyProof.Rows L2
section
variable {CX : CXT} {P : Prog} {F : Fns} {G : Wd} {k : Nat} {S : Cst} {W : WX} {X : Cx} {e a b d tg it : Expr} {c ca cb cd : CE} {pos : Pos}
theorem stepI {β : Type} {κ : Addr → Prop} {ρ : List Addr} {st : Sto} {env : Env} {σ : L2.St} {H : Hp} {ci : CI} {f : Src → Sto → R β} {OK : List Addr → Sto → Hp → β → Sto → Prop} {Q : It → Hp → Prop} (mono : ∀ {ρ1 s1 H1 b s}, Ext κ ρ st H ρ1 s1 H1 → OK ρ st H b s → OK ρ1 s1 H1 b s)
    (S : Sit G κ ρ st env σ H) (h : RP ((evI P F ci env st).bind f) (OK ρ st H) (XP G W σ κ ρ st H))
    (k : ∀ src s1 J ρ1 H1, Sit G κ ρ1 s1 env σ H1 → Ext κ ρ st H ρ1 s1 H1 → WalkS G J src κ ρ1 s1 H1 → RP (f src s1) (OK ρ1 s1 H1) (XP G W σ κ ρ1 s1 H1) → Q J H1) : tI P F G W ci σ H Q := by
  refine ⟨κ, ρ, st, env, S, (stepR h).imp (fun src s1 hv J ρ1 H1 R E w => ?_) fun _ _ _ h => h⟩
  exact k src s1 J ρ1 H1 (S.ext R E) E w (hv.imp (fun _ _ => mono E) fun _ _ _ => XP.mono E)
/-- a test behind a comprehension -/
def tC1 (P : Prog) (F : Fns) (G : Wd) (c : CP) : TT := fun σ H Q => ∃ κ ρ st env, Sit G κ ρ st env σ H ∧ ∃ b s1, evC P F c env st = .ok b s1 ∧ ∀ ρ1 H1, HRel G κ ρ1 s1 H1 → Ext κ ρ st H ρ1 s1 H1 → Q b H1
def SC (CX : CXT) (P : Prog) (F : Fns) (G : Wd) (k : Nat) (S : Cst) (ifs : List Expr) (c : CP) : Prop := ∀ (X : Cx) (W : WX), Okay CX P F G k S W X → PTs X ifs (tC1 P F G c)
theorem sc_no : SC CX P F G k S [] .no := fun X W g => ⟨fun pins s σ H Q I ⟨κ, ρ, st, env, S1, b, s1, e, q⟩ => by
  cases e
  exact pts_nil.run pins s σ H Q I (q ρ H S1.rel .refl)⟩
theorem sc_yes (ha : SE CX P F G k S a ca) : SC CX P F G k S [a] (.yes ca) := fun X W g => ⟨fun pins s σ H Q I ⟨κ, ρ, st, env, S1, b, s1, e, q⟩ => (pts_one (ha.pt g)).run pins s σ H Q I (by
  have e : ((evE P F ca env st).bind fun x s1 => match x with
    | .bl b => R.ok b s1
    | _ => .err) = .ok b s1 := e
  cases hv : evE P F ca env st with
  | ok v s2 =>
    rw [hv, R.bind_ok] at e
    cases v with
    | bl t =>
      cases e
      exact ⟨κ, ρ, st, env, S1, by
        rw [hv]
        intro x ρ1 H1 R E r
        cases r
        exact ⟨_, rfl, q ρ1 H1 R E⟩⟩
    | _ => cases e
  | exc c v s => rw [hv] at e; cases e
  | err => rw [hv] at e; cases e)⟩
/-- a turn -/
noncomputable def turnF (P : Prog) (F : Fns) (t : CT) (c : CP) (elt : CE) (ns : List Nat) (env : Env) : CV → Sto → R (Option CV) := fun x s => match evT P F t x (wipeV env ns) s with
  | .nx env2 s2 => (evC P F c env2 s2).bind fun b s3 => if b then (evE P F elt env2 s3).bind fun y s4 => .ok (some y) s4 else .ok none s3
  | _ => .err
theorem compL_cons {f : CV → Sto → R (Option CV)} {x : CV} {r : List CV} {st : Sto} {all : List CV} {sf : Sto} (h : compL f (x :: r) st = .ok all sf) : ∃ o s1 ys, f x st = .ok o s1 ∧ compL f r s1 = .ok ys sf ∧ all = o.toList ++ ys := by
  unfold compL at h
  cases h1 : f x st with
  | ok o s1 =>
    rw [h1] at h
    dsimp only at h
    cases h2 : compL f r s1 with
    | ok ys s2 =>
      rw [h2] at h
      cases o with
      | none => cases h; exact ⟨none, s1, _, rfl, h2, rfl⟩
      | some y => cases h; exact ⟨some y, s1, _, rfl, h2, rfl⟩
    | exc c v s => rw [h2] at h; cases h
    | err => rw [h2] at h; cases h
  | exc c v s => rw [h1] at h; cases h
  | err => rw [h1] at h; cases h
/-- the way to a state within -/
theorem pre_in {κ : Addr → Prop} {ρ ρ2 : List Addr} {st st2 : Sto} {H H2 : Hp} {D : Addr} (E : Ext κ ρ st H ρ2 st2 H2) (hD : H D = none) : Pre κ ρ st H (fun b => κ b ∨ b = D) ρ2 st2 H2 :=
  ⟨E.pre, fun a o h n => ⟨(E.keep a o h n).1, fun q => by
    rcases q with (q | q) | q
    · exact (E.keep a o h n).2 (.inl q)
    · exact ne_of_none h hD q
    · exact (E.keep a o h n).2 (.inr q)⟩⟩
/-- a step within -/
theorem ext_in {κ : Addr → Prop} {ρ ρ2 ρ3 : List Addr} {st st2 st3 : Sto} {H H2 H3 : Hp} {D : Addr} {u : HO} (R : HRel G κ ρ st H) (E : Ext κ ρ st H ρ2 st2 H2) (hD : H D = none) (E2 : Ext (fun b => κ b ∨ b = D) ρ2 st2 H2 ρ3 st3 H3) : Ext κ ρ st H ρ3 st3 (upd H3 D u) := by
  have nk : ∀ a, κ a → a ≠ D := fun a h z => R.noHid hD (by rw [← z]; exact h)
  refine ⟨E.pre.trans E2.pre, fun a h => by rw [upd_ne (nk a h), E2.hk a (.inl h), E.hk a h], fun a o h n => ?_, fun a h => E.tr a (E2.tr a (upd_none h)), fun l a h => (E2.nw l a h).elim (E.nw l a) fun z => .inr (E.tr a z)⟩
  obtain ⟨k1, k2⟩ := (pre_in E hD).keep a o h n
  obtain ⟨k3, k4⟩ := E2.keep a o k1 k2
  exact ⟨by rw [upd_ne (ne_of_none h hD)]; exact k3, (pre_show.keep a o k3 k4).2⟩
theorem in_not {κ : Addr → Prop} {ρ ρ2 : List Addr} {st st2 : Sto} {H H2 : Hp} {D : Addr} (R : HRel G κ ρ st H) (hD : H D = none) (R2 : HRel G (fun b => κ b ∨ b = D) ρ2 st2 H2) : ¬ Live κ ρ2 st2 D := made_not R hD R2
theorem upd_id {H : Hp} {p : Addr} {u : HO} (h : H p = some u) : upd H p u = H := by
  funext b
  by_cases hb : b = p
  · subst hb; rw [upd_same, h]
  · rw [upd_ne hb]
/-- what was made, seen again; a new place of it -/
theorem made_end {bx : Bool} {κ κ' : Addr → Prop} {ρ0 ρ1 ρ2 : List Addr} {st0 s1 st2 : Sto} {H0 H1 H2 : Hp} {src : Src} {D : Addr} {xs : List CV} {vs : List V} {Q : VK} (E0 : Ext κ ρ0 st0 H0 ρ1 s1 H1) (L : Locked G κ κ' ρ1 s1 H1 src) (hD : H1 D = none)
    (E : Ext κ' ρ1 (src.on s1) H1 ρ2 st2 H2) (R2 : HRel G (fun b => κ' b ∨ b = D) ρ2 st2 H2) (nD : D ∉ ρ2) (hv : H2 D = some (.lst vs)) (r : RepVs G ρ2 (Live (fun b => κ' b ∨ b = D) ρ2 st2) H2 xs vs)
    (h : BP G bx κ ρ0 st0 H0 Q (.lst xs) (src.off st2)) : Q (.ref D) H2 := by
  have eu : upd H2 D (HO.lst vs) = H2 := upd_id hv
  cases bx with
  | false =>
    obtain ⟨b1, b2, b3⟩ := L.back ρ2 st2 H2 E (rel_show R2)
    have rr : RepV G ρ2 (Live κ' ρ2 st2) H2 (.lst xs) (.ref D) := .lst hv (made_not L.rel hD R2) (r.extP pre_show)
    exact h _ ρ2 H2 b1 (E0.trans b2) (rr.extP b3)
  | true =>
    have e := box_pre (o := .lst xs) (u := .lst vs) R2 rfl
    have R3 := box_rel (o := .lst xs) (u := .lst vs) R2 rfl nD (L.rel.noHid hD) ⟨vs, upd_same, r.extP e⟩
    rw [eu] at R3
    have E3 : Ext κ' ρ1 (src.on s1) H1 (ρ2 ++ [D]) (st2 ++ [.lst xs]) H2 := by
      refine ⟨E.pre.trans ⟨[D], rfl⟩, E.hk, fun a o h1 h2 => ?_, E.tr, fun l a h1 => ?_⟩
      · obtain ⟨k1, k2⟩ := (pre_in E hD).keep a o h1 h2
        exact ⟨k1, fun q => k2 ((live_made R2.len rfl a).mp q)⟩
      · by_cases hl : l < ρ2.length
        · rw [List.getElem?_append_left hl] at h1
          exact E.nw l a h1
        · right
          rw [List.getElem?_append_right (by omega)] at h1
          have e := List.mem_of_getElem? h1
          rw [List.mem_singleton.mp e]
          exact hD
    obtain ⟨b1, b2, _⟩ := L.back _ _ H2 E3 R3
    -- the order of the two stores
    have eo : src.off (st2 ++ [CO.lst xs]) = src.off st2 ++ [CO.lst xs] := by
      obtain ⟨items, lock⟩ := src
      cases lock with
      | none => rfl
      | some q =>
        obtain ⟨l, ys⟩ := q
        show (st2 ++ [CO.lst xs]).set l (CO.lst ys) = st2.set l (CO.lst ys) ++ [CO.lst xs]
        have h1 := L.ln l ys rfl
        have h2 := E.pre.length_le
        rw [List.set_append_left _ _ (by rw [← R2.len]; omega)]
    have ls : (src.off st2).length = ρ2.length := by
      obtain ⟨items, lock⟩ := src
      cases lock with
      | none => exact R2.len.symm
      | some q => show (List.set _ _ _).length = _; rw [List.length_set]; exact R2.len.symm
    rw [eo] at b1 b2
    exact h _ (ρ2 ++ [D]) H2 b1 (E0.trans b2) (.loc (by rw [ls]; simp))
/-- the turns of a comprehension -/
def lcBody (g : TG) (tt : TT) (te : TE) (vs : List Nat) (σ : L2.St) (Q : VK) : It → Hp → Prop := fun J H1 => ∀ D, H1 D = none → ∃ W : Nat → Nat → Hp → Prop, (∃ m, W 0 m (upd H1 D (.lst []))) ∧ ∀ i m H, W i m H →
  (J.stop i H ∧ Q (.ref D) H) ∨ (J.go i H ∧ ∃ Nx : Hp → Prop, (∀ H', Nx H' → ∃ m', m' < m ∧ W (i + 1) m' H') ∧ ∀ x H', J.yld i H x H' → g x (wipe σ vs) H' fun σ2 H2 => wipe σ2 vs = wipe σ vs ∧ tt σ2 H2 fun b H3 =>
    if b = true then te σ2 H3 fun y H4 => ∃ acc, H4 D = some (.lst acc) ∧ acc.length < sizeLine ∧ Nx (upd H4 D (.lst (acc ++ [y]))) else Nx H3)
theorem comp_body {bx : Bool} {own : List (Str × Nat)} {t : CT} {c : CP} {ce : CE} (o1 : ∀ j ∈ own.map (·.2), j ∈ t.names) (o2 : ∀ j ∈ t.names, j ∈ own.map (·.2)) {σ : L2.St} {H : Hp} {Q : VK} {κ : Addr → Prop} {ρ0 ρ1 : List Addr} {st0 s1 : Sto} {env : Env} {H1 : Hp} {src : Src} {J : It}
    (S0 : Sit G κ ρ0 st0 env σ H) (R1 : HRel G κ ρ1 s1 H1) (E1 : Ext κ ρ0 st0 H ρ1 s1 H1) (w : WalkS G J src κ ρ1 s1 H1)
    (h : RP ((src.offR (compL (turnF P F t c ce t.names env) src.items (src.on s1))).bind fun ys s2 => if lenOk src.items.length then .ok (.lst ys) s2 else .err) (BP G bx κ ρ0 st0 H Q) (XP G W σ κ ρ0 st0 H)) :
    lcBody (gT P F G t) (tC1 P F G c) (tE P F G (fun _ _ _ _ => False) false ce) (own.map (·.2)) σ Q J H1 := by
  intro D hD
  have S1 := S0.ext R1 E1
  obtain ⟨κ', L, w⟩ := walk_locked R1 w
  -- the whole run of the turns
  obtain ⟨all, sf, hall, h⟩ : ∃ all sf, compL (turnF P F t c ce t.names env) src.items (src.on s1) = .ok all sf ∧ RP (if lenOk src.items.length then R.ok (.lst all) (src.off sf) else .err) (BP G bx κ ρ0 st0 H Q) (XP G W σ κ ρ0 st0 H) := by
    cases hh : compL (turnF P F t c ce t.names env) src.items (src.on s1) with
    | ok all sf => rw [hh] at h; exact ⟨all, sf, rfl, h⟩
    | exc cc v s =>
      exfalso
      have : ∀ (xs : List CV) (s0 : Sto), compL (turnF P F t c ce t.names env) xs s0 ≠ .exc cc v s := fun xs => by
        induction xs with
        | nil => intro s0 q; cases q
        | cons x r ih =>
          intro s0 q
          unfold compL at q
          split at q
          · split at q <;> cases q
          · cases q
      exact this _ _ hh
    | err => rw [hh] at h; exact h.elim
  split at h
  · rename_i hlen
    -- the state within
    let κD : Addr → Prop := fun b => κ' b ∨ b = D
    have RD := rel_hide (u := .lst []) L.rel hD fun _ z => nomatch z
    have ED : Ext κ' ρ1 (src.on s1) H1 ρ1 (src.on s1) (upd H1 D (.lst [])) := ext_new L.rel hD
    refine ⟨fun i m H2 => m = src.items.length - i ∧ i ≤ src.items.length ∧ ∃ ρ2 st2 done acc rest, HRel G κD ρ2 st2 H2 ∧ Ext κ' ρ1 (src.on s1) H1 ρ2 st2 H2 ∧ D ∉ ρ2 ∧ H2 D = some (.lst acc) ∧ RepVs G ρ2 (Live κD ρ2 st2) H2 done acc ∧ done.length ≤ i ∧
      compL (turnF P F t c ce t.names env) (src.items.drop i) st2 = .ok rest sf ∧ all = done ++ rest,
      ⟨src.items.length, by simp, Nat.zero_le _, ρ1, src.on s1, [], [], all, RD, ED, L.rel.notIn hD, upd_same, .nil, Nat.le_refl _, hall, rfl⟩, ?_⟩
    rintro i m H2 ⟨rfl, hi', ρ2, st2, done, acc, rest, R2, E2, nD, hDa, ra, hdl, hrest, eall⟩
    have lat : Lat κ' ρ1 (src.on s1) H1 κD ρ2 st2 H2 := ⟨pre_in E2 hD, fun b hb => ⟨.inl hb, E2.hk b hb⟩⟩
    have SD : Sit G κD ρ2 st2 env σ H2 := ⟨R2, S1.len, fun i v hv => by
      obtain ⟨x, h1, h2⟩ := S1.sl i v hv
      exact ⟨x, h1, (h2.extP L.pre).extP (pre_in E2 hD)⟩⟩
    obtain ⟨stp, wi⟩ := w i κD ρ2 st2 H2 R2 lat
    by_cases hlt : i < src.items.length
    · right
      -- a turn
      obtain ⟨go, wy⟩ := wi src.items[i] (List.getElem?_eq_getElem hlt)
      rw [List.drop_eq_getElem_cons hlt] at hrest
      obtain ⟨o, st3, ys, hturn, hrest2, rfl⟩ := compL_cons hrest
      refine ⟨go, fun H' => ∃ ρ2 st2 done acc rest, HRel G κD ρ2 st2 H' ∧ Ext κ' ρ1 (src.on s1) H1 ρ2 st2 H' ∧ D ∉ ρ2 ∧ H' D = some (.lst acc) ∧ RepVs G ρ2 (Live κD ρ2 st2) H' done acc ∧ done.length ≤ i + 1 ∧
        compL (turnF P F t c ce t.names env) (src.items.drop (i + 1)) st2 = .ok rest sf ∧ all = done ++ rest, fun H' q => ⟨src.items.length - (i + 1), by omega, rfl, hlt, q⟩, fun xv H3 hy => ?_⟩
      obtain ⟨R3, E3, rx⟩ := wy xv H3 hy
      have S3 : Sit G κD ρ2 st2 (wipeV env t.names) (wipe σ (own.map (·.2))) H3 := (SD.ext R3 E3).wipe o1
      have nin : ∀ {ρ7 st7 H7}, Ext κD ρ2 st2 H2 ρ7 st7 H7 → D ∉ ρ7 := fun {ρ7 st7 H7} E7 m => by
        obtain ⟨l, hl⟩ := List.getElem?_of_mem m
        rcases E7.nw l D hl with z | z
        · exact nD (List.mem_of_getElem? z)
        · rw [hDa] at z; cases z
      -- the target
      unfold turnF at hturn
      cases hT : evT P F t src.items[i] (wipeV env t.names) st2 with
      | nx env4 st4 =>
        rw [hT] at hturn
        dsimp only at hturn
        refine ⟨κD, ρ2, st2, wipeV env t.names, src.items[i], S3, rx, ?_⟩
        rw [hT]
        intro ρ4 σ4 H4 S4 E4 hj hl
        refine ⟨wipe_same o2 hj hl, ?_⟩
        cases hC : evC P F c env4 st4 with
        | ok bc st5 =>
          rw [hC, R.bind_ok] at hturn
          refine ⟨κD, ρ4, st4, env4, S4, bc, st5, hC, fun ρ5 H5 R5 E5 => ?_⟩
          have E35 := (E3.trans E4).trans E5
          have hD5 : H5 D = some (.lst acc) := by rw [E5.hk D (.inr rfl), E4.hk D (.inr rfl), E3.hk D (.inr rfl)]; exact hDa
          cases bc with
          | false =>
            rw [if_neg (by decide)] at hturn
            dsimp only
            rw [if_neg (by decide)]
            cases hturn
            exact ⟨ρ5, _, done, acc, ys, R5, by
              have := ext_in (u := .lst acc) L.rel E2 hD E35
              rw [upd_id hD5] at this
              exact this, nin E35, hD5, ((ra.ext E3).ext E4).ext E5, by omega, hrest2, eall⟩
          | true =>
            rw [if_pos rfl] at hturn
            dsimp only
            rw [if_pos rfl]
            have S5 := S4.ext R5 E5
            cases hE : evE P F ce env4 st5 with
            | ok y st6 =>
              rw [hE, R.bind_ok] at hturn
              cases hturn
              refine tE_ok S5 hE fun yv ρ6 H6 S6 E6 ry => ?_
              have hD6 : H6 D = some (.lst acc) := by rw [E6.hk D (.inr rfl)]; exact hD5
              have hal : acc.length < sizeLine := by
                have l1 := ra.length
                have l2 := lenOk_lt hlen
                omega
              refine ⟨acc, hD6, hal, ρ6, _, done ++ [y], acc ++ [yv], ys, rel_made S6.rel (.inr rfl) (fun _ z => nomatch z), ext_in L.rel E2 hD (E35.trans E6), nin (E35.trans E6), upd_same, ?_, by rw [List.length_append, List.length_singleton]; omega, hrest2, by rw [List.append_assoc]; exact eall⟩
              exact ((((ra.ext E3).ext E4).ext E5).ext E6).extP (pre_made S6.rel (.inr rfl)) |>.append (.cons (ry.extP (pre_made S6.rel (.inr rfl))) .nil)
            | exc cc v s => rw [hE] at hturn; cases hturn
            | err => rw [hE] at hturn; cases hturn
        | exc cc v s => rw [hC] at hturn; cases hturn
        | err => rw [hC] at hturn; cases hturn
      | ret v s => rw [hT] at hturn; cases hturn
      | exc cc v e s => rw [hT] at hturn; cases hturn
      | err => rw [hT] at hturn; cases hturn
    · left
      have e : i = src.items.length := by omega
      subst e
      rw [List.drop_length] at hrest
      cases hrest
      refine ⟨stp rfl, ?_⟩
      rw [List.append_nil] at eall
      subst eall
      exact made_end E1 L hD E2 R2 nD hDa ra h
  · exact h.elim
theorem comp_key {bx : Bool} {own : List (Str × Nat)} {t : CT} {ci : CI} {c : CP} {ce : CE} (o1 : ∀ j ∈ own.map (·.2), j ∈ t.names) (o2 : ∀ j ∈ t.names, j ∈ own.map (·.2)) {σ : L2.St} {H : Hp} {Q : VK} (h : tE P F G W bx (.comp ce t ci c) σ H Q) :
    tLc (tI P F G W ci) (gT P F G t) (tC1 P F G c) (tE P F G (fun _ _ _ _ => False) false ce) (own.map (·.2)) σ H Q := by
  obtain ⟨κ, ρ0, st0, env, S0, h⟩ := h
  have h : RP ((evI P F ci env st0).bind fun src s1 => (src.offR (compL (turnF P F t c ce t.names env) src.items (src.on s1))).bind fun ys s2 => if lenOk src.items.length then .ok (.lst ys) s2 else .err) (BP G bx κ ρ0 st0 H Q) (XP G W σ κ ρ0 st0 H) := h
  exact ⟨κ, ρ0, st0, env, S0, (stepR h).imp (fun src s1 h J ρ1 H1 R1 E1 w => comp_body o1 o2 S0 R1 E1 w h) fun _ _ _ h => h⟩
theorem se_comp {scope : Scope} {own : List (Str × Nat)} {t : CT} {ci : CI} {c : CP} {ifs : List Expr} {el : Expr} {ce : CE} (hi : SI CX P F G k S tg it ci) (ht : ST CX P F G k ⟨S.N, scope, false⟩ tg t) (hc : SC CX P F G k ⟨S.N, scope, false⟩ ifs c) (he : SE CX P F G k ⟨S.N, scope, false⟩ el ce)
    (ok : okBlk S scope own t.names = true) (hs : noSet it = true) : SE CX P F G k S (.ListComp el [⟨tg, it, ifs, 0⟩] scope pos) (.comp ce t ci c) := .val (fun _ _ => rfl) fun X W g bx hb' => by
  obtain ⟨ob, o1, o2⟩ := okBlk_ok ok
  rw [← g.N] at ob
  exact (pe_lc g.calm g.nd (hi X W g) (BlkOk.sc ob g.sc) (fun s H C cl fp => ht _ _ (g.blk scope s H C cl fp)) (fun s H C cl fp => hc _ _ (g.blk scope s H C cl fp)) (fun s H C cl fp => (he.pe (g.blk scope s H C cl fp))) (fold_plain hs)).imp fun σ H Q h => comp_key o1 o2 h
end
end MP
end MPt_text

section MPta_text
set_option Elab.async false
set_option linter.all false
set_option maxRecDepth 100000
/-! Dict comprehensions whose keys are tuples of ints. -/
namespace MP
open PySem PySem.Spec PyProof.Rows L2
/-- the dict that a comprehension makes is written -/
theorem dset_t {X : Cx} {pn : List (Addr × Obj)} {τ : L2.St} {J : Hp} {z : Shared} {E : Value → Shared → Prop} {D b : Addr} {ws : List (List Key × V)} {ky : List Key} {v : V} {u r : Value} {Q : Unit → Shared → Prop} (hu : X.A.units + 1 < cLine) (I : Inv X pn τ J z)
    (hD : J D = some (.dT ws)) (hb : J b = some (.tup (ky.map kV))) (hz : ws.length < sizeLine) (ru : RelV (.ref b) u) (rv : RelV v r) (h : ∀ z', Inv X pn τ (upd J D (.dT (putK ws ky v))) z' → Q () z') : wpAny (model X.prog X.w) X.A (dictSet D u r) Q E z := by
  obtain rfl : u = Value.ref b := ru
  obtain ⟨l0, nm, ents, rel, own⟩ := dt_of I.hok hD
  have l1 : ents.length ≤ sizeLine := Nat.le_trans (Nat.le_of_eq (Paired.length rel).symm) l0
  have l2 := length_putK ws ky v
  have room : (tupleKind (mixKind X.prog X.w)).room X.A := Nat.lt_of_le_of_lt (by exact Nat.le_succ _) hu
  refine wpAny_dictSet_heap room (key_of I.hok hb) own (fun J' own' same => h _ ?_) l1
  obtain ⟨q, es, ep, hq, c1, c2, c3, _, c4⟩ := own'
  have kept : KT (upd J D (.dT (putK ws ky v))) (putK ws ky v) (storedH ents ky b r) := (rel.put ky hb rv).keeps fun c ys hc => (upd_ne (ne_of hc hD fun z => nomatch z)).trans hc
  exact d_write I (by rw [hD]; trivial) same ⟨q, hq⟩ ⟨by omega, nm, _, kept, q, es, ep, hq, c1, c2, c3, c4⟩
section
variable {X : Cx}
/-- {(..): v for tg in it}: D the new dict -/
def tDx (wi : TI) (g : TG) (tk tv : TE) (ns : List Nat) : TE := fun τ H Q => wi τ H fun J H1 => ∀ D, H1 D = none → ∃ W : Nat → Nat → Hp → Prop, (∃ m, W 0 m (upd H1 D (.dT []))) ∧ ∀ i m H, W i m H →
  (J.stop i H ∧ Q (.ref D) H) ∨ (J.go i H ∧ ∃ Nx : Hp → Prop, (∀ H', Nx H' → ∃ m', m' < m ∧ W (i + 1) m' H') ∧ ∀ x H', J.yld i H x H' → g x (wipe τ ns) H' fun τ2 H2 => wipe τ2 ns = wipe τ ns ∧
    tk τ2 H2 fun y H4 => tv τ2 H4 fun z H5 => ∃ ws ky b, y = .ref b ∧ H5 D = some (.dT ws) ∧ H5 b = some (.tup (ky.map kV)) ∧ ws.length < sizeLine ∧ Nx (upd H5 D (.dT (putK ws ky z))))
/-- the environment of a comprehension's block -/
abbrev bEnv (X : Cx) (scope : Scope) (z : Shared) : PySem.Env := compEnvC scope (cellsFrom (z.heap.objs.size + 1) scope.names (cloFrom X.env.cells scope.names [])) z.heap.objs.size X.env
theorem dx_core {pn : List (Addr × Obj)} {z : Shared} {τ : L2.St} {H : Hp} {Q : VK} {kx vx tg iter : Expr} {scope : Scope} {own : List (Str × Nat)} {pos pos' : Pos} {wi : TI} {g : TG} {tk tv : TE} {Qf : Value → Shared → Prop}
    (calm : X.calm = true) (nd : X.N.Nodup) (hu : X.A.units + 1 < cLine) (I : Inv X pn τ H z) (hi : PI X tg iter wi) (ok : BlkOk X.N X.env.scope scope own)
    (hg : ∀ (a : Shared) (H : Hp) (C : Addr) (cl : List (Str × Addr)) (fp : List Addr), PG (X.blk a H scope (compEnvC scope cl C X.env) fp) tg g)
    (hk : ∀ (a : Shared) (H : Hp) (C : Addr) (cl : List (Str × Addr)) (fp : List Addr), PE (X.blk a H scope (compEnvC scope cl C X.env) fp) kx tk)
    (hv : ∀ (a : Shared) (H : Hp) (C : Addr) (cl : List (Str × Addr)) (fp : List Addr), PE (X.blk a H scope (compEnvC scope cl C X.env) fp) vx tv) (fold : ∀ x, foldedSetIterable iter X.env x = pure x)
    (h : tDx wi g tk tv (own.map (·.2)) τ H Q)
    (back : ∀ D C z' m H', Inv X pn τ H' z' → Q (.ref D) H' → z'.heap.Ns C m → FpOk X pn H' C → compPost (model X.prog X.w) X.A X.xe none Qf (.ref D) C (.ok .next) z') :
    wpAny (model X.prog X.w) X.A (comprehension (.DictComp kx vx [⟨tg, iter, [], 0⟩] scope pos) scope X.env pos' newDict false (eval iter X.env) none) Qf X.xe z := by
  have cells : ∀ y ∈ scope.names, y.2 = .free → ∃ c, X.env.cells.lookup y.1 = some c := fun y hy e => I.ok.has _ (ok.free y hy e)
  refine wpAny_comprehension_free (use := none) rfl fold (closure_ok cells) ok.kind (fun y hy e => (ok.uniq y hy).trans (congrArg some e)) ?_
  refine thn (hi.run pn z τ H _ I h) fun xv z1 hx => thn hx fun itv z2 h2 => ?_
  obtain ⟨it, fp, tn, J, H2, rfl, I2, T, t2, f2, q⟩ := h2
  refine wpAny_newObj_type (newEnv_comp ?_)
  obtain ⟨D, hD⟩ : ∃ D, D = z2.heap.objs.size := ⟨_, rfl⟩
  have fresh : H2 D = none := I2.hok.fresh (Nat.le_of_eq hD.symm)
  obtain ⟨W, ⟨m0, w0⟩, turn⟩ := q D fresh
  rw [← hD]
  -- the new dict
  obtain ⟨z3, hz3⟩ : ∃ z3 : Shared, z3 = { z2 with heap := z2.heap.push { cls := .type "dict", data := .dict #[] } } := ⟨_, rfl⟩
  have I3 : Inv X pn τ (upd H2 D (.dT [])) z3 := by
    subst hz3
    refine I2.laid (t' := z2.toks) (fun b o e => Heap.get?_push_of_some _ e) (Nat.le_of_eq hD.symm) ?_
    subst hD
    exact dt_empty z2.heap I2.big
  have p3 : z3.heap = z2.heap.push { cls := .type "dict", data := .dict #[] } := congrArg Shared.heap hz3
  have lo : ∀ b ∈ fp, b < z2.heap.objs.size := fun b hb => let ⟨_, e, _⟩ := T.obj _ _ t2 b hb; Heap.lt_size e
  have f3 : ∀ b ∈ fp, FpOk X pn (upd H2 D (.dT [])) b ∧ b < z3.heap.objs.size := fun b hb => by
    have l := lo b hb
    have n : b ≠ D := by rw [hD]; exact Nat.ne_of_lt l
    exact ⟨⟨(upd_ne n).trans (f2 b hb).1, (f2 b hb).2⟩, by rw [p3, Heap.size_push]; exact Nat.lt_succ_of_lt l⟩
  have t3 : tn 0 z3.heap := T.keep _ _ _ t2 fun b _ o e => by rw [p3]; exact Heap.get?_push_of_some _ e
  have I4 := block_start I3 ok nd f3
  obtain ⟨H3, hH3⟩ : ∃ H3, H3 = upd H2 D (.dT []) := ⟨_, rfl⟩
  rw [← hH3] at I3 I4 f3 w0
  have pg := hg z3 H3 z3.heap.objs.size (cellsFrom (z3.heap.objs.size + 1) scope.names (cloFrom X.env.cells scope.names [])) fp
  have pk := hk z3 H3 z3.heap.objs.size (cellsFrom (z3.heap.objs.size + 1) scope.names (cloFrom X.env.cells scope.names [])) fp
  have pv := hv z3 H3 z3.heap.objs.size (cellsFrom (z3.heap.objs.size + 1) scope.names (cloFrom X.env.cells scope.names [])) fp
  rw [← hz3]
  show codeAny _ _ (.compStart (.DictComp kx vx [⟨tg, iter, [], 0⟩] scope pos) 0 (.ref it) (.ref D) (bEnv X scope z3)) (compPost (model X.prog X.w) X.A X.xe none Qf (.ref D) z3.heap.objs.size) { z3 with heap := pushCells (z3.heap.push { cls := .type "dict", data := .dict #[] }) scope.names }
  obtain ⟨ce, hce⟩ : ∃ ce, ce = bEnv X scope z3 := ⟨_, rfl⟩
  have cl : ce.locals = z3.heap.objs.size := by rw [hce]; rfl
  rw [← hce]
  rw [show compEnvC scope (cellsFrom (z3.heap.objs.size + 1) scope.names (cloFrom X.env.cells scope.names [])) z3.heap.objs.size X.env = ce from hce.symm] at I4 pg pk pv
  obtain ⟨Y, hY⟩ : ∃ Y, Y = X.blk z3 H3 scope ce fp := ⟨_, rfl⟩
  rw [← hY] at I4 pg pk pv
  have yP : Y.prog = X.prog ∧ Y.w = X.w ∧ Y.A = X.A ∧ Y.K = X.K := by subst hY; exact ⟨rfl, rfl, rfl, rfl⟩
  obtain ⟨z4, hz4⟩ : ∃ z4 : Shared, z4 = { z3 with heap := pushCells (z3.heap.push { cls := .type "dict", data := .dict #[] }) scope.names } := ⟨_, rfl⟩
  rw [← hz4] at I4 ⊢
  have t4 : tn 0 z4.heap := T.keep _ _ _ t3 fun b _ o e => by rw [hz4]; exact pushCells_keeps _ _ _ _ (Heap.get?_push_of_some _ e)
  have n3 : ∀ b ∈ fp, H3 b = none := fun b hb => (f3 b hb).1.1
  have stat : ∀ {σ' : L2.St} {H' : Hp} {z' : Shared}, Inv Y [] σ' H' z' → (∀ b ∈ fp, H' b = none) → ∀ b ∈ fp, FpOk Y [] H' b := fun {σ' H' z'} I' hn b hb => by
    subst hY
    refine ⟨hn b hb, (I'.ok.exf b hb).1, I'.ok.exfs b hb, .inl hb, fun x c e => (I'.ok.exf b hb).2 x c e, fun p hp => ?_⟩
    cases (show p ∈ ([] : List (Addr × Obj)) from hp)
  have loop : codeAny (model X.prog X.w) X.A (.compLoop (.DictComp kx vx [⟨tg, iter, [], 0⟩] scope pos) 0 (.ref it) (.ref D) ce) (compPost (model X.prog X.w) X.A X.xe none Qf (.ref D) z3.heap.objs.size) z4 := by
    refine compLoop_anyD (fun n z' => ∃ i H', Inv Y [] (wipe τ (own.map (·.2))) H' z' ∧ tn i z'.heap ∧ (∀ b ∈ fp, H' b = none) ∧ W i n H') ?_ m0 ⟨0, H3, I4, t4, n3, w0⟩
    rintro n z5 ⟨i, H5, I5, t5, n5, w5⟩
    subst hY
    rcases turn i n H5 w5 with ⟨stop, qq⟩ | ⟨go, Nx, hNx, step⟩
    · have td := T.done (X.blk z3 H3 scope ce fp) rfl rfl rfl calm i [] z5 _ H5 (fun _ _ => False) I5 (stat I5 n5) t5 stop
      refine thnF td fun r z6 ⟨hr, I6⟩ => ?_
      subst hr
      have I7 : Inv X pn τ H5 z6 := I3.call' (ch := fp) I6.os I6.base I6.hok I6.bare fun b hb => let f := (f3 b hb).1; ⟨f.2.2.2.1, f.2.1, f.2.2.2.2.1, f.2.2.2.2.2⟩
      have nC : H5 z3.heap.objs.size = none := cl ▸ (show H5 ce.locals = none from I6.free)
      obtain ⟨m, hn, _⟩ := I6.loc
      exact back D z3.heap.objs.size z6 m H5 I7 qq (cl ▸ (show z6.heap.Ns ce.locals m from hn)) (I3.fpOk (Nat.le_refl _) nC)
    · have ti := T.item (X.blk z3 H3 scope ce fp) rfl rfl rfl calm i [] z5 _ H5 (fun _ _ => False) I5 (stat I5 n5) t5 go
      refine thnF ti fun r z6 ⟨u, hr, h6⟩ => ?_
      subst hr
      refine thnF h6 fun _ z7 ⟨x, H7, I7, r7, y7, t7, n7⟩ => ?_
      have J7 := I7.pinned (stat I7 n7) (T.obj _ _ t7)
      refine thnF (pg.run _ z7 _ H7 x u _ J7 r7 (step x H7 y7)) fun _ z8 ⟨τ8, H8, I8, w8, q8⟩ => ?_
      refine thnF ((pts_nil (X := X.blk z3 H3 scope ce fp)).run _ z8 τ8 H8 (fun b Hb => b = true ∧ Hb = H8) I8 ⟨rfl, rfl⟩) fun b z9 ⟨H9, I9, hb, e9⟩ => ?_
      subst hb e9
      rw [if_pos rfl]
      refine thnF (pk.run _ z9 τ8 _ _ I9 q8) fun y z10 ⟨yk, H10, I10, r10, q10⟩ => ?_
      refine thnF (pv.run _ z10 τ8 H10 _ I10 q10) fun y2 z11 ⟨yv, H11, I11, r11, ws, ky, b, ek, hD11, hb11, hz11, nx⟩ => ?_
      subst ek
      refine dset_t (X := X.blk z3 H3 scope ce fp) hu I11 hD11 hb11 hz11 r10 r11 fun z12 I12 => ?_
      obtain ⟨m', hm, w'⟩ := hNx _ nx
      have pin : ∀ b ∈ fp, ∀ o, z7.heap.get? b = some o → z12.heap.get? b = some o ∧ upd H11 D (.dT (putK ws ky yv)) b = none := fun b hb o e =>
        let k := I12.pin (b, o) (List.mem_append_right _ (List.mem_append_right _ (mem_pinsAt hb e)))
        ⟨k.1, k.2.1⟩
      have ll : (wipe τ (own.map (·.2))).length = τ8.length := by rw [← w8, wipe_length]
      refine ⟨m', hm, i + 1, _, (I12.unpinned (pins := [])).weak ll fun j v e => ?_, T.keep _ _ _ t7 fun b hb o e => (pin b hb o e).1, fun b hb => ?_, w'⟩
      · rw [← w8] at e; exact (wipe_some e).1
      · let ⟨o, e, _⟩ := T.obj _ _ t7 b hb
        exact (pin b hb o e).2
  exact codeAny_compStart_dict loop (T.self X.A 0 _ _ _ t4 loop)
theorem pe_dx {kx vx tg iter : Expr} {scope : Scope} {own : List (Str × Nat)} {pos : Pos} {wi : TI} {g : TG} {tk tv : TE} (calm : X.calm = true) (nd : X.N.Nodup) (hu : X.A.units + 1 < cLine) (hi : PI X tg iter wi) (ok : BlkOk X.N X.env.scope scope own)
    (hg : ∀ (a : Shared) (H : Hp) (C : Addr) (cl : List (Str × Addr)) (fp : List Addr), PG (X.blk a H scope (compEnvC scope cl C X.env) fp) tg g)
    (hk : ∀ (a : Shared) (H : Hp) (C : Addr) (cl : List (Str × Addr)) (fp : List Addr), PE (X.blk a H scope (compEnvC scope cl C X.env) fp) kx tk)
    (hv : ∀ (a : Shared) (H : Hp) (C : Addr) (cl : List (Str × Addr)) (fp : List Addr), PE (X.blk a H scope (compEnvC scope cl C X.env) fp) vx tv) (fold : ∀ x, foldedSetIterable iter X.env x = pure x) :
    PE X (.DictComp kx vx [⟨tg, iter, [], 0⟩] scope pos) (tDx wi g tk tv (own.map (·.2))) := ⟨fun pn z τ H Q I h => by
  rw [arm_eval_DictComp]
  refine dx_core calm nd hu I hi ok hg hk hv fold h fun D C z' m H' I' q hn f => ⟨m, hn, fun h'' sb => ?_⟩
  obtain ⟨f0, f1, f2, f3, f4, f5⟩ := f
  exact ⟨.ref D, H', I'.turned (t' := z'.toks) (fun b o hb e => (sb.2 b hb).trans e) f0 f1 f3 f4 f5, rfl, q⟩⟩
end
end MP
end MPta_text

section MPtb_text
set_option Elab.async false
set_option linter.all false
set_option maxRecDepth 100000
/-! Dict comprehensions whose keys are tuples: served. -/
namespace MP
open PySem PySem.Spec PyProof.Rows L2
section
variable {CX : CXT} {P : Prog} {F : Fns} {G : Wd} {k : Nat} {S : Cst} {W : WX} {X : Cx} {a b tg it : Expr} {ca cb : CE} {pos : Pos}
/-- a turn -/
noncomputable def turnD (P : Prog) (F : Fns) (t : CT) (ck cv : CE) (ns : List Nat) (env : Env) : CV → Sto → R (Option CV) := fun x s => match evT P F t x (wipeV env ns) s with
  | .nx env2 s2 => (evE P F ck env2 s2).bind fun a s3 => (evE P F cv env2 s3).bind fun b s4 => .ok (some (.tup [a, b])) s4
  | _ => .err
theorem made_endT {bx : Bool} {κ κ' : Addr → Prop} {ρ0 ρ1 ρ2 : List Addr} {st0 s1 st2 : Sto} {H0 H1 H2 : Hp} {src : Src} {D : Addr} {xs : List (CV × CV)} {vs : List (List Key × V)} {Q : VK} (E0 : Ext κ ρ0 st0 H0 ρ1 s1 H1) (L : Locked G κ κ' ρ1 s1 H1 src) (hD : H1 D = none)
    (E : Ext κ' ρ1 (src.on s1) H1 ρ2 st2 H2) (R2 : HRel G (fun b => κ' b ∨ b = D) ρ2 st2 H2) (nD : D ∉ ρ2) (hv : H2 D = some (.dT vs)) (r : RepTs G ρ2 (Live (fun b => κ' b ∨ b = D) ρ2 st2) H2 xs vs)
    (h : BP G bx κ ρ0 st0 H0 Q (.dic true xs) (src.off st2)) : Q (.ref D) H2 := by
  have same : upd H2 D (HO.dT vs) = H2 := upd_id hv
  cases bx with
  | false =>
    obtain ⟨b1, b2, b3⟩ := L.back ρ2 st2 H2 E (rel_show R2)
    have rr : RepV G ρ2 (Live κ' ρ2 st2) H2 (.dic true xs) (.ref D) := .dicT hv (made_not L.rel hD R2) (r.extP pre_show)
    exact h _ ρ2 H2 b1 (E0.trans b2) (rr.extP b3)
  | true =>
    have e := box_pre (o := .dic true xs) (u := .dT vs) R2 rfl
    have R3 := box_rel (o := .dic true xs) (u := .dT vs) R2 rfl nD (L.rel.noHid hD) ⟨vs, upd_same, r.extP e⟩
    rw [same] at R3
    have E3 : Ext κ' ρ1 (src.on s1) H1 (ρ2 ++ [D]) (st2 ++ [.dic true xs]) H2 := by
      refine ⟨E.pre.trans ⟨[D], rfl⟩, E.hk, fun c o h1 h2 => ?_, E.tr, fun l c h1 => ?_⟩
      · obtain ⟨k1, k2⟩ := (pre_in E hD).keep c o h1 h2
        exact ⟨k1, fun q => k2 ((live_made R2.len rfl c).mp q)⟩
      · rcases Nat.lt_or_ge l ρ2.length with hl | hl
        · rw [List.getElem?_append_left hl] at h1
          exact E.nw l c h1
        · rw [List.getElem?_append_right hl] at h1
          exact .inr (by rw [List.mem_singleton.mp (List.mem_of_getElem? h1)]; exact hD)
    obtain ⟨b1, b2, _⟩ := L.back _ _ H2 E3 R3
    have ls : (src.off st2).length = ρ2.length := by
      obtain ⟨items, lock⟩ := src
      cases lock with
      | none => exact R2.len.symm
      | some q => exact (List.length_set).trans R2.len.symm
    have eo : src.off (st2 ++ [CO.dic true xs]) = src.off st2 ++ [CO.dic true xs] := by
      obtain ⟨items, lock⟩ := src
      cases lock with
      | none => rfl
      | some q =>
        have h1 := L.ln q.1 q.2 rfl
        have h2 := E.pre.length_le
        have h3 : q.1 < st2.length := by rw [← R2.len]; omega
        exact List.set_append_left _ _ h3
    rw [eo] at b1 b2
    exact h _ (ρ2 ++ [D]) H2 b1 (E0.trans b2) (.loc (by rw [ls]; simp))
/-- pairs, one behind the other -/
theorem dictOf_snoc {tk : Bool} {x y : CV} : ∀ {r acc out : List (CV × CV)} {q : List CV} {ps : List (CV × CV)}, pairsOf (.tup [x, y] :: q) = some ps → dictOf tk acc ps = some out → okKey tk x = true ∧ ∃ ps', pairsOf q = some ps' ∧ dictOf tk (dput acc x y) ps' = some out := by
  intro r acc out q ps h1 h2
  obtain ⟨ps', h3, rfl⟩ := Option.map_eq_some_iff.mp (show (pairsOf q).map ((x, y) :: ·) = some ps from h1)
  have h2 : (if okKey tk x then dictOf tk (dput acc x y) ps' else none) = some out := h2
  split at h2
  · rename_i ok
    exact ⟨ok, ps', h3, h2⟩
  · cases h2
theorem putK_len {A : Type} [DecidableEq A] (ws : List (A × V)) (ky : A) (v : V) : (putK ws ky v).length ≤ ws.length + 1 := length_putK ws ky v
end
end MP
end MPtb_text

section MPtc_text
set_option Elab.async false
set_option linter.all false
set_option maxRecDepth 100000
namespace MP
open PySem PySem.Spec PyProof.Rows L2
section
variable {CX : CXT} {P : Prog} {F : Fns} {G : Wd} {k : Nat} {S : Cst} {W : WX} {X : Cx} {a b tg it : Expr} {ca cb : CE} {pos : Pos}
theorem dcomp_key {bx : Bool} {own : List (Str × Nat)} {t : CT} {ci : CI} {ck cv : CE} (o1 : ∀ j ∈ own.map (·.2), j ∈ t.names) (o2 : ∀ j ∈ t.names, j ∈ own.map (·.2)) {σ : L2.St} {H : Hp} {Q : VK} (h : tE P F G W bx (.dcomp true ck cv t ci) σ H Q) :
    tDx (tI P F G W ci) (gT P F G t) (tE P F G (fun _ _ _ _ => False) false ck) (tE P F G (fun _ _ _ _ => False) false cv) (own.map (·.2)) σ H Q := by
  obtain ⟨κ, ρ0, st0, env, S0, h⟩ := h
  have h : RP ((evI P F ci env st0).bind fun src s1 => (src.offR (compL (turnD P F t ck cv t.names env) src.items (src.on s1))).bind fun ys s2 => if lenOk src.items.length then ofO (((pairsOf ys).bind (dictOf true [])).map (.dic true)) s2 else .err) (BP G bx κ ρ0 st0 H Q) (XP G W σ κ ρ0 st0 H) := h
  refine ⟨κ, ρ0, st0, env, S0, (stepR h).imp (fun src s1 h J ρ1 H1 R1 E1 w D hD => ?_) fun _ _ _ h => h⟩
  have S1 := S0.ext R1 E1
  obtain ⟨κ', L, w⟩ := walk_locked R1 w
  obtain ⟨all, sf, hall, h⟩ : ∃ all sf, compL (turnD P F t ck cv t.names env) src.items (src.on s1) = .ok all sf ∧ RP (if lenOk src.items.length then ofO (((pairsOf all).bind (dictOf true [])).map (.dic true)) (src.off sf) else .err) (BP G bx κ ρ0 st0 H Q) (XP G W σ κ ρ0 st0 H) := by
    cases hh : compL (turnD P F t ck cv t.names env) src.items (src.on s1) with
    | ok all sf => rw [hh] at h; exact ⟨all, sf, rfl, h⟩
    | exc cc v s =>
      exfalso
      have : ∀ (xs : List CV) (s0 : Sto), compL (turnD P F t ck cv t.names env) xs s0 ≠ .exc cc v s := fun xs => by
        induction xs with
        | nil => intro s0 q; cases q
        | cons x r ih =>
          intro s0 q
          unfold compL at q
          split at q
          · split at q <;> cases q
          · cases q
      exact this _ _ hh
    | err => rw [hh] at h; exact h.elim
  split at h
  · rename_i hlen
    obtain ⟨zz, hz, h⟩ := RP.ofO h
    obtain ⟨out, ho, rfl⟩ := Option.map_eq_some_iff.mp hz
    obtain ⟨ps, hps, ho⟩ := Option.bind_eq_some_iff.mp ho
    let κD : Addr → Prop := fun b => κ' b ∨ b = D
    have RD := rel_hide (u := .dT []) L.rel hD fun _ z => nomatch z
    have ED : Ext κ' ρ1 (src.on s1) H1 ρ1 (src.on s1) (upd H1 D (.dT [])) := ext_new L.rel hD
    refine ⟨fun i m H2 => m = src.items.length - i ∧ i ≤ src.items.length ∧ ∃ ρ2 st2 acc ws rest ps, HRel G κD ρ2 st2 H2 ∧ Ext κ' ρ1 (src.on s1) H1 ρ2 st2 H2 ∧ D ∉ ρ2 ∧ H2 D = some (.dT ws) ∧ RepTs G ρ2 (Live κD ρ2 st2) H2 acc ws ∧ ws.length ≤ i ∧
      compL (turnD P F t ck cv t.names env) (src.items.drop i) st2 = .ok rest sf ∧ pairsOf rest = some ps ∧ dictOf true acc ps = some out,
      ⟨src.items.length, by simp, Nat.zero_le _, ρ1, src.on s1, [], [], all, ps, RD, ED, L.rel.notIn hD, upd_same, .nil, Nat.le_refl _, hall, hps, ho⟩, ?_⟩
    rintro i m H2 ⟨rfl, hi', ρ2, st2, acc, ws, rest, ps, R2, E2, nD, hDa, ra, hwl, hrest, hps, ho⟩
    have lat : Lat κ' ρ1 (src.on s1) H1 κD ρ2 st2 H2 := ⟨pre_in E2 hD, fun b hb => ⟨.inl hb, E2.hk b hb⟩⟩
    have SD : Sit G κD ρ2 st2 env σ H2 := ⟨R2, S1.len, fun i v hv => by
      obtain ⟨x, h1, h2⟩ := S1.sl i v hv
      exact ⟨x, h1, (h2.extP L.pre).extP (pre_in E2 hD)⟩⟩
    obtain ⟨stp, wi⟩ := w i κD ρ2 st2 H2 R2 lat
    by_cases hlt : i < src.items.length
    · right
      obtain ⟨go, wy⟩ := wi src.items[i] (List.getElem?_eq_getElem hlt)
      rw [List.drop_eq_getElem_cons hlt] at hrest
      obtain ⟨o, st3, ys, hturn, hrest2, rfl⟩ := compL_cons hrest
      refine ⟨go, fun H' => ∃ ρ2 st2 acc ws rest ps, HRel G κD ρ2 st2 H' ∧ Ext κ' ρ1 (src.on s1) H1 ρ2 st2 H' ∧ D ∉ ρ2 ∧ H' D = some (.dT ws) ∧ RepTs G ρ2 (Live κD ρ2 st2) H' acc ws ∧ ws.length ≤ i + 1 ∧
        compL (turnD P F t ck cv t.names env) (src.items.drop (i + 1)) st2 = .ok rest sf ∧ pairsOf rest = some ps ∧ dictOf true acc ps = some out, fun H' q => ⟨src.items.length - (i + 1), by omega, rfl, hlt, q⟩, fun xv H3 hy => ?_⟩
      obtain ⟨R3, E3, rx⟩ := wy xv H3 hy
      have S3 : Sit G κD ρ2 st2 (wipeV env t.names) (wipe σ (own.map (·.2))) H3 := (SD.ext R3 E3).wipe o1
      have nin : ∀ {ρ7 st7 H7}, Ext κD ρ2 st2 H2 ρ7 st7 H7 → D ∉ ρ7 := fun {ρ7 st7 H7} E7 m => by
        obtain ⟨l, hl⟩ := List.getElem?_of_mem m
        rcases E7.nw l D hl with z | z
        · exact nD (List.mem_of_getElem? z)
        · rw [hDa] at z; cases z
      unfold turnD at hturn
      cases hT : evT P F t src.items[i] (wipeV env t.names) st2 with
      | nx env4 st4 =>
        rw [hT] at hturn
        dsimp only at hturn
        refine ⟨κD, ρ2, st2, wipeV env t.names, src.items[i], S3, rx, ?_⟩
        rw [hT]
        intro ρ4 σ4 H4 S4 E4 hj hl
        refine ⟨wipe_same o2 hj hl, ?_⟩
        cases hC : evE P F ck env4 st4 with
        | ok kc st5 =>
          rw [hC, R.bind_ok] at hturn
          refine tE_ok S4 hC fun kx ρ5 H5 S5 E5 rk => ?_
          cases hE : evE P F cv env4 st5 with
          | ok y st6 =>
            rw [hE, R.bind_ok] at hturn
            cases hturn
            refine tE_ok S5 hE fun yv ρ6 H6 S6 E6 ry => ?_
            have E36 := ((E3.trans E4).trans E5).trans E6
            have hD6 : H6 D = some (.dT ws) := by rw [E36.hk D (.inr rfl)]; exact hDa
            obtain ⟨ok, ps', hps', ho'⟩ := dictOf_snoc (r := []) hps ho
            obtain ⟨bb, ns, rfl, rfl, hb⟩ := key_t (rk.ext E6) ok
            have hz : ws.length < sizeLine := by
              have l2 := lenOk_lt hlen
              omega
            have ll := length_putK ws (ns.map Sum.inl) yv
            have rd := (((((ra.ext E3).ext E4).ext E5).ext E6).put (k := .tup (ns.map CV.int)) (y := ns.map Sum.inl) ⟨ns, rfl, rfl⟩ ry).extP (pre_made (u := .dT (putK ws (ns.map Sum.inl) yv)) S6.rel (.inr rfl))
            exact ⟨ws, ns.map Sum.inl, bb, rfl, hD6, hb, hz, ρ6, _, _, _, _, ps', rel_made S6.rel (.inr rfl) (fun _ z => nomatch z), ext_in L.rel E2 hD E36, nin E36, upd_same, rd, by omega, hrest2, hps', ho'⟩
          | exc cc v s => rw [hE] at hturn; cases hturn
          | err => rw [hE] at hturn; cases hturn
        | exc cc v s => rw [hC] at hturn; cases hturn
        | err => rw [hC] at hturn; cases hturn
      | ret v s => rw [hT] at hturn; cases hturn
      | exc cc v e s => rw [hT] at hturn; cases hturn
      | err => rw [hT] at hturn; cases hturn
    · left
      have e : i = src.items.length := by omega
      subst e
      rw [List.drop_length] at hrest
      cases hrest
      refine ⟨stp rfl, ?_⟩
      cases hps
      cases ho
      exact made_endT E1 L hD E2 R2 nD hDa ra h
  · exact h.elim
theorem se_dcomp {scope : Scope} {own : List (Str × Nat)} {t : CT} {ci : CI} {ck cv : CE} (hi : SI CX P F G k S tg it ci) (ht : ST CX P F G k ⟨S.N, scope, false⟩ tg t) (hk : SE CX P F G k ⟨S.N, scope, false⟩ a ck) (hv : SE CX P F G k ⟨S.N, scope, false⟩ b cv)
    (ok : okBlk S scope own t.names = true) (hs : noSet it = true) : SE CX P F G k S (.DictComp a b [⟨tg, it, [], 0⟩] scope pos) (.dcomp true ck cv t ci) := .val (fun _ _ => rfl) fun X W g bx hb' => by
  obtain ⟨ob, o1, o2⟩ := okBlk_ok ok
  rw [← g.N] at ob
  have un := g.un
  exact (pe_dx g.calm g.nd (by omega) (hi X W g) (BlkOk.sc ob g.sc) (fun s H C cl fp => ht _ _ (g.blk scope s H C cl fp)) (fun s H C cl fp => (hk.pe (g.blk scope s H C cl fp))) (fun s H C cl fp => (hv.pe (g.blk scope s H C cl fp))) (fold_plain hs)).imp fun σ H Q h => dcomp_key o1 o2 h
end
end MP
end MPtc_text

section MPtd_text
set_option Elab.async false
set_option linter.all false
set_option maxRecDepth 100000
/-! Dict comprehensions whose keys are ints or texts. -/
namespace MP
open PySem PySem.Spec PyProof.Rows L2
section
variable {CX : CXT} {P : Prog} {F : Fns} {G : Wd} {k : Nat} {S : Cst} {W : WX} {X : Cx} {a b tg it : Expr} {ca cb : CE} {pos : Pos}
theorem made_endK {bx : Bool} {κ κ' : Addr → Prop} {ρ0 ρ1 ρ2 : List Addr} {st0 s1 st2 : Sto} {H0 H1 H2 : Hp} {src : Src} {D : Addr} {xs : List (CV × CV)} {vs : List (Key × V)} {Q : VK} (E0 : Ext κ ρ0 st0 H0 ρ1 s1 H1) (L : Locked G κ κ' ρ1 s1 H1 src) (hD : H1 D = none)
    (E : Ext κ' ρ1 (src.on s1) H1 ρ2 st2 H2) (R2 : HRel G (fun b => κ' b ∨ b = D) ρ2 st2 H2) (nD : D ∉ ρ2) (hv : H2 D = some (.dK vs)) (r : RepDs G ρ2 (Live (fun b => κ' b ∨ b = D) ρ2 st2) H2 xs vs)
    (h : BP G bx κ ρ0 st0 H0 Q (.dic false xs) (src.off st2)) : Q (.ref D) H2 := by
  have same : upd H2 D (HO.dK vs) = H2 := upd_id hv
  cases bx with
  | false =>
    obtain ⟨b1, b2, b3⟩ := L.back ρ2 st2 H2 E (rel_show R2)
    have rr : RepV G ρ2 (Live κ' ρ2 st2) H2 (.dic false xs) (.ref D) := .dicK hv (made_not L.rel hD R2) (r.extP pre_show)
    exact h _ ρ2 H2 b1 (E0.trans b2) (rr.extP b3)
  | true =>
    have e := box_pre (o := .dic false xs) (u := .dK vs) R2 rfl
    have R3 := box_rel (o := .dic false xs) (u := .dK vs) R2 rfl nD (L.rel.noHid hD) ⟨vs, upd_same, r.extP e⟩
    rw [same] at R3
    have E3 : Ext κ' ρ1 (src.on s1) H1 (ρ2 ++ [D]) (st2 ++ [.dic false xs]) H2 := by
      refine ⟨E.pre.trans ⟨[D], rfl⟩, E.hk, fun c o h1 h2 => ?_, E.tr, fun l c h1 => ?_⟩
      · obtain ⟨k1, k2⟩ := (pre_in E hD).keep c o h1 h2
        exact ⟨k1, fun q => k2 ((live_made R2.len rfl c).mp q)⟩
      · rcases Nat.lt_or_ge l ρ2.length with hl | hl
        · rw [List.getElem?_append_left hl] at h1
          exact E.nw l c h1
        · rw [List.getElem?_append_right hl] at h1
          exact .inr (by rw [List.mem_singleton.mp (List.mem_of_getElem? h1)]; exact hD)
    obtain ⟨b1, b2, _⟩ := L.back _ _ H2 E3 R3
    have ls : (src.off st2).length = ρ2.length := by
      obtain ⟨items, lock⟩ := src
      cases lock with
      | none => exact R2.len.symm
      | some q => exact (List.length_set).trans R2.len.symm
    have eo : src.off (st2 ++ [CO.dic false xs]) = src.off st2 ++ [CO.dic false xs] := by
      obtain ⟨items, lock⟩ := src
      cases lock with
      | none => rfl
      | some q =>
        have h1 := L.ln q.1 q.2 rfl
        have h2 := E.pre.length_le
        have h3 : q.1 < st2.length := by rw [← R2.len]; omega
        exact List.set_append_left _ _ h3
    rw [eo] at b1 b2
    exact h _ (ρ2 ++ [D]) H2 b1 (E0.trans b2) (.loc (by rw [ls]; simp))
theorem dcomp_keyK {bx : Bool} {own : List (Str × Nat)} {t : CT} {ci : CI} {ck cv : CE} (o1 : ∀ j ∈ own.map (·.2), j ∈ t.names) (o2 : ∀ j ∈ t.names, j ∈ own.map (·.2)) {σ : L2.St} {H : Hp} {Q : VK} (h : tE P F G W bx (.dcomp false ck cv t ci) σ H Q) :
    tDc (tI P F G W ci) (gT P F G t) tYes (tE P F G (fun _ _ _ _ => False) false ck) (tE P F G (fun _ _ _ _ => False) false cv) (own.map (·.2)) σ H Q := by
  obtain ⟨κ, ρ0, st0, env, S0, h⟩ := h
  have h : RP ((evI P F ci env st0).bind fun src s1 => (src.offR (compL (turnD P F t ck cv t.names env) src.items (src.on s1))).bind fun ys s2 => if lenOk src.items.length then ofO (((pairsOf ys).bind (dictOf false [])).map (.dic false)) s2 else .err) (BP G bx κ ρ0 st0 H Q) (XP G W σ κ ρ0 st0 H) := h
  refine ⟨κ, ρ0, st0, env, S0, (stepR h).imp (fun src s1 h J ρ1 H1 R1 E1 w D hD => ?_) fun _ _ _ h => h⟩
  have S1 := S0.ext R1 E1
  obtain ⟨κ', L, w⟩ := walk_locked R1 w
  obtain ⟨all, sf, hall, h⟩ : ∃ all sf, compL (turnD P F t ck cv t.names env) src.items (src.on s1) = .ok all sf ∧ RP (if lenOk src.items.length then ofO (((pairsOf all).bind (dictOf false [])).map (.dic false)) (src.off sf) else .err) (BP G bx κ ρ0 st0 H Q) (XP G W σ κ ρ0 st0 H) := by
    cases hh : compL (turnD P F t ck cv t.names env) src.items (src.on s1) with
    | ok all sf => rw [hh] at h; exact ⟨all, sf, rfl, h⟩
    | exc cc v s =>
      exfalso
      have : ∀ (xs : List CV) (s0 : Sto), compL (turnD P F t ck cv t.names env) xs s0 ≠ .exc cc v s := fun xs => by
        induction xs with
        | nil => intro s0 q; cases q
        | cons x r ih =>
          intro s0 q
          unfold compL at q
          split at q
          · split at q <;> cases q
          · cases q
      exact this _ _ hh
    | err => rw [hh] at h; exact h.elim
  split at h
  · rename_i hlen
    obtain ⟨zz, hz, h⟩ := RP.ofO h
    obtain ⟨out, ho, rfl⟩ := Option.map_eq_some_iff.mp hz
    obtain ⟨ps, hps, ho⟩ := Option.bind_eq_some_iff.mp ho
    let κD : Addr → Prop := fun b => κ' b ∨ b = D
    have RD := rel_hide (u := .dK []) L.rel hD fun _ z => nomatch z
    have ED : Ext κ' ρ1 (src.on s1) H1 ρ1 (src.on s1) (upd H1 D (.dK [])) := ext_new L.rel hD
    refine ⟨fun i m H2 => m = src.items.length - i ∧ i ≤ src.items.length ∧ ∃ ρ2 st2 acc ws rest ps, HRel G κD ρ2 st2 H2 ∧ Ext κ' ρ1 (src.on s1) H1 ρ2 st2 H2 ∧ D ∉ ρ2 ∧ H2 D = some (.dK ws) ∧ RepDs G ρ2 (Live κD ρ2 st2) H2 acc ws ∧ ws.length ≤ i ∧
      compL (turnD P F t ck cv t.names env) (src.items.drop i) st2 = .ok rest sf ∧ pairsOf rest = some ps ∧ dictOf false acc ps = some out,
      ⟨src.items.length, by simp, Nat.zero_le _, ρ1, src.on s1, [], [], all, ps, RD, ED, L.rel.notIn hD, upd_same, .nil, Nat.le_refl _, hall, hps, ho⟩, ?_⟩
    rintro i m H2 ⟨rfl, hi', ρ2, st2, acc, ws, rest, ps, R2, E2, nD, hDa, ra, hwl, hrest, hps, ho⟩
    have lat : Lat κ' ρ1 (src.on s1) H1 κD ρ2 st2 H2 := ⟨pre_in E2 hD, fun b hb => ⟨.inl hb, E2.hk b hb⟩⟩
    have SD : Sit G κD ρ2 st2 env σ H2 := ⟨R2, S1.len, fun i v hv => by
      obtain ⟨x, h1, h2⟩ := S1.sl i v hv
      exact ⟨x, h1, (h2.extP L.pre).extP (pre_in E2 hD)⟩⟩
    obtain ⟨stp, wi⟩ := w i κD ρ2 st2 H2 R2 lat
    by_cases hlt : i < src.items.length
    · right
      obtain ⟨go, wy⟩ := wi src.items[i] (List.getElem?_eq_getElem hlt)
      rw [List.drop_eq_getElem_cons hlt] at hrest
      obtain ⟨o, st3, ys, hturn, hrest2, rfl⟩ := compL_cons hrest
      refine ⟨go, fun H' => ∃ ρ2 st2 acc ws rest ps, HRel G κD ρ2 st2 H' ∧ Ext κ' ρ1 (src.on s1) H1 ρ2 st2 H' ∧ D ∉ ρ2 ∧ H' D = some (.dK ws) ∧ RepDs G ρ2 (Live κD ρ2 st2) H' acc ws ∧ ws.length ≤ i + 1 ∧
        compL (turnD P F t ck cv t.names env) (src.items.drop (i + 1)) st2 = .ok rest sf ∧ pairsOf rest = some ps ∧ dictOf false acc ps = some out, fun H' q => ⟨src.items.length - (i + 1), by omega, rfl, hlt, q⟩, fun xv H3 hy => ?_⟩
      obtain ⟨R3, E3, rx⟩ := wy xv H3 hy
      have S3 : Sit G κD ρ2 st2 (wipeV env t.names) (wipe σ (own.map (·.2))) H3 := (SD.ext R3 E3).wipe o1
      have nin : ∀ {ρ7 st7 H7}, Ext κD ρ2 st2 H2 ρ7 st7 H7 → D ∉ ρ7 := fun {ρ7 st7 H7} E7 m => by
        obtain ⟨l, hl⟩ := List.getElem?_of_mem m
        rcases E7.nw l D hl with z | z
        · exact nD (List.mem_of_getElem? z)
        · rw [hDa] at z; cases z
      unfold turnD at hturn
      cases hT : evT P F t src.items[i] (wipeV env t.names) st2 with
      | nx env4 st4 =>
        rw [hT] at hturn
        dsimp only at hturn
        refine ⟨κD, ρ2, st2, wipeV env t.names, src.items[i], S3, rx, ?_⟩
        rw [hT]
        intro ρ4 σ4 H4 S4 E4 hj hl
        refine ⟨wipe_same o2 hj hl, ?_⟩
        unfold tYes
        dsimp only
        rw [if_pos rfl]
        cases hC : evE P F ck env4 st4 with
        | ok kc st5 =>
          rw [hC, R.bind_ok] at hturn
          refine tE_ok S4 hC fun kx ρ5 H5 S5 E5 rk => ?_
          cases hE : evE P F cv env4 st5 with
          | ok y st6 =>
            rw [hE, R.bind_ok] at hturn
            cases hturn
            refine tE_ok S5 hE fun yv ρ6 H6 S6 E6 ry => ?_
            have E36 := ((E3.trans E4).trans E5).trans E6
            have hD6 : H6 D = some (.dK ws) := by rw [E36.hk D (.inr rfl)]; exact hDa
            obtain ⟨ok, ps', hps', ho'⟩ := dictOf_snoc (r := []) hps ho
            obtain ⟨ky, rky, rfl⟩ := key_k (rk.ext E6) ok
            have hz : ws.length < sizeLine := by
              have l2 := lenOk_lt hlen
              omega
            have ll := length_putK ws ky yv
            have rd := (((((ra.ext E3).ext E4).ext E5).ext E6).put rky ry).extP (pre_made (u := .dK (putK ws ky yv)) S6.rel (.inr rfl))
            exact ⟨ws, ky, rfl, hD6, hz, ρ6, _, _, _, _, ps', rel_made S6.rel (.inr rfl) (fun _ z => nomatch z), ext_in L.rel E2 hD E36, nin E36, upd_same, rd, by omega, hrest2, hps', ho'⟩
          | exc cc v s => rw [hE] at hturn; cases hturn
          | err => rw [hE] at hturn; cases hturn
        | exc cc v s => rw [hC] at hturn; cases hturn
        | err => rw [hC] at hturn; cases hturn
      | ret v s => rw [hT] at hturn; cases hturn
      | exc cc v e s => rw [hT] at hturn; cases hturn
      | err => rw [hT] at hturn; cases hturn
    · left
      have e : i = src.items.length := by omega
      subst e
      rw [List.drop_length] at hrest
      cases hrest
      refine ⟨stp rfl, ?_⟩
      cases hps
      cases ho
      exact made_endK E1 L hD E2 R2 nD hDa ra h
  · exact h.elim
theorem se_dcompK {scope : Scope} {own : List (Str × Nat)} {t : CT} {ci : CI} {ck cv : CE} (hi : SI CX P F G k S tg it ci) (ht : ST CX P F G k ⟨S.N, scope, false⟩ tg t) (hk : SE CX P F G k ⟨S.N, scope, false⟩ a ck) (hv : SE CX P F G k ⟨S.N, scope, false⟩ b cv)
    (ok : okBlk S scope own t.names = true) (hs : noSet it = true) : SE CX P F G k S (.DictComp a b [⟨tg, it, [], 0⟩] scope pos) (.dcomp false ck cv t ci) := .val (fun _ _ => rfl) fun X W g bx hb' => by
  obtain ⟨ob, o1, o2⟩ := okBlk_ok ok
  rw [← g.N] at ob
  have un := g.un
  exact (pe_dc g.calm g.nd (hi X W g) (BlkOk.sc ob g.sc) (fun s H C cl fp => ht _ _ (g.blk scope s H C cl fp)) (fun _ _ _ _ _ => pts_nil) (fun s H C cl fp => (hk.pe (g.blk scope s H C cl fp))) (fun s H C cl fp => (hv.pe (g.blk scope s H C cl fp))) (fold_plain hs)).imp fun σ H Q h => dcomp_keyK o1 o2 h
end
end MP
end MPtd_text

section MPu_text
set_option Elab.async false
set_option linter.all false
set_option maxRecDepth 100000
/-! Statements. -/
namespace MP
open PySem PySem.Spec PyProof.Rows L2
/-- what follows a statement -/
def XQ (G : Wd) (W : WX) (κ : Addr → Prop) (ρ : List Addr) (st : Sto) (H : Hp) (c : Nat) (v : CV) (env' : Env) (st' : Sto) : Prop :=
  ∀ (x : V) (ρ' : List Addr) (σ' : L2.St) (H' : Hp) (d : Addr), Sit G κ ρ' st' env' σ' H' → Ext κ ρ st H ρ' st' H' → RepV G ρ' (Live κ ρ' st') H' v x → H' d = some (.xd [(("value" : Str), x)]) → W (.ref (G.ca c)) (some d) σ' H'
def FP (G : Wd) (W : WX) (D : Ends) (κ : Addr → Prop) (ρ : List Addr) (st : Sto) (H : Hp) (x : Fl) : Prop := match x with
  | .nx env' st' => NP G κ ρ st H D.nx env' st'
  | .ret v st' => Post G κ ρ st H v st' D.rt
  | .exc c v env' st' => XQ G W κ ρ st H c v env' st'
  | .err => False
section
variable {G : Wd} {W : WX} {κ : Addr → Prop} {ρ ρ1 : List Addr} {st s1 : Sto} {env : Env} {σ : L2.St} {H H1 : Hp} {D D' : Ends} {x : Fl}
theorem FP.mono (e : Ext κ ρ st H ρ1 s1 H1) (h : FP G W D κ ρ st H x) : FP G W D κ ρ1 s1 H1 x := by
  cases x with
  | nx env' st' => exact NP.mono e h
  | ret v st' => exact Post.mono e h
  | exc c v env' st' => exact fun x ρ' σ' H' d S E r hd => h x ρ' σ' H' d S (e.trans E) r hd
  | err => exact h
theorem FP.thn {f : Env → Sto → Fl} (h : FP G W D κ ρ st H (x.then f)) (k : ∀ env' st', FP G W D κ ρ st H (f env' st') → NP G κ ρ st H D'.nx env' st') (hr : D'.rt = D.rt) : FP G W D' κ ρ st H x := by
  cases x with
  | nx env' st' => exact k env' st' h
  | ret v st' => show Post G κ ρ st H v st' D'.rt; rw [hr]; exact h
  | exc c v env' st' => exact h
  | err => exact h
/-- an expression ahead of a statement -/
theorem FP.ofR {α : Type} {r : R α} {f : α → Sto → Fl} (h : FP G W D κ ρ st H (Fl.ofR env r f)) (S : Sit G κ ρ st env σ H) : RP r (fun a s => FP G W D κ ρ st H (f a s)) (XP G W σ κ ρ st H) := by
  cases r with
  | ok a s => exact h
  | exc c v s => exact fun x ρ' H' d R E r hd => h x ρ' σ H' d (S.ext R E) E r hd
  | err => exact h
end
section
variable (P : Prog) (F : Fns) (G : Wd) (W : WX)
def tS (s : CS) : TS := fun D σ H => ∃ κ ρ st env, Sit G κ ρ st env σ H ∧ FP G W D κ ρ st H (evS P F s env st)
def tSs (s : CSs) : TS := fun D σ H => ∃ κ ρ st env, Sit G κ ρ st env σ H ∧ FP G W D κ ρ st H (evSs P F s env st)
end
theorem _root_.L2.PS.imp {X : Cx} {s : Stmt} {t t' : TS} (h : PS X s t) (w : ∀ D σ H, t' D σ H → t D σ H) : PS X s t' := ⟨fun pins sh σ H D I q => h.run pins sh σ H D I (w D σ H q)⟩
theorem _root_.L2.PSs.imp {X : Cx} {s : List Stmt} {t t' : TS} (h : PSs X s t) (w : ∀ D σ H, t' D σ H → t D σ H) : PSs X s t' := ⟨fun pins sh σ H D I q => h.run pins sh σ H D I (w D σ H q)⟩
section
variable {CX : CXT} {P : Prog} {F : Fns} {G : Wd} {k : Nat} {S : Cst} {W : WX} {X : Cx} {e a b d tg it : Expr} {c ca cb cd : CE} {pos : Pos}
def SSt (CX : CXT) (P : Prog) (F : Fns) (G : Wd) (k : Nat) (S : Cst) (s : Stmt) (c : CS) : Prop := ∀ (X : Cx) (W : WX), Okay CX P F G k S W X → PS X s (tS P F G W c)
def SSs (CX : CXT) (P : Prog) (F : Fns) (G : Wd) (k : Nat) (S : Cst) (s : List Stmt) (c : CSs) : Prop := ∀ (X : Cx) (W : WX), Okay CX P F G k S W X → PSs X s (tSs P F G W c)
/-- a step into a statement: the expression -/
theorem stepS {α : Type} {κ : Addr → Prop} {ρ : List Addr} {st : Sto} {env : Env} {σ : L2.St} {H : Hp} {D : Ends} {f : CV → Sto → Fl} {Q : VK} (S1 : Sit G κ ρ st env σ H) (h : FP G W D κ ρ st H (Fl.ofR env (evE P F ca env st) f))
    (k : ∀ v s1 x ρ1 H1, Sit G κ ρ1 s1 env σ H1 → RepV G ρ1 (Live κ ρ1 s1) H1 v x → FP G W D κ ρ1 s1 H1 (f v s1) → Q x H1) : tE P F G W false ca σ H Q :=
  ⟨κ, ρ, st, env, S1, (FP.ofR h S1).imp (fun v s1 q x ρ1 H1 R E r => k v s1 x ρ1 H1 (S1.ext R E) r (FP.mono E q)) fun _ _ _ h => h⟩
theorem sss_nil : SSs CX P F G k S [] .nil := fun X W g => pss_nil.imp fun D σ H ⟨κ, ρ, st, env, S1, h⟩ => h ρ σ H S1 .refl
theorem sss_cons {s : Stmt} {r : List Stmt} {cs : CS} {cr : CSs} (h1 : SSt CX P F G k S s cs) (h2 : SSs CX P F G k S r cr) : SSs CX P F G k S (s :: r) (.cons cs cr) := fun X W g =>
  (pss_cons (h1 X W g) (h2 X W g)).imp fun D σ H ⟨κ, ρ, st, env, S1, h⟩ => ⟨κ, ρ, st, env, S1, FP.thn (D' := { D with nx := tSs P F G W cr D }) (show FP G W D κ ρ st H ((evS P F cs env st).then fun env1 s1 => evSs P F cr env1 s1) from h) (fun env' st' q ρ' σ' H' S2 E => ⟨κ, ρ', st', env', S2, FP.mono E q⟩) rfl⟩
def noComp : Expr → Bool
  | .ListComp .. | .SetComp .. | .DictComp .. => false
  | _ => true
def isName : Expr → Bool
  | .Name .. => true
  | _ => false
theorem swaps_no {t : Option Expr} {l : Nat} {env : PySem.Env} (h : noComp e = true) : swapsWith e t l env = pure false := by
  cases e <;> first | rfl | cases h
theorem swaps_tg {l : Nat} {env : PySem.Env} (h : noComp e = true ∨ isName tg = false) : swapsWithSole [tg] e l env = pure false := by
  rcases h with h | h
  · exact swaps_no h
  · cases e <;> first | rfl | (cases tg <;> first | rfl | cases h)
theorem ss_pass : SSt CX P F G k S (.Pass pos) .pass := fun X W g => ps_pass.imp fun D σ H ⟨κ, ρ, st, env, S1, h⟩ => h ρ σ H S1 .refl
theorem ss_expr (ha : SE CX P F G k S a ca) (hn : noComp a = true) : SSt CX P F G k S (.Expr a pos) (.expr ca) := fun X W g =>
  (ps_expr (ha.pe g) (swaps_no hn)).imp fun D σ H ⟨κ, ρ, st, env, S1, h⟩ => stepS (α := CV) S1 h fun v s1 x ρ1 H1 S2 r q => q ρ1 σ H1 S2 .refl
theorem ss_ret0 : SSt CX P F G k S (.Return none pos) (.ret .no) := fun X W g => ps_retN.imp fun D σ H ⟨κ, ρ, st, env, S1, h⟩ => h .non ρ H S1.rel .refl .non
theorem ss_ret (ha : SE CX P F G k S a ca) : SSt CX P F G k S (.Return (some a) pos) (.ret (.yes ca)) := fun X W g =>
  (ps_ret (ha.pe g)).imp fun D σ H ⟨κ, ρ, st, env, S1, h⟩ => stepS (α := CV) S1 h fun v s1 x ρ1 H1 S2 r q => q x ρ1 H1 S2.rel .refl r
theorem ss_if {p q : List Stmt} {cp cq : CSs} (ha : SE CX P F G k S a ca) (hp : SSs CX P F G k S p cp) (hq : SSs CX P F G k S q cq) : SSt CX P F G k S (.If a p q pos) (.ifs ca cp cq) := fun X W g =>
  (ps_if (ha.pt g) (hp X W g) (hq X W g)).imp fun D σ H ⟨κ, ρ, st, env, S1, h⟩ => stepS (α := CV) S1 h fun v s1 x ρ1 H1 S2 r q => by
    cases v with
    | bl t =>
      cases r
      refine ⟨t, rfl, ?_⟩
      cases t with
      | true => exact ⟨κ, ρ1, s1, env, S2, q⟩
      | false => exact ⟨κ, ρ1, s1, env, S2, q⟩
    | _ => exact q.elim
theorem ss_never {s : Stmt} : SSt CX P F G k S s .never := fun X W g => ps_never.imp fun D σ H ⟨κ, ρ, st, env, S1, h⟩ => h.elim
/-- one target; no swap -/
def noSwap (tg e : Expr) : Bool := match tg, e with
  | .Tuple ts _ _, .Tuple vs _ _ => !(ts.length == 2 || ts.length == 3) || (vs.length != ts.length || vs.all (foldedForSure 8))
  | .List _ _, _ => false
  | _, _ => true
theorem swapped_no {env : PySem.Env} (h : noSwap tg e = true) : swappedStores [tg] e env = pure none := by
  unfold swappedStores
  cases tg with
  | Tuple ts j p =>
    cases e with
    | Tuple vs j2 p2 =>
      dsimp only
      have h : (!(ts.length == 2 || ts.length == 3) || (vs.length != ts.length || vs.all (foldedForSure 8))) = true := h
      split
      · rfl
      · rename_i h1
        split
        · rfl
        · split
          · rfl
          · split
            · rfl
            · rename_i h4
              exfalso
              rw [Bool.not_eq_true] at h1 h4
              rw [Bool.or_eq_false_iff, Bool.or_eq_false_iff] at h1
              rw [h1.1.1, h1.1.2, h4] at h
              cases h
    | _ => rfl
  | List ts p => cases h
  | _ => cases e <;> rfl
/-- a name that is no fast one -/
def slowNm (S : Cst) : Expr → Bool
  | .Name x _ => decide (S.sc.names.lookup x = some .cell)
  | _ => false
theorem swaps_slow {S : Cst} {l : Nat} {env : PySem.Env} (hs : ScR S.sc env.scope) (h : slowNm S tg = true) : swapsWithSole [tg] e l env = pure false := by
  cases tg with
  | Name x p =>
    have hc : env.kindOf x = some .cell := hs.cell x (of_decide_eq_true h)
    cases e with
    | ListComp a gs s q => show pure (env.blockKind == .function && env.kindOf x == some .local && _ && _) = _; rw [hc]; cases (env.blockKind == ScopeKind.function) <;> rfl
    | SetComp a gs s q => show pure (env.blockKind == .function && env.kindOf x == some .local && _ && _) = _; rw [hc]; cases (env.blockKind == ScopeKind.function) <;> rfl
    | DictComp a b gs s q => show pure (env.blockKind == .function && env.kindOf x == some .local && _ && _) = _; rw [hc]; cases (env.blockKind == ScopeKind.function) <;> rfl
    | _ => rfl
  | _ => cases h
/-- a name that is no fast one: no swap -/
def slowTg (S : Cst) (tg : Expr) : Bool := match tg with
  | .Tuple ts _ _ => ts.any fun
    | .Name x _ => decide (S.sc.names.lookup x = some .cell)
    | _ => true
  | _ => false
theorem names_less {S : Cst} {env : PySem.Env} (hs : ScR S.sc env.scope) {line : Nat} : ∀ {ts : List Expr}, (ts.any fun
    | .Name x _ => decide (S.sc.names.lookup x = some .cell)
    | _ => true) = true → (ts.filterMap fun
    | .Name id pos => if env.kindOf id == some .local && pos.line == line then some id else none
    | _ => none).length < ts.length
  | [], h => by cases h
  | t :: r, h => by
    rw [List.any_cons] at h
    have le : (r.filterMap fun
      | .Name id pos => if env.kindOf id == some .local && pos.line == line then some id else none
      | _ => none).length ≤ r.length := List.length_filterMap_le ..
    rcases Bool.or_eq_true_iff.mp h with h | h
    · have e : (match t with
        | .Name id pos => if env.kindOf id == some .local && pos.line == line then some id else none
        | _ => (none : Option Str)) = none := by
        cases t with
        | Name x p =>
          have hc := hs.cell x (of_decide_eq_true h)
          have : env.kindOf x = some .cell := hc
          dsimp only
          rw [this]
          rfl
        | _ => rfl
      rw [List.filterMap_cons]
      split
      · exact Nat.lt_succ_of_le le
      · rename_i b hb
        rw [e] at hb
        cases hb
    · have ih := names_less hs (line := line) h
      rw [List.filterMap_cons]
      split
      · exact Nat.lt_succ_of_lt ih
      · exact Nat.succ_lt_succ ih
theorem swapped_slow {S : Cst} {env : PySem.Env} (hs : ScR S.sc env.scope) (h : slowTg S tg = true) : swappedStores [tg] e env = pure none := by
  unfold swappedStores
  cases tg with
  | Tuple ts j p =>
    cases e with
    | Tuple vs j2 p2 =>
      dsimp only
      have l := names_less hs (line := (ts.head?.map (·.pos.line)).getD 0) (show (ts.any _) = true from h)
      split
      · rfl
      · split
        · rfl
        · split
          · rfl
          · rename_i h3
            exfalso
            apply h3
            rw [Bool.or_eq_true]
            left
            exact bne_iff_ne.mpr (Nat.ne_of_lt l)
    | _ => rfl
  | _ => cases h
theorem only_fn {κ : Addr → Prop} {ρ : List Addr} {st : Sto} {H : Hp} {D : Ends} {x : Fl} (h : FP G W D κ ρ st H x.only) : FN x (NP G κ ρ st H D.nx) := by
  cases x <;> exact h
theorem ss_asg {t : CT} (ht : ST CX P F G k S tg t) (ha : SE CX P F G k S a ca) (hp : plainE tg = true) (hn : (noComp a = true ∨ isName tg = false) ∨ slowNm S tg = true) (hs : noSwap tg a = true ∨ slowTg S tg = true) : SSt CX P F G k S (.Assign [tg] a pos) (.asg t ca) := fun X W g =>
  (ps_asg (ha.pe g) (ht X W g) (hn.elim swaps_tg (swaps_slow g.sc)) (hs.elim swapped_no (swapped_slow g.sc)) (by rw [asg_plain hp]; rfl)).imp fun D σ H ⟨κ, ρ, st, env, S1, h⟩ => stepS (α := CV) S1 h fun v s1 x ρ1 H1 S2 r q =>
    ⟨κ, ρ1, s1, env, v, S2, r, (only_fn q).imp fun _ _ q ρ' σ' H' S3 E3 _ _ => q ρ' σ' H' S3 E3⟩
theorem RepFs.putF {ρ : List Addr} {L : Addr → Prop} {H : Hp} {f : Nat} {v : CV} {y : V} (inj : ∀ p, G.an p = G.an f → p = f) (rv : RepV G ρ L H v y) : ∀ {fs : List (Nat × CV)} {fv : List (Str × V)}, RepFs G ρ L H fs fv → RepFs G ρ L H (MP.putF f v fs) (L2.putF (G.an f) y fv)
  | _, _, .nil => .cons rv .nil
  | _, _, .cons (f := f0) h0 r0 => by
    unfold MP.putF L2.putF
    by_cases hf : f0 = f
    · subst hf
      rw [if_pos rfl, if_pos rfl]
      exact .cons rv r0
    · rw [if_neg hf, if_neg fun z => hf (inj _ z)]
      exact .cons h0 (RepFs.putF inj rv r0)
/-- o.f = e -/
theorem ss_fld {f : Nat} {x : List Nat} {p2 : Pos} (ha : SE CX P F G k S a ca) (hb : SE CX P F G k S b cb) (hx : P.attrs[f]? = some x) : SSt CX P F G k S (.Assign [.Attribute a (SS x) p2] b pos) (.asg (.attr ca f) cb) := fun X W g => by
  have ef := okAttr g hx
  refine (ps_fld (f := SS x) (ha.pe g) (hb.pe g) (by cases b <;> rfl)).imp fun D σ H ⟨κ, ρ, st, env, S1, h⟩ => stepS (α := CV) S1 h fun v s1 y ρ1 H1 S2 r q => ?_
  have q := only_fn (x := evT P F (.attr ca f) v env s1) q
  obtain ⟨o, s2, e2, q⟩ := FN.okF (show FN (okF (evE P F ca env s1) fun o s2 => match setAttr P s2 o f v with
    | some s3 => .nx env s3
    | none => .err) _ from q)
  refine tE_ok S2 e2 fun ox ρ2 H2 S3 E3 ro => ?_
  cases hs : setAttr P s2 o f v with
  | none => rw [hs] at q; exact q.elim
  | some s3 =>
    rw [hs] at q
    unfold setAttr at hs
    split at hs
    · rename_i l
      split at hs
      · rename_i c fs ho
        split at hs
        · rename_i hok
          cases hs
          obtain ⟨h1, h2⟩ := Bool.and_eq_true_iff.mp hok
          have h1 := of_decide_eq_true h1
          cases ro with
          | loc hp =>
            obtain ⟨dx, fv, hv, rf⟩ := S3.rel.obj l _ _ hp ho
            have hcl := Prog.cls_of (P := P) (c := c) (.inl fun z => by rw [z] at h2; cases h2)
            obtain ⟨cl, _, _, na, _⟩ := g.fix.cls c _ hcl
            have E4 := ext_set (u := .ins (G.ca c) dx (L2.putF (SS x) y fv)) (o' := .ins c (putF f v fs)) S3.rel hp ho rfl rfl
            have lf := rf.length
            have rp : RepFs G ρ2 (Live κ ρ2 s2) H2 (putF f v fs) (L2.putF (SS x) y fv) := by
              rw [← ef]
              exact rf.putF (fun p e => g.fix.ainj _ _ e) (r.ext E3)
            refine ⟨_, _, dx, fv, rfl, hv, cl, by rw [← ef]; exact na f (by simpa using h2), by omega, ?_⟩
            have R4 := rel_set (u := .ins (G.ca c) dx (L2.putF (SS x) y fv)) (o' := .ins c (putF f v fs)) S3.rel hp ho rfl rfl ⟨dx, _, upd_same, rp.ext E4⟩
            exact q ρ2 σ _ (S3.ext R4 E4) (E3.trans E4)
        · cases hs
      · cases hs
    · cases hs
end
end MP
end MPu_text

section MPv_text
set_option Elab.async false
set_option linter.all false
set_option maxRecDepth 100000
/-! Loops; several names at once. -/
namespace MP
open PySem PySem.Spec PyProof.Rows L2
section
variable {CX : CXT} {P : Prog} {F : Fns} {G : Wd} {k : Nat} {S : Cst} {W : WX} {X : Cx} {e a b d tg it : Expr} {c ca cb cd : CE} {pos : Pos}
theorem Sit.back {κ κ' : Addr → Prop} {ρ1 ρ2 : List Addr} {s1 st2 : Sto} {H1 H2 : Hp} {src : Src} {env : Env} {σ : L2.St} (L : Locked G κ κ' ρ1 s1 H1 src) (S : Sit G κ' ρ2 st2 env σ H2) (E : Ext κ' ρ1 (src.on s1) H1 ρ2 st2 H2) : Sit G κ ρ2 (src.off st2) env σ H2 := by
  obtain ⟨b1, b2, b3⟩ := L.back ρ2 st2 H2 E S.rel
  exact ⟨b1, S.len, fun i v h => let ⟨x, h1, h2⟩ := S.sl i v h; ⟨x, h1, h2.extP b3⟩⟩
theorem ss_for {t : CT} {ci : CI} {body : List Stmt} {cb : CSs} (ht : ST CX P F G k S tg t) (hi : SI CX P F G k S tg it ci) (hb : SSs CX P F G k S body cb) (hs : noSet it = true) (hS : S.top = true) : SSt CX P F G k S (.For tg it body [] pos) (.fors t ci cb) := fun X W g => by
  refine (ps_for (g.own hS) g.calm (hi X W g) (ht X W g) (hb X W g) (fold_plain hs)).imp fun D σ H ⟨κ, ρ0, st0, env, S0, h⟩ => ?_
  let f : CV → Env → Sto → Fl := fun x env s => (evT P F t x env s).only.then fun env2 s2 => evSs P F cb env2 s2
  have h : FP G W D κ ρ0 st0 H (Fl.ofR env (evI P F ci env st0) fun src s1 => src.offF (forL f src.items env (src.on s1))) := h
  refine ⟨κ, ρ0, st0, env, S0, (FP.ofR h S0).imp (fun src s1 h J ρ1 H1 R1 E1 w => ?_) fun _ _ _ h => h⟩
  have S1 := S0.ext R1 E1
  have h := FP.mono E1 h
  obtain ⟨κ', L, w⟩ := walk_locked R1 w
  have SL : Sit G κ' ρ1 (src.on s1) env σ H1 := ⟨L.rel, S1.len, fun i v hv => let ⟨x, h1, h2⟩ := S1.sl i v hv; ⟨x, h1, h2.extP L.pre⟩⟩
  refine ⟨fun i m σ2 H2 => m = src.items.length - i ∧ i ≤ src.items.length ∧ ∃ ρ2 st2 env2, Sit G κ' ρ2 st2 env2 σ2 H2 ∧ Ext κ' ρ1 (src.on s1) H1 ρ2 st2 H2 ∧ FP G W D κ ρ1 s1 H1 (src.offF (forL f (src.items.drop i) env2 st2)),
    ⟨src.items.length, by simp, Nat.zero_le _, ρ1, src.on s1, env, SL, .refl, h⟩, ?_⟩
  rintro i m σ2 H2 ⟨rfl, hi', ρ2, st2, env2, S2, E2, h2⟩
  obtain ⟨stp, wi⟩ := w i κ' ρ2 st2 H2 S2.rel ⟨E2.toPre, fun b hb => ⟨hb, E2.hk b hb⟩⟩
  by_cases hlt : i < src.items.length
  · right
    obtain ⟨go, wy⟩ := wi src.items[i] (List.getElem?_eq_getElem hlt)
    rw [List.drop_eq_getElem_cons hlt] at h2
    refine ⟨go, fun σ' H' => ∃ ρ2 st2 env2, Sit G κ' ρ2 st2 env2 σ' H' ∧ Ext κ' ρ1 (src.on s1) H1 ρ2 st2 H' ∧ FP G W D κ ρ1 s1 H1 (src.offF (forL f (src.items.drop (i + 1)) env2 st2)),
      fun σ' H' q => ⟨src.items.length - (i + 1), by omega, rfl, hlt, q⟩, fun xv H3 hy => ?_⟩
    obtain ⟨R3, E3, rx⟩ := wy xv H3 hy
    refine ⟨κ', ρ2, st2, env2, src.items[i], S2.ext R3 E3, rx, ?_⟩
    have h2 : FP G W D κ ρ1 s1 H1 (src.offF (((evT P F t src.items[i] env2 st2).only.then fun env2 s2 => evSs P F cb env2 s2).then fun env1 st1 => forL f (src.items.drop (i + 1)) env1 st1)) := h2
    cases hT : evT P F t src.items[i] env2 st2 with
    | nx env3 st3 =>
      rw [hT] at h2
      intro ρ4 σ4 H4 S4 E4 _ _
      refine ⟨κ', ρ4, st3, env3, S4, ?_⟩
      have h2 : FP G W D κ ρ1 s1 H1 (src.offF ((evSs P F cb env3 st3).then fun env1 st1 => forL f (src.items.drop (i + 1)) env1 st1)) := h2
      have E24 := (E2.trans E3).trans E4
      cases hB : evSs P F cb env3 st3 with
      | nx env4 st4 =>
        rw [hB] at h2
        exact fun ρ5 σ5 H5 S5 E5 => ⟨ρ5, st4, env4, S5, E24.trans E5, h2⟩
      | ret v st4 =>
        rw [hB] at h2
        intro x ρ5 H5 R5 E5 r
        obtain ⟨b1, b2, b3⟩ := L.back ρ5 st4 H5 (E24.trans E5) R5
        exact h2 x ρ5 H5 b1 b2 (r.extP b3)
      | exc cc v env4 st4 =>
        rw [hB] at h2
        intro x ρ5 σ5 H5 d S5 E5 r hd
        obtain ⟨b1, b2, b3⟩ := L.back ρ5 st4 H5 (E24.trans E5) S5.rel
        exact h2 x ρ5 σ5 H5 d (Sit.back L S5 (E24.trans E5)) b2 (r.extP b3) hd
      | err => rw [hB] at h2; exact h2.elim
    | ret v s => rw [hT] at h2; exact h2.elim
    | exc cc v e s => rw [hT] at h2; exact h2.elim
    | err => rw [hT] at h2; exact h2.elim
  · left
    have e : i = src.items.length := by omega
    subst e
    rw [List.drop_length] at h2
    obtain ⟨_, b2, _⟩ := L.back ρ2 st2 H2 E2 S2.rel
    exact ⟨stp rfl, h2 ρ2 σ2 H2 (Sit.back L S2 E2) b2⟩
theorem ss_while {body : List Stmt} {cs : CSs} (ha : SE CX P F G k S a ca) (hb : SSs CX P F G k S body cs) (hS : S.top = true) : SSt CX P F G k S (.While a body [] pos) (.whiles ca cs) := fun X W g => by
  refine (ps_while (g.own hS) (ha.pt g) (hb X W g)).imp fun D σ H ⟨κ, ρ0, st0, env, S0, h⟩ => ?_
  have h : FP G W D κ ρ0 st0 H (whileR (fun env st => evE P F ca env st) (fun env st => evSs P F cs env st) env st0) := h
  unfold whileR at h
  split at h
  · rename_i hn
    refine ⟨fun m σ2 H2 => ∃ ρ2 st2 env2, Sit G κ ρ2 st2 env2 σ2 H2 ∧ FP G W D κ ρ2 st2 H2 (whileN (fun env st => evE P F ca env st) (fun env st => evSs P F cs env st) m env2 st2), ⟨_, ρ0, st0, env, S0, h⟩, ?_⟩
    rintro m σ2 H2 ⟨ρ2, st2, env2, S2, h2⟩
    cases m with
    | zero => exact h2.elim
    | succ m =>
      refine stepS (α := CV) S2 (show FP G W D κ ρ2 st2 H2 (Fl.ofR env2 (evE P F ca env2 st2) fun v st1 => match v with
        | .bl true => (evSs P F cs env2 st1).then fun env2 st2 => whileN (fun env st => evE P F ca env st) (fun env st => evSs P F cs env st) m env2 st2
        | .bl false => .nx env2 st1
        | _ => .err) from h2) fun v s3 x ρ3 H3 S3 r q => ?_
      cases v with
      | bl t =>
        cases r
        refine ⟨t, rfl, ?_⟩
        cases t with
        | false => exact q ρ3 σ2 H3 S3 .refl
        | true =>
          refine ⟨fun σ' H' => ∃ ρ2 st2 env2, Sit G κ ρ2 st2 env2 σ' H' ∧ FP G W D κ ρ2 st2 H' (whileN (fun env st => evE P F ca env st) (fun env st => evSs P F cs env st) m env2 st2), fun σ' H' q => ⟨m, Nat.lt_succ_self m, q⟩, ?_⟩
          exact ⟨κ, ρ3, s3, env2, S3, FP.thn q (fun env' st' q ρ' σ' H' S' E' => ⟨ρ', st', env', S', FP.mono E' q⟩) rfl⟩
      | _ => exact q.elim
  · exact h.elim
/-- i op= e -/
theorem ss_aug {i : Nat} {x : Str} {p2 : Pos} (sub : Bool) (hx : okLoc S i x = true) (ha : SE CX P F G k S a ca) : SSt CX P F G k S (.AugAssign (.Name x p2) (if sub then .Sub else .Add) a pos) (.aug i (if sub then .sub else .add) ca) := fun X W g => by
  obtain ⟨h1, h2, h3⟩ := g.loc hx
  have key : ∀ D σ H, tS P F G W (.aug i (if sub then .sub else .add) ca) D σ H → tAug i (tE P F G W false ca) (ipI fun i j => if sub then i - j else i + j) D σ H := fun D σ H ⟨κ, ρ, st, env, S1, h⟩ => by
    cases hv : getV env i with
    | none =>
      have h : FP G W D κ ρ st H (match getV env i with
        | some v => Fl.ofR env (evE P F ca env st) fun x s1 => match v, x with
          | .int a, .int b => match binop s1 (if sub then .sub else .add) (.int a) (.int b) with
            | some z => .nx (setV env i z) s1
            | none => .err
          | _, _ => .err
        | none => .err) := h
      rw [hv] at h
      exact h.elim
    | some v =>
      have h : FP G W D κ ρ st H (match getV env i with
        | some v => Fl.ofR env (evE P F ca env st) fun x s1 => match v, x with
          | .int a, .int b => match binop s1 (if sub then .sub else .add) (.int a) (.int b) with
            | some z => .nx (setV env i z) s1
            | none => .err
          | _, _ => .err
        | none => .err) := h
      rw [hv] at h
      obtain ⟨xv, e1, r1⟩ := S1.sl i v hv
      refine ⟨xv, e1, stepS (α := CV) S1 h fun w s1 y ρ1 H1 S2 r q => ?_⟩
      cases v with
      | int m =>
        cases w with
        | int n =>
          cases r1; cases r
          refine ⟨m, n, rfl, rfl, ?_⟩
          cases sub with
          | true => exact q ρ1 _ H1 (S2.set (.int _)) .refl
          | false => exact q ρ1 _ H1 (S2.set (.int _)) .refl
        | _ => exact q.elim
      | _ => exact q.elim
  cases sub with
  | true => exact (ps_aug g.nd h1 h2 (ha.pe g) (ip_sub) h3).imp key
  | false => exact (ps_aug g.nd h1 h2 (ha.pe g) (ip_add) h3).imp key
/-- names at once -/
def okSw (S : Cst) (l : Nat) (x : Str) (p : Pos) : Bool := decide (S.sc.names.lookup x = some .local) && (p.line == l)
def okVs (vs : List Expr) : Bool := vs.all plainE && (!(vs.all (foldedForSure 8)) && !(vs.all (constantsAlone 8)))
theorem okVs_star {vs : List Expr} (h : vs.all plainE = true) : (vs.any fun | .Starred .. => true | _ => false) = false := by
  rw [List.any_eq_false]
  intro e he q
  have h2 := List.all_eq_true.mp h e he
  cases e <;> first | (cases h2; done) | (cases q; done)
theorem okVs_of {vs : List Expr} (hv : okVs vs = true) : (vs.any fun | .Starred .. => true | _ => false) = false ∧ vs.all (foldedForSure 8) = false ∧ vs.all (constantsAlone 8) = false := by
  unfold okVs at hv
  obtain ⟨h1, h2⟩ := Bool.and_eq_true_iff.mp hv
  obtain ⟨h3, h4⟩ := Bool.and_eq_true_iff.mp h2
  exact ⟨okVs_star h1, by simpa using h3, by simpa using h4⟩
theorem swapped_two {x y : Str} {px py pt p2 : Pos} {kt k2 : Nat} {env : PySem.Env} (hk : env.scope.kind = .function) (hx : env.kindOf x = some .local) (hy : env.kindOf y = some .local) (hl : (py.line == px.line) = true) (hne : x ≠ y) (hv : okVs [a, b] = true) :
    swappedStores [.Tuple [.Name x px, .Name y py] kt pt] (.Tuple [a, b] k2 p2) env = pure (some [x, y]) := by
  obtain ⟨v1, v2, v3⟩ := okVs_of hv
  have hb : env.blockKind = .function := by unfold PySem.Env.blockKind; rw [hk]; rfl
  have hl2 : py.line = px.line := beq_iff_eq.mp hl
  have hd : ([x, y] : List Str).eraseDups = [x, y] := by
    have : (y == x) = false := beq_eq_false_iff_ne.mpr (Ne.symm hne)
    simp [List.eraseDups_cons, hne, this]
  unfold swappedStores
  dsimp only
  split
  · rename_i h
    rw [hb] at h
    simp at h
  · split
    · rename_i h
      exact absurd (v1.symm.trans h) (by decide)
    · split
      · rename_i h
        simp [hx, hy, hl2, Expr.pos, hd] at h
      · split
        · rename_i h
          rw [v2] at h
          cases h
        · split
          · rename_i h
            rw [v3] at h
            cases h
          · simp [hx, hy, hl2, Expr.pos]
theorem stepEsS {α : Type} {κ : Addr → Prop} {ρ : List Addr} {st : Sto} {env : Env} {σ : L2.St} {H : Hp} {D : Ends} {cs : CEs} {f : List CV → Sto → Fl} {Q : List V → Hp → Prop} (S1 : Sit G κ ρ st env σ H) (h : FP G W D κ ρ st H (Fl.ofR env (evEs P F cs env st) f))
    (k : ∀ v s1 x ρ1 H1, Sit G κ ρ1 s1 env σ H1 → RepVs G ρ1 (Live κ ρ1 s1) H1 v x → FP G W D κ ρ1 s1 H1 (f v s1) → Q x H1) : tEs P F G W cs σ H Q :=
  ⟨κ, ρ, st, env, S1, (FP.ofR h S1).imp (fun v s1 q x ρ1 H1 R E r => k v s1 x ρ1 H1 (S1.ext R E) r (FP.mono E q)) fun _ _ _ h => h⟩
theorem ss_par2 {i j : Nat} {x y : Str} {px py pt p2 : Pos} {kt k2 : Nat} {cs : CEs} (hi : okLoc S i x = true) (hj : okLoc S j y = true) (hx : okSw S px.line x px = true) (hy : okSw S px.line y py = true) (hne : x ≠ y) (hv : okVs [a, b] = true) (hes : SEs CX P F G k S [a, b] cs) :
    SSt CX P F G k S (.Assign [.Tuple [.Name x px, .Name y py] kt pt] (.Tuple [a, b] k2 p2) pos) (.par [i, j] cs) := fun X W g => by
  obtain ⟨h1, _, _⟩ := g.loc hi
  obtain ⟨h2, _, _⟩ := g.loc hj
  simp only [okSw, Bool.and_eq_true, decide_eq_true_eq] at hx hy
  have lx := g.sc.loc x hx.1
  have ly := g.sc.loc y hy.1
  have hij : i ≠ j := fun z => hne (by
    subst z
    rw [h1] at h2
    exact Option.some.inj h2)
  refine ⟨fun pins s σ H D I q => ?_⟩
  refine (ps_par g.calm g.nd h1 h2 hij lx ly (hes X W g) (swapped_two I.ok.kind lx ly hy.2 hne hv)).run pins s σ H D I ?_
  obtain ⟨κ, ρ, st, env, S1, h⟩ := q
  refine stepEsS (α := CV) S1 h fun vs s1 xs ρ1 H1 S2 r q => ?_
  cases r with
  | nil => exact q.elim
  | cons r1 r =>
    cases r with
    | nil => exact q.elim
    | cons r2 r =>
      cases r with
      | nil => exact ⟨_, _, rfl, q ρ1 _ H1 ((S2.set r1).set r2) .refl⟩
      | cons r3 r => exact q.elim
theorem swapped_three {x y z : Str} {px py pz pt p2 : Pos} {kt k2 : Nat} {env : PySem.Env} (hk : env.scope.kind = .function) (hx : env.kindOf x = some .local) (hy : env.kindOf y = some .local) (hz : env.kindOf z = some .local) (hl : (py.line == px.line) = true) (hl2 : (pz.line == px.line) = true)
    (n1 : x ≠ y) (n2 : x ≠ z) (n3 : y ≠ z) (hv : okVs [a, b, d] = true) : swappedStores [.Tuple [.Name x px, .Name y py, .Name z pz] kt pt] (.Tuple [a, b, d] k2 p2) env = pure (some [x, y, z]) := by
  obtain ⟨v1, v2, v3⟩ := okVs_of hv
  have hb : env.blockKind = .function := by unfold PySem.Env.blockKind; rw [hk]; rfl
  have hl := beq_iff_eq.mp hl
  have hl2 := beq_iff_eq.mp hl2
  have hd : ([x, y, z] : List Str).eraseDups = [x, y, z] := by
    have e1 : (y == x) = false := beq_eq_false_iff_ne.mpr (Ne.symm n1)
    have e2 : (z == x) = false := beq_eq_false_iff_ne.mpr (Ne.symm n2)
    have e3 : (z == y) = false := beq_eq_false_iff_ne.mpr (Ne.symm n3)
    simp [List.eraseDups_cons, n1, n2, n3, e1, e2, e3]
  unfold swappedStores
  dsimp only
  split
  · rename_i h
    rw [hb] at h
    simp at h
  · split
    · rename_i h
      exact absurd (v1.symm.trans h) (by decide)
    · split
      · rename_i h
        simp [hx, hy, hz, hl, hl2, Expr.pos, hd] at h
      · split
        · rename_i h
          rw [v2] at h
          cases h
        · split
          · rename_i h
            rw [v3] at h
            cases h
          · simp [hx, hy, hz, hl, hl2, Expr.pos]
theorem ss_par3 {i j l : Nat} {x y z : Str} {px py pz pt p2 : Pos} {kt k2 : Nat} {cs : CEs} (hi : okLoc S i x = true) (hj : okLoc S j y = true) (hl : okLoc S l z = true) (hx : okSw S px.line x px = true) (hy : okSw S px.line y py = true) (hz : okSw S px.line z pz = true) (n1 : x ≠ y) (n2 : x ≠ z) (n3 : y ≠ z)
    (hv : okVs [a, b, d] = true) (hes : SEs CX P F G k S [a, b, d] cs) : SSt CX P F G k S (.Assign [.Tuple [.Name x px, .Name y py, .Name z pz] kt pt] (.Tuple [a, b, d] k2 p2) pos) (.par [i, j, l] cs) := fun X W g => by
  obtain ⟨h1, _, _⟩ := g.loc hi
  obtain ⟨h2, _, _⟩ := g.loc hj
  obtain ⟨h3, _, _⟩ := g.loc hl
  simp only [okSw, Bool.and_eq_true, decide_eq_true_eq] at hx hy hz
  have lx := g.sc.loc x hx.1
  have ly := g.sc.loc y hy.1
  have lz := g.sc.loc z hz.1
  have ne : ∀ {i j : Nat} {x y : Str}, X.N[i]? = some x → X.N[j]? = some y → x ≠ y → i ≠ j := fun {i j x y} h1 h2 hne z => hne (by
    subst z
    rw [h1] at h2
    exact Option.some.inj h2)
  refine ⟨fun pins s σ H D I q => ?_⟩
  refine (ps_par3 g.calm g.nd h1 h2 h3 (ne h1 h2 n1) (ne h1 h3 n2) (ne h2 h3 n3) lx ly lz (hes X W g) (swapped_three I.ok.kind lx ly lz hy.2 hz.2 n1 n2 n3 hv)).run pins s σ H D I ?_
  obtain ⟨κ, ρ, st, env, S1, h⟩ := q
  refine stepEsS (α := CV) S1 h fun vs s1 xs ρ1 H1 S2 r q => ?_
  cases r with
  | nil => exact q.elim
  | cons r1 r =>
    cases r with
    | nil => exact q.elim
    | cons r2 r =>
      cases r with
      | nil => exact q.elim
      | cons r3 r =>
        cases r with
        | nil => exact ⟨_, _, _, rfl, q ρ1 _ H1 (((S2.set r1).set r2).set r3) .refl⟩
        | cons r4 r => exact q.elim
/-- name = [..], on one line -/
theorem ss_asgc {bx : Bool} {i : Nat} {y : Str} {py spos : Pos} {scope : Scope} {own : List (Str × Nat)} {t : CT} {ci : CI} {c : CP} {ifs : List Expr} {el : Expr} {ce : CE} (hi : SI CX P F G k S tg it ci) (ht : ST CX P F G k ⟨S.N, scope, false⟩ tg t) (hc : SC CX P F G k ⟨S.N, scope, false⟩ ifs c) (he : SE CX P F G k ⟨S.N, scope, false⟩ el ce)
    (ok : okBlk S scope own t.names = true) (hs : noSet it = true) (hy : okLoc S i y = true) (hyl : S.sc.names.lookup y = some .local) (hln : (py.line == pos.line) = true) (hno : (scope.names.any fun q => q.1 == y && (q.2 == .local || q.2 == .cell)) = false) :
    SSt CX P F G k S (.Assign [.Name y py] (.ListComp el [⟨tg, it, ifs, 0⟩] scope pos) spos) (.asg (.var i) (if bx then .box (.comp ce t ci c) else .comp ce t ci c)) := fun X W g => by
  obtain ⟨ob, o1, o2⟩ := okBlk_ok ok
  rw [← g.N] at ob
  obtain ⟨h1, _, _⟩ := g.loc hy
  have hl := g.sc.loc y hyl
  refine ⟨fun pins s σ H D I q => ?_⟩
  have hsw : swapsWith (.ListComp el [⟨tg, it, ifs, 0⟩] scope pos) (some (.Name y py)) spos.line X.env = pure true := by
    unfold swapsWith
    dsimp only
    have hb : X.env.blockKind = .function := by unfold PySem.Env.blockKind; rw [I.ok.kind]; rfl
    have hk : X.env.kindOf y = some .local := hl
    have hno2 : (scope.names.any fun x => match x with
      | (n, k) => n == y && (k == .local || k == .cell)) = false := hno
    show pure (X.env.blockKind == .function && X.env.kindOf y == some .local && py.line == pos.line && !(scope.names.any fun x => match x with
      | (n, k) => n == y && (k == .local || k == .cell))) = _
    rw [hb, hk, hln, hno2]
    rfl
  refine (ps_setLc g.calm g.nd h1 hl hsw (hi X W g) (BlkOk.sc ob g.sc) (fun s H C cl fp => ht _ _ (g.blk scope s H C cl fp)) (fun s H C cl fp => hc _ _ (g.blk scope s H C cl fp)) (fun s H C cl fp => (he.pe (g.blk scope s H C cl fp))) (fold_plain hs)).run pins s σ H D I ?_
  refine comp_key (W := W) (bx := bx) o1 o2 ?_
  obtain ⟨κ, ρ, st, env, S1, h⟩ := q
  refine ⟨κ, ρ, st, env, S1, ?_⟩
  cases bx with
  | false =>
    refine (FP.ofR (show FP G W D κ ρ st H (Fl.ofR env (evE P F (.comp ce t ci c) env st) fun v s1 => (evT P F (.var i) v env s1).only) from h) S1).imp (fun v s1 q x ρ1 H1 R E r => ?_) fun _ _ _ h => h
    exact FP.mono E q ρ1 _ H1 ((S1.ext R E).set r) .refl
  | true =>
    have h : FP G W D κ ρ st H (Fl.ofR env ((evE P F (.comp ce t ci c) env st).bind fun x s1 => match boxed x s1 with
      | some (v, s2) => .ok v s2
      | none => .err) fun v s1 => (evT P F (.var i) v env s1).only) := h
    refine (stepR (FP.ofR h S1)).imp (fun v s1 q => ?_) fun _ _ _ h => h
    unfold BP
    dsimp only
    cases hb : boxed v s1 with
    | none => rw [hb] at q; exact q.elim
    | some w =>
      obtain ⟨v2, s2⟩ := w
      rw [hb] at q
      exact fun x ρ1 H1 R E r => FP.mono (W := W) E (x := .nx (setV env i v2) s2) q ρ1 _ H1 ((S1.ext R E).set r) .refl
/-- a value made a place; a place's value that no one changes any more -/
theorem se_box (ha : SE CX P F G k S a ca) (hf : fresh ca = true) (he : ∀ (env : PySem.Env) (whole : Sem Value), isTrue a env whole = (do let v ← whole; standAt a.pos; holding [v] (truthy v))) : SE CX P F G k S a (.box ca) := .val he fun X W g bx hb => by
  cases nofresh hb rfl
  refine ((ha X W g).1 true fun _ => hf).imp fun σ H Q ⟨κ, ρ, st, env, S1, h⟩ => ⟨κ, ρ, st, env, S1, (stepR h).imp (fun v s1 q => ?_) fun _ _ _ h => h⟩
  unfold BP
  dsimp only
  cases hb : boxed v s1 with
  | none => rw [hb] at q; exact q.elim
  | some w => rw [hb] at q; exact q
end
section
variable {G : Wd} {κ : Addr → Prop} {ρ : List Addr} {st : Sto} {H : Hp}
theorem RepDs.vals {L : Addr → Prop} : ∀ {xs : List (CV × CV)} {vs : List (Key × V)}, RepDs G ρ L H xs vs → RepVs G ρ L H (xs.map (·.2)) (vs.map (·.2))
  | _, _, .nil => .nil
  | _, _, .cons _ h r => .cons h r.vals
theorem RepTs.vals {L : Addr → Prop} : ∀ {xs : List (CV × CV)} {vs : List (List Key × V)}, RepTs G ρ L H xs vs → RepVs G ρ L H (xs.map (·.2)) (vs.map (·.2))
  | _, _, .nil => .nil
  | _, _, .cons _ h r => .cons h r.vals
theorem RepDs.with {L L' : Addr → Prop} : ∀ {xs : List (CV × CV)} {vs : List (Key × V)} {ys : List CV}, RepDs G ρ L H xs vs → RepVs G ρ L' H ys (vs.map (·.2)) → RepDs G ρ L' H ((xs.map (·.1)).zip ys) vs
  | _, _, _, .nil, .nil => .nil
  | _, _, _, .cons k _ r, .cons h q => .cons k h (r.with q)
theorem RepTs.with {L L' : Addr → Prop} : ∀ {xs : List (CV × CV)} {vs : List (List Key × V)} {ys : List CV}, RepTs G ρ L H xs vs → RepVs G ρ L' H ys (vs.map (·.2)) → RepTs G ρ L' H ((xs.map (·.1)).zip ys) vs
  | _, _, _, .nil, .nil => .nil
  | _, _, _, .cons k _ r, .cons h q => .cons k h (r.with q)
theorem frozen_ok : ∀ (n : Nat) (st : Sto) (v v' : CV) (st' : Sto) (x : V), HRel G κ ρ st H → RepV G ρ (Live κ ρ st) H v x → frozen n v st = some (v', st') → HRel G κ ρ st' H ∧ Ext κ ρ st H ρ st' H ∧ RepV G ρ (Live κ ρ st') H v' x
  | 0, _, _, _, _, _, _, _, h => by cases h
  | n + 1, st, v, v', st', x, R, r, h => by
    have list : ∀ (xs : List CV) (st : Sto) (ys : List CV) (st' : Sto) (vs : List V), HRel G κ ρ st H → RepVs G ρ (Live κ ρ st) H xs vs → frozen.frozenL (frozen n) xs st = some (ys, st') → HRel G κ ρ st' H ∧ Ext κ ρ st H ρ st' H ∧ RepVs G ρ (Live κ ρ st') H ys vs := by
      intro xs
      induction xs with
      | nil => intro st ys st' vs R r h; cases r; cases h; exact ⟨R, .refl, .nil⟩
      | cons x xs ih =>
        intro st ys st' vs R r h
        cases r with
        | cons h1 r =>
          unfold frozen.frozenL at h
          obtain ⟨⟨y, s1⟩, e1, h⟩ := Option.bind_eq_some_iff.mp h
          obtain ⟨⟨zs, s2⟩, e2, h⟩ := Option.map_eq_some_iff.mp h
          cases h
          obtain ⟨R1, E1, r1⟩ := frozen_ok n st x y s1 _ R h1 e1
          obtain ⟨R2, E2, r2⟩ := ih s1 zs _ _ R1 (r.ext E1) e2
          exact ⟨R2, E1.trans E2, .cons (r1.ext E2) r2⟩
    unfold frozen at h
    split at h
    · rename_i l
      cases r with
      | loc hp =>
        split at h
        · rename_i xs ho
          obtain ⟨⟨ys, s⟩, e, h⟩ := Option.map_eq_some_iff.mp h
          cases h
          obtain ⟨vs, hv, rv⟩ := R.obj l _ _ hp ho
          obtain ⟨R2, E2, r2⟩ := list xs (st.set l .gone) ys _ vs (rel_gone R) (rv.ext ext_gone) e
          have nl : ¬ Live κ ρ (st.set l .gone) _ := fun z => by
            rcases z with z | z
            · exact (R.hid _ z).2 ⟨_, _, hp, ho, rfl⟩
            · exact not_live_gone R hp z
          exact ⟨R2, ext_gone.trans E2, .lst (E2.keep _ _ hv nl).1 (E2.keep _ _ hv nl).2 r2⟩
        · rename_i t kvs ho
          obtain ⟨⟨ys, s⟩, e, h⟩ := Option.map_eq_some_iff.mp h
          cases h
          have nl : ¬ Live κ ρ (st.set l .gone) _ := fun z => by
            rcases z with z | z
            · exact (R.hid _ z).2 ⟨_, _, hp, ho, rfl⟩
            · exact not_live_gone R hp z
          cases t with
          | false =>
            obtain ⟨vs, hv, rv⟩ := R.obj l _ _ hp ho
            obtain ⟨R2, E2, r2⟩ := list _ (st.set l .gone) ys _ _ (rel_gone R) (rv.vals.ext ext_gone) e
            exact ⟨R2, ext_gone.trans E2, .dicK (E2.keep _ _ hv nl).1 (E2.keep _ _ hv nl).2 (rv.with r2)⟩
          | true =>
            obtain ⟨vs, hv, rv⟩ := R.obj l _ _ hp ho
            obtain ⟨R2, E2, r2⟩ := list _ (st.set l .gone) ys _ _ (rel_gone R) (rv.vals.ext ext_gone) e
            exact ⟨R2, ext_gone.trans E2, .dicT (E2.keep _ _ hv nl).1 (E2.keep _ _ hv nl).2 (rv.with r2)⟩
        · cases h
    · cases h
      exact ⟨R, .refl, r⟩
end
section
variable {CX : CXT} {P : Prog} {F : Fns} {G : Wd} {k : Nat} {S : Cst} {W : WX} {X : Cx} {e a b d tg it : Expr} {c ca cb cd : CE} {pos : Pos}
theorem se_frz (ha : SE CX P F G k S a ca) (he : ∀ (env : PySem.Env) (whole : Sem Value), isTrue a env whole = (do let v ← whole; standAt a.pos; holding [v] (truthy v))) : SE CX P F G k S a (.frz ca) := .val he fun X W g bx hb => by
  cases nofresh hb rfl
  refine (ha.pe g).imp fun σ H Q ⟨κ, ρ, st, env, S1, h⟩ => ⟨κ, ρ, st, env, S1, (stepR h).imp (fun v s1 q x ρ1 H1 R E r => ?_) fun _ _ _ h => h⟩
  cases hb : frozen 9 v s1 with
  | none => rw [hb] at q; exact q.elim
  | some w =>
    obtain ⟨v2, s2⟩ := w
    rw [hb] at q
    obtain ⟨R2, E2, r2⟩ := frozen_ok 9 s1 v v2 s2 x R r hb
    exact q x ρ1 H1 R2 (E.trans E2) r2
end
end MP
end MPv_text

section MPva_text
set_option Elab.async false
set_option linter.all false
set_option maxRecDepth 100000
/-! name = {k: v for ..}, on one line. -/
namespace MP
open PySem PySem.Spec PyProof.Rows L2
theorem ps_setD {X : Cx} {i : Nat} {y : Str} {py : Pos} {kx vx tg iter : Expr} {scope : Scope} {own : List (Str × Nat)} {pos spos : Pos} {wi : TI} {g : TG} {tk tv : TE} (calm : X.calm = true) (nd : X.N.Nodup) (hy : X.N[i]? = some y) (hyl : X.env.scope.names.lookup y = some .local)
    (sw : swapsWith (.DictComp kx vx [⟨tg, iter, [], 0⟩] scope pos) (some (.Name y py)) spos.line X.env = pure true) (hi : PI X tg iter wi) (ok : BlkOk X.N X.env.scope scope own)
    (hg : ∀ (a : Shared) (H : Hp) (C : Addr) (cl : List (Str × Addr)) (fp : List Addr), PG (X.blk a H scope (compEnvC scope cl C X.env) fp) tg g)
    (hk : ∀ (a : Shared) (H : Hp) (C : Addr) (cl : List (Str × Addr)) (fp : List Addr), PE (X.blk a H scope (compEnvC scope cl C X.env) fp) kx tk)
    (hv : ∀ (a : Shared) (H : Hp) (C : Addr) (cl : List (Str × Addr)) (fp : List Addr), PE (X.blk a H scope (compEnvC scope cl C X.env) fp) vx tv) (fold : ∀ x, foldedSetIterable iter X.env x = pure x) :
    PS X (.Assign [.Name y py] (.DictComp kx vx [⟨tg, iter, [], 0⟩] scope pos) spos) (tAsg (tDc wi g tYes tk tv (own.map (·.2))) (gName i)) := by
  refine ⟨fun pn z τ H D I q => ?_⟩
  rw [exec_Assign_Name_used _ _ _ _ sw]
  refine wpAny_bind (wpAny_standAt (wpAny_bind ?_))
  show wpAny _ X.A (do let _ ← comprehension (.DictComp kx vx [⟨tg, iter, [], 0⟩] scope pos) scope X.env (firstIterPos [⟨tg, iter, [], 0⟩] pos) newDict false (eval iter X.env) (some (assign (.Name y py) X.env))) _ _ z
  have q : tDc wi g tYes tk tv (own.map (·.2)) τ H (fun x H1 => gName i x τ H1 D.nx) := q
  refine wpAny_bind (thn (dc_core (Qf := fun _ s' => L2.SP X pn D .next s') calm nd I hi ok hg (fun _ _ _ _ _ => pts_nil) hk hv fold q fun M C z1 m H1 I1 q1 hn f => ?_) fun _ z1 h1 => wpAny_pure (wpAny_pure h1))
  show wpAny _ _ (assign (.Name y py) X.env (.ref M)) _ _ _
  refine wpAny_assign_Name (store_ok2 (v := V.ref M) I1 nd hy (.inl hyl) rfl (fun z2 I2 ⟨a, sb, ha⟩ => ?_) (.inr hyl))
  obtain ⟨e0, e1, e2, e3, e4, e5⟩ := f
  have ne : C ≠ a := by
    rcases ha with h | h
    · rw [h]; exact e1
    · exact fun e => e4 y a h e.symm
  refine ⟨m, hn.sameBut sb ne, fun h3 sb3 => ?_⟩
  exact ⟨_, H1, I2.turned (t' := z2.toks) (fun b o hb e => (sb3.2 b hb).trans e) e0 e1 e3 e4 e5, q1⟩
section
variable {CX : CXT} {P : Prog} {F : Fns} {G : Wd} {k : Nat} {S : Cst} {a b tg it : Expr} {ca cb : CE} {pos : Pos}
theorem ss_asgd {bx : Bool} {i : Nat} {y : Str} {py spos : Pos} {scope : Scope} {own : List (Str × Nat)} {t : CT} {ci : CI} {ck cv : CE} (hi : SI CX P F G k S tg it ci) (ht : ST CX P F G k ⟨S.N, scope, false⟩ tg t) (hk : SE CX P F G k ⟨S.N, scope, false⟩ a ck) (hv : SE CX P F G k ⟨S.N, scope, false⟩ b cv)
    (ok : okBlk S scope own t.names = true) (hs : noSet it = true) (hy : okLoc S i y = true) (hyl : S.sc.names.lookup y = some .local) (hln : (py.line == pos.line) = true) (hno : (scope.names.any fun q => q.1 == y && (q.2 == .local || q.2 == .cell)) = false) :
    SSt CX P F G k S (.Assign [.Name y py] (.DictComp a b [⟨tg, it, [], 0⟩] scope pos) spos) (.asg (.var i) (if bx then .box (.dcomp false ck cv t ci) else .dcomp false ck cv t ci)) := fun X W g => by
  obtain ⟨ob, o1, o2⟩ := okBlk_ok ok
  rw [← g.N] at ob
  obtain ⟨h1, _, _⟩ := g.loc hy
  have hl := g.sc.loc y hyl
  refine ⟨fun pins s σ H D I q => ?_⟩
  have hsw : swapsWith (.DictComp a b [⟨tg, it, [], 0⟩] scope pos) (some (.Name y py)) spos.line X.env = pure true := by
    unfold swapsWith
    dsimp only
    have hb : X.env.blockKind = .function := by unfold PySem.Env.blockKind; rw [I.ok.kind]; rfl
    have hk : X.env.kindOf y = some .local := hl
    have hno2 : (scope.names.any fun x => match x with
      | (n, k) => n == y && (k == .local || k == .cell)) = false := hno
    show pure (X.env.blockKind == .function && X.env.kindOf y == some .local && py.line == pos.line && !(scope.names.any fun x => match x with
      | (n, k) => n == y && (k == .local || k == .cell))) = _
    rw [hb, hk, hln, hno2]
    rfl
  refine (ps_setD g.calm g.nd h1 hl hsw (hi X W g) (BlkOk.sc ob g.sc) (fun s H C cl fp => ht _ _ (g.blk scope s H C cl fp)) (fun s H C cl fp => (hk.pe (g.blk scope s H C cl fp))) (fun s H C cl fp => (hv.pe (g.blk scope s H C cl fp))) (fold_plain hs)).run pins s σ H D I ?_
  refine dcomp_keyK (W := W) (bx := bx) o1 o2 ?_
  obtain ⟨κ, ρ, st, env, S1, h⟩ := q
  refine ⟨κ, ρ, st, env, S1, ?_⟩
  cases bx with
  | false =>
    refine (FP.ofR (show FP G W D κ ρ st H (Fl.ofR env (evE P F (.dcomp false ck cv t ci) env st) fun v s1 => (evT P F (.var i) v env s1).only) from h) S1).imp (fun v s1 q x ρ1 H1 R E r => ?_) fun _ _ _ h => h
    exact FP.mono E q ρ1 _ H1 ((S1.ext R E).set r) .refl
  | true =>
    have h : FP G W D κ ρ st H (Fl.ofR env ((evE P F (.dcomp false ck cv t ci) env st).bind fun x s1 => match boxed x s1 with
      | some (v, s2) => .ok v s2
      | none => .err) fun v s1 => (evT P F (.var i) v env s1).only) := h
    refine (stepR (FP.ofR h S1)).imp (fun v s1 q => ?_) fun _ _ _ h => h
    unfold BP
    dsimp only
    cases hb : boxed v s1 with
    | none => rw [hb] at q; exact q.elim
    | some w =>
      obtain ⟨v2, s2⟩ := w
      rw [hb] at q
      exact fun x ρ1 H1 R E r => FP.mono (W := W) E (x := .nx (setV env i v2) s2) q ρ1 _ H1 ((S1.ext R E).set r) .refl
end
end MP
end MPva_text

section MZa_text
set_option Elab.async false
set_option linter.all false
set_option maxRecDepth 100000
set_option maxHeartbeats 1000000
/-! zip of three lists, held by a name, walked later. -/
namespace MP
open PySem PySem.Spec PyProof.Rows L2
/-- an object as it is, younger than n -/
def objO (n : Nat) (a : Addr) (o : Obj) : HO := .ext fun h => h.get? a = some o ∧ n ≤ a
/-- more is tracked -/
def lay (n m : Nat) (os : List Obj) (H : Hp) : Hp := fun b => if m ≤ b then (match os[b - m]? with
  | some o => some (objO n b o)
  | none => H b) else H b
/-- and no more -/
def unlay (m k : Nat) (H : Hp) : Hp := fun b => if m ≤ b ∧ b < m + k then none else H b
theorem lay_at {n m : Nat} {os : List Obj} {H : Hp} {j : Nat} {o : Obj} (h : os[j]? = some o) : lay n m os H (m + j) = some (objO n (m + j) o) := by
  unfold lay
  rw [if_pos (Nat.le_add_right _ _), Nat.add_sub_cancel_left, h]
theorem lay_out {n m : Nat} {os : List Obj} {H : Hp} {b : Addr} (h : b < m ∨ m + os.length ≤ b) : lay n m os H b = H b := by
  unfold lay
  rcases h with h | h
  · rw [if_neg (Nat.not_le_of_lt h)]
  · rw [if_pos (Nat.le_trans (Nat.le_add_right _ _) h)]
    have : os[b - m]? = none := List.getElem?_eq_none_iff.mpr (Nat.le_sub_of_add_le (by rw [Nat.add_comm]; exact h))
    rw [this]
theorem in_lay {m k : Nat} {b : Addr} (h : ¬ (b < m ∨ m + k ≤ b)) : ∃ j, j < k ∧ b = m + j := by
  rw [not_or] at h
  have h1 := Nat.le_of_not_lt h.1
  have h2 := Nat.lt_of_not_le h.2
  exact ⟨b - m, Nat.sub_lt_left_of_lt_add h1 h2, (Nat.add_sub_cancel' h1).symm⟩
theorem lay_old {n m : Nat} {os : List Obj} {H : Hp} (hf : ∀ j, j < os.length → H (m + j) = none) {b : Addr} {o : HO} (e : H b = some o) : lay n m os H b = some o := by
  rw [lay_out, e]
  exact Classical.byContradiction fun q => by
    obtain ⟨j, hj, rfl⟩ := in_lay q
    rw [hf j hj] at e
    cases e
theorem unlay_lay {n m k : Nat} {os : List Obj} {H : Hp} (hl : os.length = k) (hf : ∀ j, j < k → H (m + j) = none) : unlay m k (lay n m os H) = H := by
  funext b
  unfold unlay
  by_cases h : m ≤ b ∧ b < m + k
  · rw [if_pos h]
    have := hf (b - m) (Nat.sub_lt_left_of_lt_add h.1 h.2)
    rw [Nat.add_sub_cancel' h.1] at this
    exact this.symm
  · rw [if_neg h]
    refine lay_out ?_
    rw [hl]
    exact Classical.byContradiction fun q => by
      obtain ⟨j, hj, rfl⟩ := in_lay q
      exact h ⟨Nat.le_add_right _ _, Nat.add_lt_add_left hj m⟩
section
variable {X : Cx} {pins : List (Addr × Obj)} {σ : L2.St} {H H' : Hp} {s : Shared}
/-- what stands already is tracked from now on -/
theorem Inv_lay (I : L2.Inv X pins σ H s) {m : Nat} {os : List Obj} (hn : X.s_0.heap.objs.size ≤ m) (hf : ∀ j, j < os.length → FpOk X pins H (m + j)) (hs : ∀ j o, os[j]? = some o → s.heap.get? (m + j) = some o) :
    L2.Inv X pins σ (lay X.s_0.heap.objs.size m os H) s := by
  have hf0 : ∀ j, j < os.length → H (m + j) = none := fun j hj => (hf j hj).1
  have sm : ∀ b, H b = none → (∀ j, j < os.length → b ≠ m + j) → lay X.s_0.heap.objs.size m os H b = none := fun b hb hne => by
    rw [lay_out, hb]
    exact Classical.byContradiction fun q => by
      obtain ⟨j, hj, e⟩ := in_lay q
      exact hne j hj e
  refine ⟨I.ok, I.os, I.bare, ⟨I.base.keep, I.base.slot, fun b o e n hx => sm b (I.base.free b o e n hx) fun j hj z => ?_, I.base.there, fun b xs e => lay_old hf0 (I.base.tups b xs e), fun b o u e => lay_old hf0 (I.base.frzs b o u e), fun b ps e => ?_⟩, I.loc, I.cell, sm _ I.free fun j hj z => (hf j hj).2.1 z.symm, fun x c e => sm c (I.freeC x c e) fun j hj z => (hf j hj).2.2.2.2.1 x c e z, fun p hp => ?_, fun b u e => ?_, I.len⟩
  · have := Heap.lt_size e
    rw [z] at this
    exact absurd (Nat.lt_of_lt_of_le this (Nat.le_trans hn (Nat.le_add_right _ _))) (Nat.lt_irrefl _)
  · obtain ⟨more, z⟩ := I.base.tbls b ps e
    exact ⟨more, lay_old hf0 z⟩
  · obtain ⟨a1, a2, a3, a4, a5⟩ := I.pin p hp
    exact ⟨a1, sm _ a2 fun j hj z => (hf j hj).2.2.2.2.2 p hp z, a3, a4, a5⟩
  · by_cases hb : b < m ∨ m + os.length ≤ b
    · rw [lay_out hb] at e
      exact (I.hok b u e).stay (fun _ _ _ z => z) (fun c z => lay_old hf0 z) fun c xs z => lay_old hf0 z
    · obtain ⟨j, hj, rfl⟩ := in_lay hb
      rw [lay_at (List.getElem?_eq_getElem hj)] at e
      cases e
      have e1 := hs j _ (List.getElem?_eq_getElem hj)
      exact ⟨⟨e1, Nat.le_trans hn (Nat.le_add_right _ _)⟩, ⟨_, e1⟩, fun h1 h2 ⟨p, q⟩ k => ⟨k _ p, q⟩⟩
/-- .. is tracked no more -/
theorem Inv_unlay (I : L2.Inv X pins σ H s) {n m : Nat} {os : List Obj} (hl : ∀ j o, os[j]? = some o → H (m + j) = some (objO n (m + j) o)) (hn : n = X.s_0.heap.objs.size) :
    L2.Inv X pins σ (unlay m os.length H) s ∧ (∀ j, j < os.length → FpOk X pins (unlay m os.length H) (m + j)) ∧ ∀ j o, os[j]? = some o → s.heap.get? (m + j) = some o := by
  have at_ : ∀ b, m ≤ b ∧ b < m + os.length → ∃ o, os[b - m]? = some o ∧ H b = some (objO n b o) := fun b h => by
    have hj : b - m < os.length := Nat.sub_lt_left_of_lt_add h.1 h.2
    have := hl (b - m) _ (List.getElem?_eq_getElem hj)
    rw [Nat.add_sub_cancel' h.1] at this
    exact ⟨_, List.getElem?_eq_getElem hj, this⟩
  have none_ : ∀ b, H b = none → unlay m os.length H b = none := fun b hb => by
    unfold unlay
    split
    · rfl
    · exact hb
  have some_ : ∀ b u, H b = some u → (∀ o, u ≠ objO n b o) → unlay m os.length H b = some u := fun b u hb hu => by
    unfold unlay
    split
    · rename_i h
      obtain ⟨o, _, e⟩ := at_ b h
      rw [hb] at e
      exact absurd (Option.some.inj e) (hu o)
    · exact hb
  have in_ : ∀ j, j < os.length → ∃ o, s.heap.get? (m + j) = some o ∧ n ≤ m + j ∧ os[j]? = some o := fun j hj => by
    have e := hl j _ (List.getElem?_eq_getElem hj)
    obtain ⟨⟨e1, e2⟩, _⟩ := I.hok _ _ e
    exact ⟨_, e1, e2, List.getElem?_eq_getElem hj⟩
  refine ⟨⟨I.ok, I.os, I.bare, ⟨I.base.keep, I.base.slot, fun b o e q hx => none_ b (I.base.free b o e q hx), I.base.there, fun b xs e => some_ _ _ (I.base.tups b xs e) fun o z => (by cases z), fun b o u e => some_ _ _ (I.base.frzs b o u e) fun o z => (by cases z), fun b ps e => ?_⟩, I.loc, I.cell, none_ _ I.free, fun x c e => none_ c (I.freeC x c e), fun p hp => ?_, fun b u e => ?_, I.len⟩, fun j hj => ?_, fun j o e => ?_⟩
  · obtain ⟨more, z⟩ := I.base.tbls b ps e
    exact ⟨more, some_ _ _ z fun o q => (by cases q)⟩
  · obtain ⟨a1, a2, a3, a4, a5⟩ := I.pin p hp
    exact ⟨a1, none_ _ a2, a3, a4, a5⟩
  · unfold unlay at e
    split at e
    · cases e
    · exact (I.hok b u e).stay (fun _ _ _ z => z) (fun c z => some_ _ _ z fun o q => (by cases q)) fun c xs z => some_ _ _ z fun o q => (by cases q)
  · obtain ⟨o, e1, e2, e3⟩ := in_ j hj
    have eH := hl j o e3
    refine ⟨?_, fun z => ?_, fun z => ?_, .inr (by rw [← hn]; exact e2), fun x c e z => ?_, fun p hp z => ?_⟩
    · unfold unlay
      rw [if_pos ⟨Nat.le_add_right _ _, Nat.add_lt_add_left hj m⟩]
    · have := I.free
      rw [← z, eH] at this
      cases this
    · obtain ⟨_, o2, ho2, _⟩ := I.ok.funs.mem z
      have := Heap.lt_size ho2
      rw [← hn] at this
      exact absurd (Nat.lt_of_lt_of_le this e2) (Nat.lt_irrefl _)
    · have := I.freeC x c e
      rw [z, eH] at this
      cases this
    · have := (I.pin p hp).2.1
      rw [z, eH] at this
      cases this
  · have eH := hl j o e
    exact (I.hok _ _ eH).1.1
end
end MP
end MZa_text

section MZb_text
set_option Elab.async false
set_option linter.all false
set_option maxRecDepth 100000
set_option maxHeartbeats 1000000
/-! zip of three lists: made, walked. -/
namespace MP
open PySem PySem.Spec PyProof.Rows L2
/-- three lists, item by item, in new triples -/
def Itz3 (K : PySem.W.Frag) (a b c : Addr) : It :=
  ⟨fun i H => ∃ (xs ys zs : List V) (x y z : V), SqL K H a xs ∧ SqL K H b ys ∧ SqL K H c zs ∧ xs[i]? = some x ∧ ys[i]? = some y ∧ zs[i]? = some z,
    fun i H v H' => ∃ T x y z, v = .ref T ∧ H T = none ∧ H' = upd H T (.tup [x, y, z]) ∧ (∀ xs, SqL K H a xs → xs[i]? = some x) ∧ (∀ ys, SqL K H b ys → ys[i]? = some y) ∧ ∀ zs, SqL K H c zs → zs[i]? = some z,
    fun i H => ∃ xs ys zs : List V, SqL K H a xs ∧ SqL K H b ys ∧ SqL K H c zs ∧ i ≤ xs.length ∧ i ≤ ys.length ∧ i ≤ zs.length ∧ (i = xs.length ∨ i = ys.length ∨ i = zs.length)⟩
theorem inj_of {K : PySem.W.Frag} {X : Cx} {pins : List (Addr × Obj)} {σ : L2.St} {H : Hp} {s : Shared} (I : L2.Inv X pins σ H s) {a : Addr} {xs ys : List V} (h1 : SqL X.K H a xs) (h2 : SqL X.K H a ys) : xs = ys := I.list_inj h1 h2
/-- its cells -/
abbrev cells3 (m : Nat) : List Addr := [m + 5, m + 3, m + 4, m, m + 1, m + 2]
def At3 (m : Nat) (a b c : Addr) (i : Nat) (h : Heap) : Prop := IsZip h (m + 5) (m + 3) (m + 4) .none ∧ IsTupOf3 h (m + 3) (.ref m) (.ref (m + 1)) (.ref (m + 2)) ∧ (∃ x y z, IsTupOf3 h (m + 4) x y z) ∧ h.IsListIter m a i ∧ h.IsListIter (m + 1) b i ∧ h.IsListIter (m + 2) c i
theorem sep3 {m a b c : Nat} (ha : a < m) (hb : b < m) (hc : c < m) : ZipSep3 (m + 5) (m + 3) (m + 4) m (m + 1) (m + 2) [m, a] [m + 1, b] [m + 2, c] := by
  constructor <;> first
    | (simp; done)
    | (intro e; have e' : @Eq Nat _ _ := e; omega)
    | (intro e
       simp only [List.mem_cons, List.not_mem_nil, or_false] at e
       rcases e with e | e <;> (have e' : @Eq Nat _ _ := e; omega))
theorem ne_nat {a b : Nat} (h : a < b ∨ b < a) : (show Addr from a) ≠ (show Addr from b) := fun e => by
  have e' : @Eq Nat a b := e
  omega
theorem cell_le {m : Nat} {q : Addr} (hq : q ∈ cells3 m) : ∃ k, k ≤ 5 ∧ q = m + k := by
  simp only [List.mem_cons, List.not_mem_nil, or_false] at hq
  rcases hq with h | h | h | h | h | h
  · exact ⟨5, by decide, h⟩
  · exact ⟨3, by decide, h⟩
  · exact ⟨4, by decide, h⟩
  · exact ⟨0, by decide, h⟩
  · exact ⟨1, by decide, h⟩
  · exact ⟨2, by decide, h⟩
section
variable {X : Cx} {pins : List (Addr × Obj)} {σ : L2.St} {H : Hp} {s : Shared} {h' : Heap}
/-- many cells turned, nothing else -/
theorem turned_many {t' : Nat} {ch : List Addr} (I : L2.Inv X pins σ H s) (k : ∀ b o, b ∉ ch → s.heap.get? b = some o → h'.get? b = some o) (hf : ∀ b ∈ ch, FpOk X pins H b) :
    L2.Inv X pins σ H { s with heap := h', toks := t' } := by
  have nit : ∀ b u, H b = some u → b ∉ ch := fun b u e z => by
    have q := (hf b z).1
    rw [q] at e; cases e
  refine I.step (g' := s.gens) (d' := s.drawn) (ch := ch) (fun b hb => ⟨(hf b hb).2.2.2.1, (hf b hb).2.1, (hf b hb).2.2.2.2.1, (hf b hb).2.2.2.2.2⟩) (fun b o _ _ hc e _ => k b o hc e) (fun b o _ _ hc e _ => ⟨o.slots, k b o hc e⟩)
    (fun _ _ _ _ n => n) (fun b o hc e => ⟨o, k b o hc e⟩) (fun _ _ e => e) (fun _ _ _ e => e) (fun b ps e => ⟨#[], by rw [e]; simp⟩) (fun m hm => ?_) (fun b u e => ?_) I.bare
  · obtain ⟨o, es, ep, ho, r⟩ := hm
    exact ⟨o, es, ep, k _ o (fun z => (hf _ z).2.1 rfl) ho, r⟩
  · refine (I.hok b u e).stay (fun c v hc q => k c v ?_ q) (fun _ q => q) fun _ _ q => q
    rcases hc with z | z
    · rw [z]; exact nit b u e
    · exact nit c _ z
end
theorem turn_zip3 {P1 : Program} {w1 : World} {K : PySem.W.Frag} {elts : List Expr} {kk : Nat} {tpos : Pos} {m a b c : Nat} (ha : a < m) (hb : b < m) (hc : c < m) : Turn P1 w1 K (.Tuple elts kk tpos) (Itz3 K a b c) (cells3 m) (m + 5) (At3 m a b c) where
  mem := by simp
  obj := fun i h st q hq => by
    obtain ⟨h1, h2, ⟨x, y, z, h3⟩, ⟨o4, e4, _, d4⟩, ⟨o5, e5, _, d5⟩, ⟨o6, e6, _, d6⟩⟩ := st
    simp only [List.mem_cons, List.not_mem_nil, or_false] at hq
    rcases hq with rfl | rfl | rfl | rfl | rfl | rfl
    · exact ⟨_, h1, fun v q => nomatch q⟩
    · exact ⟨_, h2, fun v q => nomatch q⟩
    · exact ⟨_, h3, fun v q => nomatch q⟩
    · exact ⟨o4, e4, fun v q => by rw [d4] at q; cases q⟩
    · exact ⟨o5, e5, fun v q => by rw [d5] at q; cases q⟩
    · exact ⟨o6, e6, fun v q => by rw [d6] at q; cases q⟩
  keep := fun i h h' st k => by
    obtain ⟨h1, h2, ⟨x, y, z, h3⟩, h4, h5, h6⟩ := st
    exact ⟨k _ (by simp) _ h1, k _ (by simp) _ h2, ⟨x, y, z, k _ (by simp) _ h3⟩, h4.at fun o q => k _ (by simp) o q, h5.at fun o q => k _ (by simp) o q, h6.at fun o q => k _ (by simp) o q⟩
  item := by
    intro X hP hw hK hcm i pins s σ H E I hf st hg
    subst hP hw hK
    obtain ⟨h1, h2, ⟨x0, y0, z0, h3⟩, h4, h5, h6⟩ := st
    obtain ⟨xs, ys, zs, x, y, z, qx, qy, qz, ix, iy, iz⟩ := hg
    obtain ⟨is1, r1, p1, _⟩ := I.list qx
    obtain ⟨is2, r2, p2, _⟩ := I.list qy
    obtain ⟨is3, r3, p3, _⟩ := I.list qz
    obtain ⟨u1, g1, v1⟩ := r1.get ix
    obtain ⟨u2, g2, v2⟩ := r2.get iy
    obtain ⟨u3, g3, v3⟩ := r3.get iz
    have hd : X.A.in1.handled = none := by simpa using I.ok.hd hcm
    have zl : m + 5 < s.heap.objs.size := Heap.lt_size h1
    have mem6 : ∀ q, q ∈ cells3 m → q < s.heap.objs.size := fun q hq => by
      obtain ⟨k, hk, rfl⟩ := cell_le hq
      exact Nat.lt_of_le_of_lt (Nat.add_le_add_left hk m) zl
    refine wpAny_pyNext_zipD3_item (sep3 ha hb hc) (Draws.list hd m a (ne_nat (by omega)) is1.toArray) (Draws.list hd (m + 1) b (ne_nat (by omega)) is2.toArray) (Draws.list hd (m + 2) c (ne_nat (by omega)) is3.toArray) h1 h2 h3 (i := i) ⟨h4, p1.isList⟩ ⟨h5, p2.isList⟩ ⟨h6, p3.isList⟩
      (by have := (List.getElem?_eq_some_iff.mp g1).1; simpa using this) (by have := (List.getElem?_eq_some_iff.mp g2).1; simpa using this) (by have := (List.getElem?_eq_some_iff.mp g3).1; simpa using this)
      fun w1 w2 w3 h' tk e1 e2 e3 hz hO s1 s2 s3 hT hsz hk => ?_
    have f1 : w1 = u1 := by
      have e1 : is1.toArray[i]? = some w1 := e1
      rw [List.getElem?_toArray, g1] at e1
      exact (Option.some.inj e1).symm
    have f2 : w2 = u2 := by
      have e2 : is2.toArray[i]? = some w2 := e2
      rw [List.getElem?_toArray, g2] at e2
      exact (Option.some.inj e2).symm
    have f3 : w3 = u3 := by
      have e3 : is3.toArray[i]? = some w3 := e3
      rw [List.getElem?_toArray, g3] at e3
      exact (Option.some.inj e3).symm
    subst f1 f2 f3
    refine ⟨_, rfl, wpAny_letOwnedTupleGo_zip (s := { s with heap := h', toks := tk }) hz fun h3' z3 sb => ?_⟩
    have hT3 : h3'.get? s.heap.objs.size = some { cls := .type "tuple", data := .seq #[w1, w2, w3] } := (sb.2 _ (Nat.ne_of_gt zl)).trans hT
    have fresh : ObjOk X.prog X.w (upd H s.heap.objs.size (.tup [x, y, z])) h3' s.heap.objs.size (.tup [x, y, z]) := ⟨by show 3 ≤ sizeLine; decide, [w1, w2, w3], .cons v1 (.cons v2 (.cons v3 .nil)), ⟨_, hT3, rfl, _, rfl⟩⟩
    have I1 : L2.Inv X pins σ (upd H s.heap.objs.size (.tup [x, y, z])) { s with heap := h3', toks := tk } :=
      I.turnedNew (ch := cells3 m) (fun q o hq e => (sb.2 q (fun z => hq (by simp [z]))).trans (hk q o (fun z => hq (by simp [z])) (fun z => hq (by simp [z])) (fun z => hq (by simp [z])) (fun z => hq (by simp [z])) (fun z => hq (by simp [z])) e)) hf (Nat.le_refl _) fresh
    refine ⟨.ref s.heap.objs.size, _, I1, rfl, ⟨_, x, y, z, rfl, I.hok.fresh (Nat.le_refl _), rfl, fun l hl => by rw [I.list_inj hl qx]; exact ix, fun l hl => by rw [I.list_inj hl qy]; exact iy, fun l hl => by rw [I.list_inj hl qz]; exact iz⟩, ⟨z3, ?_, ⟨w1, w2, w3, ?_⟩, ?_, ?_, ?_⟩, fun q hq => ?_⟩
    · exact (sb.2 _ (ne_nat (by omega))).trans (hk _ _ (ne_nat (by omega)) (ne_nat (by omega)) (ne_nat (by omega)) (ne_nat (by omega)) (ne_nat (by omega)) h2)
    · exact (sb.2 _ (ne_nat (by omega))).trans hO
    · exact s1.1.at fun o e => (sb.2 _ (ne_nat (by omega))).trans e
    · exact s2.1.at fun o e => (sb.2 _ (ne_nat (by omega))).trans e
    · exact s3.1.at fun o e => (sb.2 _ (ne_nat (by omega))).trans e
    · rw [upd_ne (Nat.ne_of_lt (mem6 q hq))]
      exact (hf q hq).1
  done := by
    intro X hP hw hK hcm i pins s σ H E I hf st hg
    subst hP hw hK
    obtain ⟨h1, h2, ⟨x0, y0, z0, h3⟩, h4, h5, h6⟩ := st
    obtain ⟨xs, ys, zs, qx, qy, qz, l1, l2, l3, le⟩ := hg
    obtain ⟨is1, r1, p1, _⟩ := I.list qx
    obtain ⟨is2, r2, p2, _⟩ := I.list qy
    obtain ⟨is3, r3, p3, _⟩ := I.list qz
    have n1 := r1.length
    have n2 := r2.length
    have n3 := r3.length
    have hd : X.A.in1.handled = none := by simpa using I.ok.hd hcm
    refine wpAny_pyNext_zipD3_end (sep3 ha hb hc) (Draws.list hd m a (ne_nat (by omega)) is1.toArray) (Draws.list hd (m + 1) b (ne_nat (by omega)) is2.toArray) (Draws.list hd (m + 2) c (ne_nat (by omega)) is3.toArray) h1 h2 h3 (i := i) ⟨h4, p1.isList⟩ ⟨h5, p2.isList⟩ ⟨h6, p3.isList⟩
      (by simp; omega) (by simp; omega) (by simp; omega) (by simp; omega) fun h' tk hk => ⟨rfl, ?_⟩
    refine turned_many (ch := cells3 m) I (fun q o hq e => hk q o (fun z => hq (by simp [z])) (fun z => hq (by simp [z])) (fun z => hq (by simp [z])) (fun z => hq (by simp [z])) (fun z => hq (by simp [z])) e) hf
  self := fun A1 i s1 Q1 E1 st hx => wpAny_pyIter_zip st.1 hx
end MP
end MZb_text

section MZc_text
set_option Elab.async false
set_option linter.all false
set_option maxRecDepth 100000
set_option maxHeartbeats 1000000
/-! i = zip(three lists); j = [.. for t in i if ..]. -/
namespace MP
open PySem PySem.Spec PyProof.Rows L2
/-- the new objects -/
def zipCells (a b c m : Addr) : List Obj :=
  [{ cls := .type "list_iterator", data := .fields #[.ref a, .int 0 0] }, { cls := .type "list_iterator", data := .fields #[.ref b, .int 0 0] }, { cls := .type "list_iterator", data := .fields #[.ref c, .int 0 0] },
   { cls := .type "tuple", data := .seq #[.ref m, .ref (m + 1), .ref (m + 2)] }, { cls := .type "tuple", data := .seq #[.none, .none, .none] },
   { cls := .type "zip", data := .fields #[.none, .bool false, .bool false, .ref (m + 3), .ref (m + 4)] }]
theorem zipCells_len {a b c m : Addr} : (zipCells a b c m).length = 6 := rfl
def tZip3 (n : Nat) (K : PySem.W.Frag) (ta : TA) : TE := fun σ H Q => ta σ H fun vs H1 => ∃ a b c xs ys zs, vs = [.ref a, .ref b, .ref c] ∧ SqL K H1 a xs ∧ SqL K H1 b ys ∧ SqL K H1 c zs ∧
  ∀ m, a < m → b < m → c < m → (∀ j, j < 6 → H1 (m + j) = none) → Q (.ref (m + 5)) (lay n m (zipCells a b c m) H1)
theorem pe_zip3 {X : Cx} {e1 e2 e3 : Expr} {ta : TA} {p pos : Pos} (hg : Gl X "zip") (hm : X.mg "zip" = none) (ha : PA X [e1, e2, e3] ta) (hs : starEach [e1, e2, e3] X.env = (false, eval e1 X.env) :: starEach [e2, e3] X.env) (hp : (backTo pos (starEach [e2, e3] X.env)).any (·.1) = false) :
    PE X (.Call (.Name "zip" p) [e1, e2, e3] [] pos) (tZip3 X.s_0.heap.objs.size X.K ta) := by
  refine ⟨fun pins s σ H Q I h => ?_⟩
  refine Call_ (ld_blt I hg hm boot_zip (PyProof.Rows.callWith_type1 (thn (ha.run pos pins s σ H _ I h) fun us s1 ⟨vs, H1, I1, r1, q1⟩ => ?_) hs hp))
  obtain ⟨a, b, c, xs, ys, zs, rfl, qx, qy, qz, q⟩ := q1
  obtain ⟨is1, _, p1, _⟩ := I1.list qx
  obtain ⟨is2, _, p2, _⟩ := I1.list qy
  obtain ⟨is3, _, p3, _⟩ := I1.list qz
  cases r1 with
  | cons r1 rr =>
    cases rr with
    | cons r2 rr =>
      cases rr with
      | cons r3 rr =>
        cases rr
        cases r1
        cases r2
        cases r3
        have al : a < s1.heap.objs.size := by obtain ⟨_, x, _⟩ := p1.isList; exact Heap.lt_size x
        have bl : b < s1.heap.objs.size := by obtain ⟨_, x, _⟩ := p2.isList; exact Heap.lt_size x
        have cl : c < s1.heap.objs.size := by obtain ⟨_, x, _⟩ := p3.isList; exact Heap.lt_size x
        refine zip_begins3 (begins_list a is1.toArray) (begins_list b is2.toArray) (begins_list c is3.toArray) p1.isList p2.isList p3.isList fun h2 hz hI hO g1 g2 g3 hsz kk => ?_
        have I2 : Inv X pins σ H1 { s1 with heap := h2 } := I1.kept (t' := s1.toks) kk
        have fo : ∀ j, j < 6 → H1 (s1.heap.objs.size + j) = none := fun j _ => I1.hok.fresh (Nat.le_add_right _ _)
        refine ⟨.ref (s1.heap.objs.size + 5), _, Inv_lay (m := s1.heap.objs.size) (os := zipCells a b c s1.heap.objs.size) I2 I1.sz (fun j hj => I1.fpOk (Nat.le_add_right _ _) (fo j hj)) ?_, rfl, q _ al bl cl fo⟩
        intro j o e
        match j, e with
        | 0, e => cases e; exact g1
        | 1, e => cases e; exact g2
        | 2, e => cases e; exact g3
        | 3, e => cases e; exact hI
        | 4, e => cases e; exact hO
        | 5, e => cases e; exact hz
        | j + 6, e => cases e
/-- held by a name -/
def iHeld (n : Nat) (K : PySem.W.Frag) (i : Nat) : TI := fun σ H R => ∃ a b c m H0, σ[i]? = some (some (.ref (m + 5))) ∧ H = lay n m (zipCells a b c m) H0 ∧ (∀ j, j < 6 → H0 (m + j) = none) ∧ a < m ∧ b < m ∧ c < m ∧ R (Itz3 K a b c) H0
theorem pi_held {X : Cx} {i : Nat} {x : Str} {pos tpos : Pos} {elts : List Expr} {kk : Nat} (he : PE X (.Name x pos) (tVar i)) : PI X (.Tuple elts kk tpos) (.Name x pos) (iHeld X.s_0.heap.objs.size X.K i) := by
  refine ⟨fun pins s σ H R I h => ?_⟩
  obtain ⟨a, b, c, m, H0, hv, rfl, hf, ha, hb, hc, q⟩ := h
  refine thn (he.run pins s σ _ (fun v H' => v = V.ref (m + 5) ∧ H' = lay X.s_0.heap.objs.size m (zipCells a b c m) H0) I ⟨_, hv, rfl, rfl⟩) fun u s1 ⟨v, H1, I1, r, ev, eH⟩ => ?_
  subst ev
  subst eH
  cases r
  obtain ⟨I2, fp, gs⟩ := Inv_unlay I1 (fun j o e => lay_at e) rfl
  rw [unlay_lay (os := zipCells a b c m) rfl hf] at I2 fp
  have st : At3 m a b c 0 s1.heap := ⟨gs 5 _ rfl, gs 3 _ rfl, ⟨_, _, _, gs 4 _ rfl⟩, ⟨_, gs 0 _ rfl, rfl, rfl⟩, ⟨_, gs 1 _ rfl, rfl, rfl⟩, ⟨_, gs 2 _ rfl, rfl, rfl⟩⟩
  refine wpAny_pyIter_zip st.1 ⟨m + 5, cells3 m, At3 m a b c, Itz3 X.K a b c, H0, rfl, I2, turn_zip3 ha hb hc, st, fun q hq => ?_, q⟩
  obtain ⟨k, hk, rfl⟩ := cell_le hq
  exact fp k (show k < 6 from Nat.lt_of_le_of_lt hk (by decide))
section
variable {G : Wd} {κ : Addr → Prop} {ρ : List Addr} {st : Sto} {H : Hp}
theorem triples_get : ∀ {xs ys zs : List CV} {i : Nat} {v : CV}, (triples xs ys zs)[i]? = some v → ∃ x y z, xs[i]? = some x ∧ ys[i]? = some y ∧ zs[i]? = some z ∧ v = .tup [x, y, z]
  | x :: xs, y :: ys, z :: zs, 0, v, h => by
    cases h
    exact ⟨x, y, z, rfl, rfl, rfl, rfl⟩
  | x :: xs, y :: ys, z :: zs, i + 1, v, h => triples_get (xs := xs) (ys := ys) (zs := zs) (i := i) h
  | [], _, _, _, v, h => by cases h
  | _ :: _, [], _, _, v, h => by cases h
  | _ :: _, _ :: _, [], _, v, h => by cases h
theorem triples_len : ∀ (xs ys zs : List CV), (triples xs ys zs).length ≤ xs.length ∧ (triples xs ys zs).length ≤ ys.length ∧ (triples xs ys zs).length ≤ zs.length ∧ ((triples xs ys zs).length = xs.length ∨ (triples xs ys zs).length = ys.length ∨ (triples xs ys zs).length = zs.length)
  | x :: xs, y :: ys, z :: zs => by
    have := triples_len xs ys zs
    simp only [triples, List.length_cons]
    omega
  | [], _, _ => by simp [triples]
  | _ :: _, [], _ => by simp [triples]
  | _ :: _, _ :: _, [] => by simp [triples]
end
end MP
end MZc_text

section MZd_text
set_option Elab.async false
set_option linter.all false
set_option maxRecDepth 100000
set_option maxHeartbeats 1000000
namespace MP
open PySem PySem.Spec PyProof.Rows L2
section
variable {G : Wd} {κ : Addr → Prop} {ρ : List Addr} {st : Sto} {H : Hp}
theorem walk_zip3 {K : PySem.W.Frag} {a b c : Addr} {xs ys zs : List CV} {us vs ws : List V} (hq : ∀ κ2 ρ2 st2 H2, HRel G κ2 ρ2 st2 H2 → Lat κ ρ st H κ2 ρ2 st2 H2 → (SqL K H2 a us ∧ RepVs G ρ2 (Live κ2 ρ2 st2) H2 xs us) ∧ (SqL K H2 b vs ∧ RepVs G ρ2 (Live κ2 ρ2 st2) H2 ys vs) ∧ SqL K H2 c ws ∧ RepVs G ρ2 (Live κ2 ρ2 st2) H2 zs ws) :
    IsWalk G (Itz3 K a b c) (triples xs ys zs) κ ρ st H := fun i κ2 ρ2 st2 H2 R E => by
  obtain ⟨⟨q1, r1⟩, ⟨q2, r2⟩, q3, r3⟩ := hq κ2 ρ2 st2 H2 R E
  refine ⟨fun hi => ?_, fun x hx => ?_⟩
  · have e1 := r1.length
    have e2 := r2.length
    have e3 := r3.length
    obtain ⟨t1, t2, t3, t4⟩ := triples_len xs ys zs
    exact ⟨us, vs, ws, q1, q2, q3, by omega, by omega, by omega, by omega⟩
  obtain ⟨x1, x2, x3, h1, h2, h3, rfl⟩ := triples_get hx
  obtain ⟨u, eu, ru⟩ := r1.get h1
  obtain ⟨v, ev, rv⟩ := r2.get h2
  obtain ⟨w, ew, rw'⟩ := r3.get h3
  refine ⟨⟨us, vs, ws, u, v, w, q1, q2, q3, eu, ev, ew⟩, fun xv H' ⟨T, y1, y2, y3, ex, hT, eH, z1, z2, z3⟩ => ?_⟩
  subst ex
  subst eH
  have t1 := z1 us q1
  have t2 := z2 vs q2
  have t3 := z3 ws q3
  rw [eu] at t1
  rw [ev] at t2
  rw [ew] at t3
  cases t1
  cases t2
  cases t3
  have E3 := ext_new (u := .tup [u, v, w]) R hT
  exact ⟨rel_new R hT, E3, .tup upd_same (R.noLive hT) (.cons (ru.ext E3) (.cons (rv.ext E3) (.cons (rw'.ext E3) .nil)))⟩
theorem Sit.out {env : Env} {σ : L2.St} (S : Sit G κ ρ st env σ H) {i : Nat} {x : V} : Sit G κ ρ st (wipeV env [i]) (σ.set i (some x)) H := by
  refine ⟨S.rel, by rw [List.length_set, wipeV_len]; exact S.len, fun j v hv => ?_⟩
  obtain ⟨h1, h2⟩ := wipeV_at env j [i] v hv
  obtain ⟨y, h3, h4⟩ := S.sl j v h2
  exact ⟨y, by rw [List.getElem?_set_ne fun z => h1 (by rw [z]; exact List.mem_singleton.mpr rfl)]; exact h3, h4⟩
end
section
variable {CX : CXT} {P : Prog} {F : Fns} {G : Wd} {k : Nat} {S : Cst} {a1 a2 a3 : Expr} {pos : Pos}
theorem sss_zipc {i j : Nat} {x y z : Str} {px py pz pc ps px2 spos tpos : Pos} {tgs : List Expr} {kk : Nat} {scope : Scope} {own : List (Str × Nat)} {t : CT} {c : CP} {ifs : List Expr} {el : Expr} {ce : CE} {cs : CEs} {rest : List Stmt} {cr : CSs}
    (hz : okBlt S z "zip" = true) (hp1 : plainE a1 = true) (hp2 : plainE a2 = true) (hp3 : plainE a3 = true) (hes : SEs CX P F G k S [a1, a2, a3] cs) (hi : okLoc S i x = true) (hiv : okVar S i x = true)
    (ht : ST CX P F G k ⟨S.N, scope, false⟩ (.Tuple tgs kk tpos) t) (hc : SC CX P F G k ⟨S.N, scope, false⟩ ifs c) (he : SE CX P F G k ⟨S.N, scope, false⟩ el ce)
    (ok : okBlk S scope own t.names = true) (hy : okLoc S j y = true) (hyl : S.sc.names.lookup y = some .local) (hln : (py.line == pos.line) = true) (hno : (scope.names.any fun q => q.1 == y && (q.2 == .local || q.2 == .cell)) = false)
    (hr : SSs CX P F G k S rest cr) :
    SSs CX P F G k S (.Assign [.Name x px] (.Call (.Name z pz) [a1, a2, a3] [] pc) ps :: .Assign [.Name y py] (.ListComp el [⟨.Tuple tgs kk tpos, .Name x px2, ifs, 0⟩] scope pos) spos :: rest) (.cons (.zipc i cs j ce t c) cr) := fun X W g => by
  obtain ⟨rfl, gl, m, nd, nn⟩ := g.blt hz
  obtain ⟨h1, h2, h3⟩ := g.loc hi
  obtain ⟨v1, v2, v3, v4⟩ := g.vis hiv
  obtain ⟨ob, o1, o2⟩ := okBlk_ok ok
  rw [← g.N] at ob
  obtain ⟨y1, _, _⟩ := g.loc hy
  have hl := g.sc.loc y hyl
  have p1 := pe_zip3 (p := pz) (pos := pc) gl m (hes X W g) (star_plain hp1) (back_plain (by simp [hp2, hp3]))
  have ps1 : PS X (.Assign [.Name x px] (.Call (.Name "zip" pz) [a1, a2, a3] [] pc) ps) (tAsg (tZip3 X.s_0.heap.objs.size X.K (tEs P F G W cs)) (gName i)) :=
    ps_asg p1 (pg_name g.nd h1 h2 h3) (swaps_tg (.inl rfl)) (swapped_no rfl) (by rw [asg_plain rfl]; rfl)
  have ps2 : PS X (.Assign [.Name y py] (.ListComp el [⟨.Tuple tgs kk tpos, .Name x px2, ifs, 0⟩] scope pos) spos) (tAsg (tLc (iHeld X.s_0.heap.objs.size X.K i) (gT P F G t) (tC1 P F G c) (tE P F G (fun _ _ _ _ => False) false ce) (own.map (·.2))) (gName j)) := by
    refine ⟨fun pins s σ H D I q => ?_⟩
    have hsw : swapsWith (.ListComp el [⟨.Tuple tgs kk tpos, .Name x px2, ifs, 0⟩] scope pos) (some (.Name y py)) spos.line X.env = pure true := by
      unfold swapsWith
      dsimp only
      have hb : X.env.blockKind = .function := by unfold PySem.Env.blockKind; rw [I.ok.kind]; rfl
      have hk : X.env.kindOf y = some .local := hl
      have hno2 : (scope.names.any fun x => match x with
        | (n, k) => n == y && (k == .local || k == .cell)) = false := hno
      show pure (X.env.blockKind == .function && X.env.kindOf y == some .local && py.line == pos.line && !(scope.names.any fun x => match x with
        | (n, k) => n == y && (k == .local || k == .cell))) = _
      rw [hb, hk, hln, hno2]
      rfl
    exact (ps_setLc g.calm g.nd y1 hl hsw (pi_held (pe_var v1 v2 v3 v4)) (BlkOk.sc ob g.sc) (fun s H C cl fp => ht _ _ (g.blk scope s H C cl fp)) (fun s H C cl fp => hc _ _ (g.blk scope s H C cl fp)) (fun s H C cl fp => (he.pe (g.blk scope s H C cl fp))) (fold_plain rfl)).run pins s σ H D I q
  refine ⟨fun pins s σ H D I q => ?_⟩
  have hlen : i < σ.length := by
    rw [I.len]
    exact (List.getElem?_eq_some_iff.mp h1).1
  refine (pss_cons ps1 (pss_cons ps2 (hr X W g))).run pins s σ H D I ?_
  obtain ⟨κ, ρ, st, env, S1, h⟩ := q
  have h : FP G W { D with nx := tSs P F G W cr D } κ ρ st H (evS P F (.zipc i cs j ce t c) env st) :=
    FP.thn (D' := { D with nx := tSs P F G W cr D }) (show FP G W D κ ρ st H ((evS P F (.zipc i cs j ce t c) env st).then fun env1 s1 => evSs P F cr env1 s1) from h) (fun env' st' q ρ' σ' H' S2 E => ⟨κ, ρ', st', env', S2, FP.mono E q⟩) rfl
  show tEs P F G W cs σ H _
  refine stepEsS (α := CV) S1 (show FP G W { D with nx := tSs P F G W cr D } κ ρ st H (Fl.ofR env (evEs P F cs env st) fun as s1 => match zip3L as with
    | some xs => Fl.ofR (wipeV env [i]) (evE P F (.comp ce t (.lit xs) c) (wipeV env [i]) s1) fun v s2 => .nx (setV (wipeV env [i]) j v) s2
    | none => .err) from h) fun vs s1 xs ρ1 H1 S2 r q => ?_
  -- the three lists
  obtain ⟨us, ys, zs, rfl⟩ : ∃ us ys zs, vs = [CV.lst us, CV.lst ys, CV.lst zs] := by
    unfold zip3L at q
    split at q
    · rename_i heq
      split at heq
      · exact ⟨_, _, _, rfl⟩
      · cases heq
    · exact q.elim
  have q : FP G W { D with nx := tSs P F G W cr D } κ ρ1 s1 H1 (Fl.ofR (wipeV env [i]) (evE P F (.comp ce t (.lit (triples us ys zs)) c) (wipeV env [i]) s1) fun v s2 => .nx (setV (wipeV env [i]) j v) s2) := q
  cases r with
  | cons r1 r =>
    cases r with
    | cons r2 r =>
      cases r with
      | cons r3 r =>
        cases r
        cases r1 with
        | lst e1 n1 q1 =>
          cases r2 with
          | lst e2 n2 q2 =>
            cases r3 with
            | lst e3 n3 q3 =>
              refine ⟨_, _, _, _, _, _, rfl, SqL.of e1, SqL.of e2, SqL.of e3, fun m al bl cl fo => ?_⟩
              refine ⟨_, _, _, m, H1, ?_, rfl, fo, al, bl, cl, ?_⟩
              · rw [List.getElem?_set_self hlen]
              · have S3 : Sit G κ ρ1 s1 (wipeV env [i]) (σ.set i (some (V.ref (m + 5)))) H1 := S2.out
                show lcBody (gT P F G t) (tC1 P F G c) (tE P F G (fun _ _ _ _ => False) false ce) (own.map (·.2)) (σ.set i (some (V.ref (m + 5)))) (fun x H2 => tSs P F G W cr D ((σ.set i (some (V.ref (m + 5)))).set j (some x)) H2) (Itz3 X.K _ _ _) H1
                refine comp_body (W := W) (bx := false) (src := ⟨triples us ys zs, none⟩) (ρ1 := ρ1) (s1 := s1) o1 o2 S3 S3.rel .refl (walk_zip3 fun κ3 ρ3 st3 H3 R3 E3 => ⟨⟨SqL.of (E3.pre.keep _ _ e1 n1).1, q1.extP E3.pre⟩, ⟨SqL.of (E3.pre.keep _ _ e2 n2).1, q2.extP E3.pre⟩, SqL.of (E3.pre.keep _ _ e3 n3).1, q3.extP E3.pre⟩) ?_
                refine (FP.ofR q S3).imp (fun v s2 q x ρ2 H2 R E r => ?_) fun _ _ _ h => h
                exact FP.mono E q ρ2 _ H2 ((S3.ext R E).set r) .refl
end
end MP
end MZd_text

section MPw_text
set_option Elab.async false
set_option linter.all false
set_option maxRecDepth 100000
/-! Defs: what they promise, calls n deep. -/
namespace MP
open PySem PySem.Spec PyProof.Rows L2
theorem exitR_ok (st : Sto) (v : CV) (s : Sto) : ∃ s2, exitR st v s = .ok v s2 := by
  unfold exitR
  split
  · exact ⟨_, rfl⟩
  · exact ⟨_, rfl⟩
section
variable {prog : Program} {w : World} {K : PySem.W.Frag} {mg : Str → Option Value} {base : Heap} {P : Prog} {G : Wd}
theorem okay_def {F : Fns} {k : Nat} {S : Cst} {N : List Str} {qual : Str} {scope : Scope} {f : Addr} {cdv : Value} {A : Around} {outer : List PySem.Env} {s : Shared} {H : Hp} {E : XK} (fix : Fix prog w K mg base (L2.CX prog w) P F G k) (hr : Room (k + 1) (A.deeper (envOfC qual scope s.heap.objs.size f cdv)))
    (hN : N = S.N) (nd : N.Nodup) (hs : scope = S.sc) : Okay (L2.CX prog w) P F G k S (fun c d _ H => E c d H) (cxOf (L2.CX prog w) prog w K mg base N qual scope f cdv A outer s H E) := by
  have tk : L2.Takes (cxOf (L2.CX prog w) prog w K mg base N qual scope f cdv A outer s H E) (fun c d _ H => E c d H) := takes_of rfl rfl rfl rfl
  exact ⟨fix, rfl, hN, nd, by rw [← hs]; exact ScR.refl _, fun _ _ => rfl, hr, fun σ => passAt tk σ, fun _ => passes_of rfl⟩
/-- a def's body, done -/
theorem body_done {F : Fns} {d : FnI} {κ : Addr → Prop} {ρ : List Addr} {st : Sto} {H : Hp} {Q : VK} {E : XK} {x : Fl} (R : HRel G κ ρ st H)
    (h : RP (match x with
      | .nx _ s => exitR st .non s
      | .ret v s => exitR st v s
      | .exc c v _ s => match exitR st v s with
        | .ok v2 s2 => .exc c v2 s2
        | _ => .err
      | .err => .err) (BP G false κ ρ st H Q) (fun c v st' => ∀ (x : V) (ρ' : List Addr) (H' : Hp) (d : Addr), HRel G κ ρ' st' H' → Ext κ ρ st H ρ' st' H' → RepV G ρ' (Live κ ρ' st') H' v x → H' d = some (.xd [(("value" : Str), x)]) → E (.ref (G.ca c)) (some d) H')) :
    FP G (fun c d _ H => E c d H) { nx := fun _ H' => Q .non H', rt := Q } κ ρ st H x := by
  cases x with
  | nx env' s' =>
    intro ρ' σ' H' S' E'
    obtain ⟨s2, e⟩ := exitR_ok st .non s'
    have h : RP (exitR st .non s') (BP G false κ ρ st H Q) _ := h
    rw [e] at h
    obtain ⟨ρ2, R2, E2, r2⟩ := exit_ok R S'.rel E' .non e
    exact h _ ρ2 H' R2 E2 r2
  | ret v s' =>
    intro y ρ' H' R' E' r
    obtain ⟨s2, e⟩ := exitR_ok st v s'
    have h : RP (exitR st v s') (BP G false κ ρ st H Q) _ := h
    rw [e] at h
    obtain ⟨ρ2, R2, E2, r2⟩ := exit_ok R R' E' r e
    exact h _ ρ2 H' R2 E2 r2
  | exc c v env' s' =>
    intro y ρ' σ' H' dd S' E' r hd
    obtain ⟨s2, e⟩ := exitR_ok st v s'
    obtain ⟨ρ2, R2, E2, r2⟩ := exit_ok R S'.rel E' r e
    dsimp only at h
    rw [e] at h
    exact h _ ρ2 H' dd R2 E2 r2 hd
  | err => exact h.elim
theorem start_sit {κ : Addr → Prop} {ρ : List Addr} {st : Sto} {H : Hp} {as : List CV} {vs : List V} {N : List Str} {n : Nat} (R : HRel G κ ρ st H) (r : RepVs G ρ (Live κ ρ st) H as vs) (hn : as.length + n = N.length) : Sit G κ ρ st (as.map some ++ List.replicate n none) (L2.start N vs) H := by
  have l := r.length
  refine ⟨R, by unfold L2.start; simp only [List.length_append, List.length_map, List.length_replicate]; omega, fun i v h => ?_⟩
  unfold getV at h
  by_cases hi : i < as.length
  · rw [List.getElem?_append_left (by simpa using hi), List.getElem?_map] at h
    obtain ⟨x, e1, e2⟩ := r.get (List.getElem?_eq_getElem hi)
    rw [List.getElem?_eq_getElem hi] at h
    have hv : as[i] = v := by simpa using h
    rw [hv] at e2
    refine ⟨x, ?_, e2⟩
    unfold L2.start
    rw [List.getElem?_append_left (by simpa using by omega), List.getElem?_map, e1]
    rfl
  · rw [List.getElem?_append_right (by simpa using by omega)] at h
    rw [List.getElem?_replicate] at h
    split at h <;> cases h
/-- the call's arguments, filled up -/
theorem fill_sem {n : Nat} {f : Nat} {as : List CV} {st : Sto} (h : RP (sem P n f as st) (fun _ _ => True) (fun _ _ _ => True)) : ∃ d full, P.fns[f]? = some d ∧ fillArgs d as = some full ∧ sem P n f as st = sem P n f full st := by
  cases n with
  | zero => exact h.elim
  | succ n =>
    unfold sem at h ⊢
    cases hd : P.fns[f]? with
    | none => rw [hd] at h; exact h.elim
    | some d =>
      rw [hd] at h
      dsimp only at h
      unfold runFn at h
      cases hf : fillArgs d as with
      | none => rw [hf] at h; exact h.elim
      | some full =>
        refine ⟨d, full, rfl, hf, ?_⟩
        dsimp only
        have e : fillArgs d full = some full := by
          unfold fillArgs at hf ⊢
          split at hf
          · rename_i hh
            cases hf
            have hl : (as ++ d.dfl.drop (as.length + d.dfl.length - d.arity)).length = d.arity := by
              rw [List.length_append, List.length_drop]
              omega
            generalize as ++ d.dfl.drop (as.length + d.dfl.length - d.arity) = fl at hl ⊢
            rw [if_pos ⟨by omega, by omega⟩]
            congr 1
            have : d.dfl.drop (fl.length + d.dfl.length - d.arity) = [] := List.drop_eq_nil_of_le (by omega)
            rw [this, List.append_nil]
          · cases hf
        unfold runFn
        rw [hf, e]
/-- the static part of the program's facts -/
structure FixS (prog : Program) (w : World) (K : PySem.W.Frag) (mg : Str → Option Value) (base : Heap) (P : Prog) (G : Wd) : Prop where
  kK : K = G.K
  ainj : ∀ f g, G.an f = G.an g → f = g
  an : ∀ (f : Nat) x, P.attrs[f]? = some x → G.an f = SS x
  gl : ∀ (i : Nat) x v, P.globs[i]? = some (x, v) → ∃ u xv, mg (SS x) = some u ∧ RelV xv u ∧ ∀ ρ L H, RepV G ρ L H v xv
  blt : ∀ x : String, x ∈ bltNames → mg (Str.ofString x) = none
  fn : ∀ (f : Nat) d, P.fns[f]? = some d → PySem.W.keepIn K (.ref (G.fa f)) = true ∧ (G.ps f).length = d.arity ∧ (d.name ≠ [] → mg (SS d.name) = some (.ref (G.fa f))) ∧
    (∀ j, j ≤ d.dfl.length → ∃ ds dvs, Binds K (G.fd f) (G.ps f) ds ∧ Vals dvs ds ∧ ∀ ρ L H, RepVs G ρ L H (d.dfl.drop j) dvs) ∧
    ∃ (x qual : Str) (params : Arguments) (body : List Stmt) (scope : Scope) (dvs : List V) (kws : List (Str × V)) (N : List Str), FunD K x qual params body scope dvs kws (G.fa f) (G.fd f) ∧ FnScope N (G.ps f) scope ∧ N.length = d.slots ∧ d.arity ≤ d.slots ∧
      ∀ F k, SSs (L2.CX prog w) P F G k ⟨N, scope, true⟩ body d.body
  cls : ∀ (c : Nat) i, P.clss[c]? = some i → Cls K (G.ca c) ∧ (i.name ≠ [] → mg (SS i.name) = some (.ref (G.ca c))) ∧
    (PySem.W.findIn K (.ref (G.ca c)) "__class__" = some (some (.builtin "object.__class__")) ∧ PySem.W.mroIn K (G.ca c) (.type "object") = some true) ∧
    (∀ f, f ∈ i.flds → NoAttr K (G.ca c) (G.an f)) ∧ (∀ m g, i.meths.lookup m = some g → Meth K (G.ca c) (G.an m) (G.fa g) ∧ ∃ d, P.fns[g]? = some d) ∧
    (∀ m g, i.props.lookup m = some g → ∃ p, PropOf K (G.ca c) (G.an m) p (G.fa g)) ∧ ∀ g, i.init = some g → Mk K (G.ca c) (G.fa g) ∧ ∃ d, P.fns[g]? = some d
  cget : PySem.W.specialIn K (.builtin "object.__class__") "__get__" = some (some (.builtin "getset_descriptor.__get__")) ∧ PySem.W.takesIn K (.builtin "object.__class__") = some true
  kit : ∀ (a : Option Ity) (t : Ity), (∀ c, a = some (.cls c) → c < P.clss.length) → (∀ c, t = .cls c → c < P.clss.length) → PySem.W.kitOne K (kdV G a) (t.v G) = some (kdIs P a t)
theorem FixS.fix (X : FixS prog w K mg base P G) : ∀ n : Nat, Fix prog w K mg base (L2.CX prog w) P (sem P n) G (2 * n)
  | 0 => ⟨X.kK, fun _ _ _ _ _ ⟨_, _, _, _, _, _, _, _, _, _, _, _, h⟩ => h, X.ainj, X.an, X.gl, X.blt, fun f d hf => by
      obtain ⟨h1, h2, h3, h4, _⟩ := X.fn f d hf
      refine ⟨⟨fun vs H Q E h => h.1.trans h2.symm, fun A outer s H args us vs Q E _ _ _ _ h => ?_⟩, h1, h2, h3, h4⟩
      obtain ⟨_, _, _, _, _, _, _, h⟩ := h
      exact h.elim, fun f as st h => fill_sem h, X.cls, X.cget, X.kit⟩
  | n + 1 => ⟨X.kK, fun _ _ _ _ _ ⟨_, _, _, _, _, _, _, _, _, _, _, _, h⟩ => h, X.ainj, X.an, X.gl, X.blt, fun f d hf => by
      obtain ⟨h1, h2, h3, h4, x, qual, params, body, scope, dvs, kws, N, FD, FS, hN, hA, hb⟩ := X.fn f d hf
      refine ⟨?_, h1, h2, h3, h4⟩
      have fix := FixS.fix X n
      refine FD.ok (k := 2 * n + 1) FS (fun vs H Q E h => h.1.trans h2.symm) fun cdv A outer s H vs Q E hr hsp => ?_
      obtain ⟨hl, κ, ρ, st, as, R, ra, h⟩ := hsp
      refine ⟨_, hb (sem P n) (2 * n) _ _ (okay_def fix hr rfl FS.nd rfl), κ, ρ, st, as.map some ++ List.replicate (d.slots - d.arity) none, start_sit R ra (by have := ra.length; omega), ?_⟩
      have h : RP (match P.fns[f]? with
        | some d => runFn P (sem P n) d as st
        | none => .err) (BP G false κ ρ st H Q) _ := h
      rw [hf] at h
      dsimp only at h
      unfold runFn at h
      have e : fillArgs d as = some as := by
        have := ra.length
        unfold fillArgs
        rw [if_pos ⟨by omega, by omega⟩, List.drop_eq_nil_of_le (by omega), List.append_nil]
      rw [e] at h
      exact body_done (F := sem P n) (d := d) R h, fun f as st h => fill_sem h, X.cls, X.cget, X.kit⟩
end
end MP
end MPw_text

section MPx_text
set_option Elab.async false
set_option linter.all false
set_option maxRecDepth 100000
/-! The checker. -/
namespace MP
open PySem PySem.Spec PyProof.Rows L2
def bopIs (o : Bop) (p : Operator) : Bool := decide (o.op = p)
def copIs (o : Cop) (p : CmpOp) : Bool := decide (o.op = p)
def idxOf (N : List Str) (x : Str) : Nat → Option Nat
  | n => match N with
    | [] => none
    | y :: r => if x = y then some n else idxOf r x (n + 1)
/-- a block's own names, with their places -/
def ownOf (S : Cst) (scope : Scope) : List (Str × Nat) := scope.names.filterMap fun y => if y.2 = .local ∨ y.2 = .cell then (idxOf S.N y.1 0).map fun i => (y.1, i) else none
/-- an expression whose test is its value's -/
def valE : Expr → Bool
  | .UnaryOp .Not _ _ | .BoolOp .. | .IfExp .. | .Compare .. => false
  | _ => true
theorem valE_ok {e : Expr} (h : valE e = true) (env : PySem.Env) (whole : Sem Value) : isTrue e env whole = (do let v ← whole; standAt e.pos; holding [v] (truthy v)) := by
  cases e with
  | UnaryOp op a p => cases op <;> first | rfl | cases h
  | BoolOp op es p => cases h
  | IfExp a b c p => cases h
  | Compare a ops es p => cases h
  | _ => rfl
mutual
def okE (P : Prog) (S : Cst) : CE → Expr → Bool
  | .non, e => match e with
    | .Constant .none _ _ => true
    | _ => false
  | .bool b, e => match e with
    | .Constant (.bool c) _ _ => decide (c = b)
    | _ => false
  | .int i, e => match e with
    | .Constant (.int j) _ _ => decide (j = i)
    | _ => false
  | .str s, e => match e with
    | .Constant (.str x) _ _ => decide (x = SS s)
    | _ => false
  | .var i, e => match e with
    | .Name x _ => okVar S i x
    | _ => false
  | .glob i, e => match e with
    | .Name x _ => match P.globs[i]? with
      | some (n, _) => decide (x = SS n) && okGl S (SS n)
      | none => false
    | _ => false
  | .bin o a b, e => match e with
    | .BinOp x p y _ => bopIs o p && (okE P S a x && okE P S b y)
    | _ => false
  | .neg a, e => match e with
    | .UnaryOp .USub x _ => okE P S a x
    | _ => false
  | .not a, e => match e with
    | .UnaryOp .Not x _ => okE P S a x
    | _ => false
  | .cmp o a b, e => match e with
    | .Compare x [p] [y] _ => copIs o p && (okE P S a x && (okE P S b y && noSet y))
    | _ => false
  | .chain o q a b c, e => match e with
    | .Compare x [p, p2] [y, z] _ => (copIs o p && copIs q p2) && (okE P S a x && (okE P S b y && (okE P S c z && noSet z)))
    | _ => false
  | .isc neg k a, e => match k with
    | some b => match e with
      | .Compare x [p] [.Constant (.bool c) _ _] _ => decide (p = (if neg then .IsNot else .Is)) && (decide (c = b) && okE P S a x)
      | _ => false
    | none => match e with
      | .Compare x [p] [.Constant .none _ _] _ => decide (p = (if neg then .IsNot else .Is)) && okE P S a x
      | _ => false
  | .bools isAnd es, e => match e with
    | .BoolOp op xs _ => decide (op = bop isAnd) && okB P S es xs
    | _ => false
  | .ite c a b, e => match e with
    | .IfExp z x y _ => okE P S c z && (okE P S a x && okE P S b y)
    | _ => false
  | .idx a b, e => match e with
    | .Subscript x y _ => okE P S a x && (okE P S b y && noSlice y)
    | _ => false
  | .slice a lo hi, e => match e with
    | .Subscript x (.Slice l h none _) _ => okE P S a x && (okP P S lo l && okP P S hi h)
    | _ => false
  | .rev a, e => match e with
    | .Subscript x (.Slice none none (some (.UnaryOp .USub (.Constant (.int 1) _ _) _)) _) _ => okE P S a x
    | _ => false
  | .attr a f, e => match e with
    | .Attribute x y _ => match P.attrs[f]? with
      | some n => decide (y = SS n) && (okE P S a x && noCall0 x)
      | none => false
    | _ => false
  | .call f es, e => match e with
    | .Call (.Name x _) xs [] _ => match P.fns[f]? with
      | some d => (decide (x = SS d.name) && (decide (d.name ≠ []) && okGl S (SS d.name))) && (okEs P S es xs && (xs.all plainE && !es.star))
      | none => false
    | _ => false
  | .new c es, e => match e with
    | .Call (.Name x _) xs [] _ => match P.clss[c]? with
      | some i => (decide (x = SS i.name) && (decide (i.name ≠ []) && (okGl S (SS i.name) && i.init.isSome))) && (okEs P S es xs && (xs.all plainE && (!es.star && decide (xs ≠ []))))
      | none => false
    | _ => false
  | .meth a m es, e => match e with
    | .Call (.Attribute x y ap) xs [] p => match P.attrs[m]? with
      | some n => (decide (y = SS n) && (okE P S a x && noCall0 x)) && ((okEs P S es xs && (xs.all plainE && !es.star)) && (decide (xs.length < 30) && (ap.endLine == p.line)))
      | none => false
    | _ => false
  | .bfn b es, e => match b with
    | .rng1 => match e, es with
      | .Call (.Name x _) [.Call (.Name y _) [z] [] _] [] _, .cons false a .nil => okBlt S x "list" && (okBlt S y "range" && (okE P S a z && plainE z))
      | _, _ => false
    | .rng2 => match e, es with
      | .Call (.Name x _) [.Call (.Name y _) [z, u] [] _] [] _, .cons false a (.cons false b .nil) => okBlt S x "list" && (okBlt S y "range" && ((okE P S a z && plainE z) && (okE P S b u && plainE u)))
      | _, _ => false
    | .litems => match e, es with
      | .Call (.Name x _) [.Call (.Attribute z y ap) [] [] cp] [] _, .cons false a .nil => okBlt S x "list" && (decide (y = Str.ofString "items") && ((okE P S a z && noCall0 z) && (ap.endLine == cp.line)))
      | _, _ => false
    | .titems => match e, es with
      | .Call (.Name x _) [.Call (.Attribute z y ap) [] [] cp] [] _, .cons false a .nil => okBlt S x "tuple" && (decide (y = Str.ofString "items") && ((okE P S a z && noCall0 z) && (ap.endLine == cp.line)))
      | _, _ => false
    | .sortset => match e, es with
      | .Call (.Name x _) [.Call (.Name y _) [z] [] _] [] _, .cons false a .nil => okBlt S x "sorted" && (okBlt S y "set" && (okE P S a z && plainE z))
      | _, _ => false
    | b => match e with
      | .Call (.Name x _) xs [] _ => (decide (b.nm.2 ≠ "") && okBlt S x b.nm.2) && (okEs P S es xs && (xs.all plainE && decide (xs ≠ [])))
      | _ => false
  | .bm m a es, e => match e with
    | .Call (.Attribute z x ap) xs [] p => ((decide (m.nm.1 ≠ "") && decide (x = Str.ofString m.nm.2.1)) && (okE P S a z && noCall0 z)) && ((okEs P S es xs && xs.all plainE) && (decide (xs.length < 30) && (ap.endLine == p.line)))
    | _ => false
  | .isin a t, e => match e with
    | .Call (.Name x _) [z, .Name y _] [] _ => okBlt S x "isinstance" && ((okE P S a z && plainE z) && okIty P S y t)
    | _ => false
  | .tup es, e => match e with
    | .Tuple xs _ _ => okEs P S es xs
    | _ => false
  | .lst es, e => match e with
    | .List xs _ => okEs P S es xs
    | _ => false
  | .dic t kvs, e => match e with
    | .Dict ks vs _ => match kvs with
      | .nil => decide (ks = [] ∧ vs = [])
      | _ => (!t && okD P S kvs ks vs) && (ks.all (·.isSome) && (decide (ks.length = vs.length) && (decide (ks ≠ []) && decide (ks.length ≤ 15))))
    | _ => false
  | .comp ce t ci c, e => match e with
    | .ListComp el [⟨tg, it, ifs, 0⟩] scope _ => (okI P S ci tg it && (okT P ⟨S.N, scope, false⟩ t tg && (okC P ⟨S.N, scope, false⟩ c ifs && okE P ⟨S.N, scope, false⟩ ce el))) && (okBlk S scope (ownOf S scope) t.names && noSet it)
    | _ => false
  | .dcomp tk ck cv t ci, e => match e with
    | .DictComp x y [⟨tg, it, [], 0⟩] scope _ => ((okI P S ci tg it && (okT P ⟨S.N, scope, false⟩ t tg && (okE P ⟨S.N, scope, false⟩ ck x && okE P ⟨S.N, scope, false⟩ cv y))) && (okBlk S scope (ownOf S scope) t.names && noSet it))
    | _ => false
  | .box a, e => fresh a && (okE P S a e && valE e)
  | .frz a, e => okE P S a e && valE e
  | .fstr es, e => match e with
    | .JoinedStr (x :: y :: r) _ => calmEs es && okFs P S es (x :: y :: r)
    | _ => false
  | _, _ => false
def okP (P : Prog) (S : Cst) : CP → Option Expr → Bool
  | .no, e => match e with
    | none => true
    | _ => false
  | .yes a, e => match e with
    | some x => okE P S a x
    | none => false
def okC (P : Prog) (S : Cst) : CP → List Expr → Bool
  | .no, e => match e with
    | [] => true
    | _ => false
  | .yes a, e => match e with
    | [x] => okE P S a x
    | _ => false
def okB (P : Prog) (S : Cst) : CEs → List Expr → Bool
  | .nil, _ => false
  | .cons _ a r, xs => match xs with
    | [] => false
    | x :: xs => okE P S a x && (match r, xs with
      | .nil, [] => true
      | .cons .., _ :: _ => okB P S r xs
      | _, _ => false)
def okEs (P : Prog) (S : Cst) : CEs → List Expr → Bool
  | .nil, xs => match xs with
    | [] => true
    | _ => false
  | .cons false a r, xs => match xs with
    | [] => false
    | x :: xs => plainE x && (okE P S a x && okEs P S r xs)
  | .cons true a r, xs => match xs with
    | .Starred x _ :: xs => okE P S a x && okEs P S r xs
    | _ => false
def okFs (P : Prog) (S : Cst) : CEs → List Expr → Bool
  | .nil, xs => match xs with
    | [] => true
    | _ => false
  | .cons false a r, xs => match xs with
    | .FormattedValue x q none _ :: xs => decide (q = -1) && (okE P S a x && okFs P S r xs)
    | .Constant (.str x) _ _ :: xs => match a with
      | .str v => decide (x = SS v) && okFs P S r xs
      | _ => false
    | _ => false
  | .cons true _ _, _ => false
def okD (P : Prog) (S : Cst) : CKs → List (Option Expr) → List Expr → Bool
  | .nil, ks, vs => match ks, vs with
    | [], [] => true
    | _, _ => false
  | .cons a b r, ks, vs => match ks, vs with
    | some x :: ks, y :: vs => okE P S a x && (okE P S b y && okD P S r ks vs)
    | _, _ => false
def okI (P : Prog) (S : Cst) : CI → Expr → Expr → Bool
  | .seq a, _, e => okE P S a e
  | .rng1 a, _, e => match e with
    | .Call (.Name x _) [z] [] _ => okBlt S x "range" && (okE P S a z && plainE z)
    | _ => false
  | .rng2 a b, _, e => match e with
    | .Call (.Name x _) [z, u] [] _ => okBlt S x "range" && ((okE P S a z && plainE z) && (okE P S b u && plainE u))
    | _ => false
  | .enum a, tg, e => match tg, e with
    | .Tuple _ _ _, .Call (.Name x _) [z] [] _ => okBlt S x "enumerate" && (okE P S a z && plainE z)
    | _, _ => false
  | .rng3 a b c, _, e => match e with
    | .Call (.Name x _) [z, u, .UnaryOp .USub (.Constant (.int 1) _ _) _] [] _ => okBlt S x "range" && (decide (c = -1) && ((okE P S a z && plainE z) && (okE P S b u && plainE u)))
    | _ => false
  | .zip es, tg, e => match es with
    | .cons false a (.cons false b .nil) => match tg, e with
      | .Tuple _ _ _, .Call (.Name x _) [z, u] [] _ => okBlt S x "zip" && ((okE P S a z && plainE z) && (okE P S b u && plainE u))
      | _, _ => false
    | _ => false
  | _, _, _ => false
def okT (P : Prog) (S : Cst) : CT → Expr → Bool
  | .var i, e => match e with
    | .Name x _ => okLoc S i x
    | _ => false
  | .tup ts, e => match e with
    | .Tuple xs _ _ => okTs P S ts xs && (xs.all plainE && decide (xs.length = ts.len))
    | _ => false
  | .attr _ _, _ => false
  | .idx a b, e => match e with
    | .Subscript x y _ => okE P S a x && (okE P S b y && noSlice y)
    | _ => false
def okTs (P : Prog) (S : Cst) : CTs → List Expr → Bool
  | .nil, xs => match xs with
    | [] => true
    | _ => false
  | .cons t r, xs => match xs with
    | [] => false
    | x :: xs => plainE x && (okT P S t x && okTs P S r xs)
end
end MP
end MPx_text

section MPy_text
set_option Elab.async false
set_option linter.all false
set_option maxRecDepth 100000
set_option maxHeartbeats 4000000
/-! The checker is right. -/
namespace MP
open PySem PySem.Spec PyProof.Rows L2
section
variable {CX : CXT} {P : Prog} {F : Fns} {G : Wd} {k : Nat}
theorem band {a b : Bool} (h : (a && b) = true) : a = true ∧ b = true := Bool.and_eq_true_iff.mp h
theorem star_no {es : CEs} (h : (!es.star) = true) : es.star = false := by simpa using h
mutual
theorem okE_ok : ∀ (c : CE) (S : Cst) (e : Expr), okE P S c e = true → SE CX P F G k S e c
  | .non, S, e, h => by
    unfold okE at h; split at h
    · exact se_non
    · cases h
  | .bool b, S, e, h => by
    unfold okE at h; split at h
    · cases of_decide_eq_true h; exact se_bool
    · cases h
  | .int i, S, e, h => by
    unfold okE at h; split at h
    · cases of_decide_eq_true h; exact se_int
    · cases h
  | .str s, S, e, h => by
    unfold okE at h; split at h
    · cases of_decide_eq_true h; exact se_str
    · cases h
  | .var i, S, e, h => by
    unfold okE at h; split at h
    · exact se_var h
    · cases h
  | .glob i, S, e, h => by
    unfold okE at h; split at h
    · split at h
      · rename_i hi
        obtain ⟨h1, h2⟩ := band h
        cases of_decide_eq_true h1
        exact se_glob hi h2
      · cases h
    · cases h
  | .bin o a b, S, e, h => by
    unfold okE at h; split at h
    · obtain ⟨h1, h⟩ := band h
      obtain ⟨h2, h3⟩ := band h
      cases of_decide_eq_true h1
      exact se_bin (okE_ok a S _ h2) (okE_ok b S _ h3)
    · cases h
  | .neg a, S, e, h => by
    unfold okE at h; split at h
    · exact se_neg (okE_ok a S _ h)
    · cases h
  | .not a, S, e, h => by
    unfold okE at h; split at h
    · exact se_not (okE_ok a S _ h)
    · cases h
  | .cmp o a b, S, e, h => by
    unfold okE at h; split at h
    · obtain ⟨h1, h⟩ := band h
      obtain ⟨h2, h⟩ := band h
      obtain ⟨h3, h4⟩ := band h
      cases of_decide_eq_true h1
      exact se_cmp (okE_ok a S _ h2) (okE_ok b S _ h3) h4
    · cases h
  | .chain o q a b c, S, e, h => by
    unfold okE at h; split at h
    · obtain ⟨h1, h⟩ := band h
      obtain ⟨h1, h0⟩ := band h1
      obtain ⟨h2, h⟩ := band h
      obtain ⟨h3, h⟩ := band h
      obtain ⟨h4, h5⟩ := band h
      cases of_decide_eq_true h1
      cases of_decide_eq_true h0
      exact se_chain (okE_ok a S _ h2) (okE_ok b S _ h3) (okE_ok c S _ h4) h5
    · cases h
  | .isc neg kk a, S, e, h => by
    unfold okE at h; split at h
    · split at h
      · obtain ⟨h1, h2⟩ := band h
        obtain ⟨h2, h3⟩ := band h2
        cases of_decide_eq_true h1
        cases of_decide_eq_true h2
        exact se_isB neg _ (okE_ok a S _ h3)
      · cases h
    · split at h
      · obtain ⟨h1, h2⟩ := band h
        cases of_decide_eq_true h1
        exact se_isN neg (okE_ok a S _ h2)
      · cases h
  | .bools isAnd es, S, e, h => by
    unfold okE at h; split at h
    · obtain ⟨h1, h2⟩ := band h
      cases of_decide_eq_true h1
      exact okB_ok es S _ _ _ h2
    · cases h
  | .ite c a b, S, e, h => by
    unfold okE at h; split at h
    · obtain ⟨h1, h⟩ := band h
      obtain ⟨h2, h3⟩ := band h
      exact se_ite (okE_ok c S _ h1) (okE_ok a S _ h2) (okE_ok b S _ h3)
    · cases h
  | .idx a b, S, e, h => by
    unfold okE at h; split at h
    · obtain ⟨h1, h⟩ := band h
      obtain ⟨h2, h3⟩ := band h
      exact se_idx (okE_ok a S _ h1) (okE_ok b S _ h2) h3
    · cases h
  | .slice a lo hi, S, e, h => by
    unfold okE at h; split at h
    · obtain ⟨h1, h⟩ := band h
      obtain ⟨h2, h3⟩ := band h
      exact se_slice (okE_ok a S _ h1) (okP_ok lo S _ h2) (okP_ok hi S _ h3)
    · cases h
  | .rev a, S, e, h => by
    unfold okE at h; split at h
    · exact se_rev (okE_ok a S _ h)
    · cases h
  | .attr a f, S, e, h => by
    unfold okE at h; split at h
    · split at h
      · rename_i hn
        obtain ⟨h1, h⟩ := band h
        obtain ⟨h2, h3⟩ := band h
        cases of_decide_eq_true h1
        exact se_attr (okE_ok a S _ h2) hn h3
      · cases h
    · cases h
  | .call f es, S, e, h => by
    unfold okE at h; split at h
    · rename_i xs _
      split at h
      · rename_i hd
        obtain ⟨h1, h⟩ := band h
        obtain ⟨h1, h2⟩ := band h1
        obtain ⟨h2, h3⟩ := band h2
        obtain ⟨h4, h⟩ := band h
        obtain ⟨h5, h6⟩ := band h
        cases of_decide_eq_true h1
        have hs := okEs_ok es S _ h4
        cases xs with
        | nil =>
          cases es with
          | nil => exact se_call0 hd (of_decide_eq_true h2) h3
          | cons b a r => cases b <;> (unfold okEs at h4; cases h4)
        | cons x xs =>
          rw [List.all_cons] at h5
          exact se_call hd (of_decide_eq_true h2) h3 hs (band h5).1 (band h5).2 (star_no h6)
      · cases h
    · cases h
  | .new c es, S, e, h => by
    unfold okE at h; split at h
    · rename_i xs _
      split at h
      · rename_i i hd
        obtain ⟨h1, h⟩ := band h
        obtain ⟨h1, h2⟩ := band h1
        obtain ⟨h2, h3⟩ := band h2
        obtain ⟨h3, h7⟩ := band h3
        obtain ⟨h4, h⟩ := band h
        obtain ⟨h5, h⟩ := band h
        obtain ⟨h6, h8⟩ := band h
        cases of_decide_eq_true h1
        obtain ⟨g0, hg0⟩ := Option.isSome_iff_exists.mp h7
        have hs := okEs_ok es S _ h4
        cases xs with
        | nil => exact absurd rfl (of_decide_eq_true h8)
        | cons x xs =>
          rw [List.all_cons] at h5
          exact se_new hd hg0 (of_decide_eq_true h2) h3 hs (band h5).1 (band h5).2 (star_no h6)
      · cases h
    · cases h
  | .meth a m es, S, e, h => by
    unfold okE at h; split at h
    · rename_i xs _
      split at h
      · rename_i hd
        obtain ⟨h1, h⟩ := band h
        obtain ⟨h1, h2⟩ := band h1
        obtain ⟨h2, h3⟩ := band h2
        obtain ⟨h4, h⟩ := band h
        obtain ⟨h4, h5⟩ := band h4
        obtain ⟨h5, h6⟩ := band h5
        obtain ⟨h7, h8⟩ := band h
        cases of_decide_eq_true h1
        refine se_meth (okE_ok a S _ h2) hd h3 (okEs_ok es S _ h4) h5 (of_decide_eq_true h7) (star_no h6) h8 fun z => ?_
        subst z
        cases es with
        | nil => rfl
        | cons b a r => cases b <;> (unfold okEs at h4; cases h4)
      · cases h
    · cases h
  | .bfn b es, S, e, h => by
    have gen : ∀ (x : Str) (p : Pos) (xs : List Expr) (pos : Pos), ((decide (b.nm.2 ≠ "") && okBlt S x b.nm.2) && (okEs P S es xs && (xs.all plainE && decide (xs ≠ [])))) = true → SE CX P F G k S (.Call (.Name x p) xs [] pos) (.bfn b es) := fun x p xs pos h => by
      obtain ⟨h1, h⟩ := band h
      obtain ⟨h1, h2⟩ := band h1
      obtain ⟨h3, h⟩ := band h
      obtain ⟨h4, h5⟩ := band h
      have hs := okEs_ok es S _ h3
      cases xs with
      | nil => exact absurd rfl (of_decide_eq_true h5)
      | cons x xs =>
        rw [List.all_cons] at h4
        exact se_bfn (of_decide_eq_true h1) h2 hs (band h4).1 (band h4).2
    unfold okE at h
    cases b with
    | rng1 =>
      dsimp only at h
      split at h
      · obtain ⟨h1, h⟩ := band h
        obtain ⟨h2, h⟩ := band h
        obtain ⟨h3, h4⟩ := band h
        exact se_rng1 (f := false) h1 h2 (okE_ok _ S _ h3) h4
      · cases h
    | rng2 =>
      dsimp only at h
      split at h
      · obtain ⟨h1, h⟩ := band h
        obtain ⟨h2, h⟩ := band h
        obtain ⟨h3, h5⟩ := band h
        obtain ⟨h3, h4⟩ := band h3
        obtain ⟨h5, h6⟩ := band h5
        exact se_rng2 h1 h2 (okE_ok _ S _ h3) (okE_ok _ S _ h5) h4 h6
      · cases h
    | litems =>
      dsimp only at h
      split at h
      · obtain ⟨h1, h⟩ := band h
        obtain ⟨h2, h⟩ := band h
        obtain ⟨h3, h5⟩ := band h
        obtain ⟨h3, h4⟩ := band h3
        exact se_litems h1 (of_decide_eq_true h2) (okE_ok _ S _ h3) h4 h5
      · cases h
    | titems =>
      dsimp only at h
      split at h
      · obtain ⟨h1, h⟩ := band h
        obtain ⟨h2, h⟩ := band h
        obtain ⟨h3, h5⟩ := band h
        obtain ⟨h3, h4⟩ := band h3
        exact se_titems h1 (of_decide_eq_true h2) (okE_ok _ S _ h3) h4 h5
      · cases h
    | sortset =>
      dsimp only at h
      split at h
      · obtain ⟨h1, h⟩ := band h
        obtain ⟨h2, h⟩ := band h
        obtain ⟨h3, h4⟩ := band h
        exact se_sortset h1 h2 (okE_ok _ S _ h3) h4
      · cases h
    | _ =>
      dsimp only at h
      split at h
      · exact gen _ _ _ _ h
      · cases h
  | .bm m a es, S, e, h => by
    unfold okE at h; split at h
    · rename_i xs _
      obtain ⟨h1, h⟩ := band h
      obtain ⟨h1, h2⟩ := band h1
      obtain ⟨h1, h0⟩ := band h1
      obtain ⟨h2, h3⟩ := band h2
      obtain ⟨h4, h⟩ := band h
      obtain ⟨h4, h5⟩ := band h4
      obtain ⟨h6, h7⟩ := band h
      have hs := okEs_ok es S _ h4
      cases xs with
      | nil =>
        cases es with
        | nil => exact se_bm0 (of_decide_eq_true h1) (of_decide_eq_true h0) (okE_ok a S _ h2) h3 h7
        | cons b a r => cases b <;> (unfold okEs at h4; cases h4)
      | cons x xs => exact se_bm (of_decide_eq_true h1) (of_decide_eq_true h0) (okE_ok a S _ h2) h3 hs h5 (of_decide_eq_true h6) h7
    · cases h
  | .isin a t, S, e, h => by
    unfold okE at h; split at h
    · obtain ⟨h1, h⟩ := band h
      obtain ⟨h2, h3⟩ := band h
      obtain ⟨h2, h4⟩ := band h2
      exact se_isin h1 (okE_ok a S _ h2) h4 h3
    · cases h
  | .tup es, S, e, h => by
    unfold okE at h; split at h
    · exact se_tup (okEs_ok es S _ h)
    · cases h
  | .lst es, S, e, h => by
    unfold okE at h; split at h
    · exact se_lst (okEs_ok es S _ h)
    · cases h
  | .dic t kvs, S, e, h => by
    unfold okE at h; split at h
    · cases kvs with
      | nil =>
        dsimp only at h
        obtain ⟨rfl, rfl⟩ := of_decide_eq_true h
        exact se_dic0
      | cons a b r =>
        dsimp only at h
        obtain ⟨h1, h⟩ := band h
        obtain ⟨h1, h2⟩ := band h1
        obtain ⟨h3, h⟩ := band h
        obtain ⟨h4, h⟩ := band h
        obtain ⟨h5, h6⟩ := band h
        have ht : t = false := by simpa using h1
        subst ht
        exact se_dic (okD_ok (.cons a b r) S _ _ h2) h3 (of_decide_eq_true h4) (of_decide_eq_true h5) (of_decide_eq_true h6)
    · cases h
  | .comp ce t ci c, S, e, h => by
    unfold okE at h; split at h
    · obtain ⟨h1, h⟩ := band h
      obtain ⟨h1, h2⟩ := band h1
      obtain ⟨h2, h3⟩ := band h2
      obtain ⟨h3, h4⟩ := band h3
      obtain ⟨h5, h6⟩ := band h
      exact se_comp (okI_ok ci S _ _ h1) (okT_ok t _ _ h2) (okC_ok c _ _ h3) (okE_ok ce _ _ h4) h5 h6
    · cases h
  | .dcomp tk ck cv t ci, S, e, h => by
    unfold okE at h; split at h
    · obtain ⟨h1, h8⟩ := band h
      obtain ⟨h1, h2⟩ := band h1
      obtain ⟨h2, h3⟩ := band h2
      obtain ⟨h3, h4⟩ := band h3
      obtain ⟨h5, h6⟩ := band h8
      clear h h8
      cases tk with
      | true => exact se_dcomp (okI_ok ci S _ _ h1) (okT_ok t _ _ h2) (okE_ok ck _ _ h3) (okE_ok cv _ _ h4) h5 h6
      | false => exact se_dcompK (okI_ok ci S _ _ h1) (okT_ok t _ _ h2) (okE_ok ck _ _ h3) (okE_ok cv _ _ h4) h5 h6
    · cases h
  | .box a, S, e, h => by
    unfold okE at h
    obtain ⟨h1, h⟩ := band h
    obtain ⟨h2, h3⟩ := band h
    exact se_box (okE_ok a S e h2) h1 (valE_ok h3)
  | .frz a, S, e, h => by
    unfold okE at h
    obtain ⟨h2, h3⟩ := band h
    exact se_frz (okE_ok a S e h2) (valE_ok h3)
  | .comp2 _ _ _ _ _, S, e, h => by unfold okE at h; cases h
  | .fstr es, S, e, h => by
    unfold okE at h; split at h
    · obtain ⟨h1, h2⟩ := band h
      exact se_fstr (okFs_ok es S _ h2) h1
    · cases h
theorem okP_ok : ∀ (c : CP) (S : Cst) (e : Option Expr), okP P S c e = true → SP CX P F G k S e c
  | .no, S, e, h => by
    unfold okP at h; split at h
    · exact sp_no
    · cases h
  | .yes a, S, e, h => by
    unfold okP at h; split at h
    · exact sp_yes (okE_ok a S _ h)
    · cases h
theorem okC_ok : ∀ (c : CP) (S : Cst) (e : List Expr), okC P S c e = true → SC CX P F G k S e c
  | .no, S, e, h => by
    unfold okC at h; split at h
    · exact sc_no
    · cases h
  | .yes a, S, e, h => by
    unfold okC at h; split at h
    · exact sc_yes (okE_ok a S _ h)
    · cases h
theorem okB_ok : ∀ (es : CEs) (S : Cst) (isAnd : Bool) (xs : List Expr) (pos : Pos), okB P S es xs = true → SE CX P F G k S (.BoolOp (bop isAnd) xs pos) (.bools isAnd es)
  | .nil, S, isAnd, xs, pos, h => by unfold okB at h; cases h
  | .cons f a .nil, S, isAnd, xs, pos, h => by
    unfold okB at h
    cases xs with
    | nil => cases h
    | cons x xs =>
      cases xs with
      | nil => exact se_bool1 (okE_ok a S _ (band h).1)
      | cons y ys => cases (band h).2
  | .cons f a (.cons f2 b r), S, isAnd, xs, pos, h => by
    unfold okB at h
    cases xs with
    | nil => cases h
    | cons x xs =>
      cases xs with
      | nil => cases (band h).2
      | cons y ys => exact se_bool2 (okE_ok a S _ (band h).1) (okB_ok (.cons f2 b r) S isAnd (y :: ys) pos (band h).2)
theorem okEs_ok : ∀ (es : CEs) (S : Cst) (xs : List Expr), okEs P S es xs = true → SEs CX P F G k S xs es
  | .nil, S, xs, h => by
    unfold okEs at h; split at h
    · exact ses_nil
    · cases h
  | .cons false a r, S, xs, h => by
    unfold okEs at h; split at h
    · cases h
    · obtain ⟨h1, h⟩ := band h
      obtain ⟨h2, h3⟩ := band h
      exact ses_cons (okE_ok a S _ h2) (okEs_ok r S _ h3) h1
  | .cons true a r, S, xs, h => by
    unfold okEs at h; split at h
    · obtain ⟨h2, h3⟩ := band h
      exact ses_star (okE_ok a S _ h2) (okEs_ok r S _ h3)
    · cases h
theorem okD_ok : ∀ (es : CKs) (S : Cst) (ks : List (Option Expr)) (vs : List Expr), okD P S es ks vs = true → SD CX P F G k S ks vs es
  | .nil, S, ks, vs, h => by
    unfold okD at h; split at h
    · exact sd_nil
    · cases h
  | .cons a b r, S, ks, vs, h => by
    unfold okD at h; split at h
    · obtain ⟨h1, h⟩ := band h
      obtain ⟨h2, h3⟩ := band h
      exact sd_cons (okE_ok a S _ h1) (okE_ok b S _ h2) (okD_ok r S _ _ h3)
    · cases h
theorem okFs_ok : ∀ (es : CEs) (S : Cst) (xs : List Expr), okFs P S es xs = true → FPs CX P F G k S xs es
  | .nil, S, xs, h => by
    unfold okFs at h; split at h
    · exact .nil
    · cases h
  | .cons false a r, S, xs, h => by
    unfold okFs at h; split at h
    · obtain ⟨h1, h⟩ := band h
      obtain ⟨h2, h3⟩ := band h
      cases of_decide_eq_true h1
      exact .fmt (okE_ok a S _ h2) (okFs_ok r S _ h3)
    · split at h
      · obtain ⟨h1, h2⟩ := band h
        cases of_decide_eq_true h1
        exact .txt (okFs_ok r S _ h2)
      · cases h
    · cases h
  | .cons true a r, S, xs, h => by unfold okFs at h; cases h
theorem okI_ok : ∀ (c : CI) (S : Cst) (tg e : Expr), okI P S c tg e = true → SI CX P F G k S tg e c
  | .seq a, S, tg, e, h => by unfold okI at h; exact si_seq (okE_ok a S e h)
  | .rng1 a, S, tg, e, h => by
    unfold okI at h; split at h
    · obtain ⟨h1, h⟩ := band h
      obtain ⟨h2, h3⟩ := band h
      exact si_rng1 h1 (okE_ok a S _ h2) h3
    · cases h
  | .rng2 a b, S, tg, e, h => by
    unfold okI at h; split at h
    · obtain ⟨h1, h⟩ := band h
      obtain ⟨h2, h3⟩ := band h
      obtain ⟨h2, h4⟩ := band h2
      obtain ⟨h3, h5⟩ := band h3
      exact si_rng2 h1 (okE_ok a S _ h2) (okE_ok b S _ h3) h4 h5
    · cases h
  | .enum a, S, tg, e, h => by
    unfold okI at h; split at h
    · obtain ⟨h1, h⟩ := band h
      obtain ⟨h2, h3⟩ := band h
      exact si_enum h1 (okE_ok a S _ h2) h3
    · cases h
  | .rng3 a b c, S, tg, e, h => by
    unfold okI at h; split at h
    · obtain ⟨h1, h⟩ := band h
      obtain ⟨h0, h⟩ := band h
      obtain ⟨h2, h3⟩ := band h
      obtain ⟨h2, h4⟩ := band h2
      obtain ⟨h3, h5⟩ := band h3
      cases of_decide_eq_true h0
      exact si_rng3 h1 (okE_ok a S _ h2) (okE_ok b S _ h3) h4 h5
    · cases h
  | .zip (.cons false a (.cons false b .nil)), S, tg, e, h => by
    unfold okI at h; dsimp only at h; split at h
    · obtain ⟨h1, h⟩ := band h
      obtain ⟨h2, h3⟩ := band h
      obtain ⟨h2, h4⟩ := band h2
      obtain ⟨h3, h5⟩ := band h3
      exact si_zip h1 (okE_ok a S _ h2) (okE_ok b S _ h3) h4 h5
    · cases h
  | .zip .nil, S, tg, e, h => by unfold okI at h; cases h
  | .zip (.cons true _ _), S, tg, e, h => by unfold okI at h; cases h
  | .zip (.cons false _ .nil), S, tg, e, h => by unfold okI at h; cases h
  | .zip (.cons false _ (.cons true _ _)), S, tg, e, h => by unfold okI at h; cases h
  | .zip (.cons false _ (.cons false _ (.cons _ _ _))), S, tg, e, h => by unfold okI at h; cases h
  | .items _, S, tg, e, h => by unfold okI at h; cases h
  | .keys _, S, tg, e, h => by unfold okI at h; cases h
  | .lit _, S, tg, e, h => by unfold okI at h; cases h
theorem okT_ok : ∀ (t : CT) (S : Cst) (e : Expr), okT P S t e = true → ST CX P F G k S e t
  | .var i, S, e, h => by
    unfold okT at h; split at h
    · exact st_var h
    · cases h
  | .tup ts, S, e, h => by
    unfold okT at h; split at h
    · obtain ⟨h1, h⟩ := band h
      obtain ⟨h2, h3⟩ := band h
      exact st_tup (okTs_ok ts S _ h1) h2 (of_decide_eq_true h3)
    · cases h
  | .attr _ _, S, e, h => by unfold okT at h; cases h
  | .idx a b, S, e, h => by
    unfold okT at h; split at h
    · obtain ⟨h1, h⟩ := band h
      obtain ⟨h2, h3⟩ := band h
      exact st_idx (okE_ok a S _ h1) (okE_ok b S _ h2) h3
    · cases h
theorem okTs_ok : ∀ (ts : CTs) (S : Cst) (xs : List Expr), okTs P S ts xs = true → STs CX P F G k S xs ts
  | .nil, S, xs, h => by
    unfold okTs at h; split at h
    · exact sts_nil
    · cases h
  | .cons t r, S, xs, h => by
    unfold okTs at h; split at h
    · cases h
    · obtain ⟨h1, h⟩ := band h
      obtain ⟨h2, h3⟩ := band h
      exact sts_cons (okT_ok t S _ h2) (okTs_ok r S _ h3) h1
end
end
end MP
end MPy_text

section MPz_text
set_option Elab.async false
set_option linter.all false
set_option maxRecDepth 100000
set_option maxHeartbeats 4000000
/-! The checker of statements. -/
namespace MP
open PySem PySem.Spec PyProof.Rows L2
/-- a comprehension that is stored on one line -/
def okAc (P : Prog) (S : Cst) (i : Nat) (tg e : Expr) : CE → Bool
  | .dcomp false ck cv t ci => match tg, e with
    | .Name y py, .DictComp x2 y2 [⟨tg2, it, [], 0⟩] scope pos => ((okI P S ci tg2 it && (okT P ⟨S.N, scope, false⟩ t tg2 && (okE P ⟨S.N, scope, false⟩ ck x2 && okE P ⟨S.N, scope, false⟩ cv y2))) && (okBlk S scope (ownOf S scope) t.names && noSet it)) &&
        ((okLoc S i y && decide (S.sc.names.lookup y = some .local)) && ((py.line == pos.line) && !(scope.names.any fun q => q.1 == y && (q.2 == .local || q.2 == .cell))))
    | _, _ => false
  | .comp ce t ci c => match tg, e with
    | .Name y py, .ListComp el [⟨tg2, it, ifs, 0⟩] scope pos => ((okI P S ci tg2 it && (okT P ⟨S.N, scope, false⟩ t tg2 && (okC P ⟨S.N, scope, false⟩ c ifs && okE P ⟨S.N, scope, false⟩ ce el))) && (okBlk S scope (ownOf S scope) t.names && noSet it)) &&
        ((okLoc S i y && decide (S.sc.names.lookup y = some .local)) && ((py.line == pos.line) && !(scope.names.any fun q => q.1 == y && (q.2 == .local || q.2 == .cell))))
    | _, _ => false
  | _ => false
def okZc (P : Prog) (S : Cst) (i : Nat) (cs : CEs) (j : Nat) (ce : CE) (t : CT) (c : CP) (x z : Str) (as : List Expr) (y : Str) (py : Pos) (x2 : Str) (tg : Expr) (ifs : List Expr) (el : Expr) (scope : Scope) (pos : Pos) : Bool :=
  ((okBlt S z "zip" && (okEs P S cs as && as.all plainE)) && (decide (x2 = x) && (okLoc S i x && okVar S i x))) &&
    (((okT P ⟨S.N, scope, false⟩ t tg && (okC P ⟨S.N, scope, false⟩ c ifs && okE P ⟨S.N, scope, false⟩ ce el)) && okBlk S scope (ownOf S scope) t.names) &&
    ((okLoc S j y && decide (S.sc.names.lookup y = some .local)) && ((py.line == pos.line) && !(scope.names.any fun q => q.1 == y && (q.2 == .local || q.2 == .cell)))))
mutual
def okS (P : Prog) (S : Cst) : CS → Stmt → Bool
  | .pass, s => match s with
    | .Pass _ => true
    | _ => false
  | .expr a, s => match s with
    | .Expr x _ => okE P S a x && noComp x
    | _ => false
  | .asg t a, s => match s with
    | .Assign [tg] x _ => match t with
      | .attr o f => match tg with
        | .Attribute y n _ => match P.attrs[f]? with
          | some m => decide (n = SS m) && (okE P S o y && okE P S a x)
          | none => false
        | _ => false
      | .var i => if noComp x || slowNm S tg then okT P S (.var i) tg && (okE P S a x && (plainE tg && (noSwap tg x || slowTg S tg))) else match a with
        | .box b => okAc P S i tg x b
        | b => okAc P S i tg x b
      | t => okT P S t tg && (okE P S a x && (plainE tg && ((noSwap tg x || slowTg S tg) && (noComp x || !isName tg))))
    | _ => false
  | .par is es, s => match s with
    | .Assign [.Tuple [.Name x px, .Name y py] _ _] (.Tuple [a, b] _ _) _ => match is with
      | [i, j] => ((okLoc S i x && okLoc S j y) && (okSw S px.line x px && okSw S px.line y py)) && (decide (x ≠ y) && (okVs [a, b] && okEs P S es [a, b]))
      | _ => false
    | .Assign [.Tuple [.Name x px, .Name y py, .Name z pz] _ _] (.Tuple [a, b, d] _ _) _ => match is with
      | [i, j, l] => ((okLoc S i x && (okLoc S j y && okLoc S l z)) && (okSw S px.line x px && (okSw S px.line y py && okSw S px.line z pz))) && ((decide (x ≠ y) && (decide (x ≠ z) && decide (y ≠ z))) && (okVs [a, b, d] && okEs P S es [a, b, d]))
      | _ => false
    | _ => false
  | .aug i o a, s => match s with
    | .AugAssign (.Name x _) op y _ => (okLoc S i x && okE P S a y) && ((decide (o = .sub) && decide (op = .Sub)) || (decide (o = .add) && decide (op = .Add)))
    | _ => false
  | .ifs c p q, s => match s with
    | .If x a b _ => okE P S c x && (okSs P S p a && okSs P S q b)
    | _ => false
  | .fors t ci b, s => match s with
    | .For tg it body [] _ => okT P S t tg && (okI P S ci tg it && (okSs P S b body && (noSet it && S.top)))
    | _ => false
  | .whiles c b, s => match s with
    | .While x body [] _ => okE P S c x && (okSs P S b body && S.top)
    | _ => false
  | .ret e, s => match e with
    | .no => match s with
      | .Return none _ => true
      | _ => false
    | .yes a => match s with
      | .Return (some x) _ => okE P S a x
      | _ => false
  | .raise _ _, _ => false
  | .never, _ => true
  | .zipc .., _ => false
def okSs (P : Prog) (S : Cst) : CSs → List Stmt → Bool
  | .nil, s => match s with
    | [] => true
    | _ => false
  | .cons c r, s => match c with
    | .zipc i cs j ce t cp => match s with
      | .Assign [.Name x _] (.Call (.Name z _) [a1, a2, a3] [] _) _ :: .Assign [.Name y py] (.ListComp el [⟨.Tuple tgs kk tp, .Name x2 _, ifs, 0⟩] scope pos) _ :: xs => okZc P S i cs j ce t cp x z [a1, a2, a3] y py x2 (.Tuple tgs kk tp) ifs el scope pos && okSs P S r xs
      | _ => false
    | _ => match s with
      | [] => false
      | x :: xs => okS P S c x && okSs P S r xs
end
section
variable {CX : CXT} {P : Prog} {F : Fns} {G : Wd} {k : Nat}
theorem okAc_ok (bx : Bool) {S : Cst} {i : Nat} {tg e : Expr} {a : CE} {pos : Pos} (h : okAc P S i tg e a = true) : SSt CX P F G k S (.Assign [tg] e pos) (.asg (.var i) (if bx then .box a else a)) := by
  unfold okAc at h
  split at h
  · split at h
    · obtain ⟨h, h7⟩ := band h
      obtain ⟨h1, h5⟩ := band h
      obtain ⟨h1, h2⟩ := band h1
      obtain ⟨h2, h3⟩ := band h2
      obtain ⟨h3, h4⟩ := band h3
      obtain ⟨h5, h6⟩ := band h5
      obtain ⟨h7, h9⟩ := band h7
      obtain ⟨h7, h8⟩ := band h7
      obtain ⟨h9, h10⟩ := band h9
      exact ss_asgd (okI_ok _ S _ _ h1) (okT_ok _ _ _ h2) (okE_ok _ _ _ h3) (okE_ok _ _ _ h4) h5 h6 h7 (of_decide_eq_true h8) h9 (by simpa using h10)
    · cases h
  · split at h
    · obtain ⟨h, h7⟩ := band h
      obtain ⟨h1, h5⟩ := band h
      obtain ⟨h1, h2⟩ := band h1
      obtain ⟨h2, h3⟩ := band h2
      obtain ⟨h3, h4⟩ := band h3
      obtain ⟨h5, h6⟩ := band h5
      obtain ⟨h7, h9⟩ := band h7
      obtain ⟨h7, h8⟩ := band h7
      obtain ⟨h9, h10⟩ := band h9
      exact ss_asgc (okI_ok _ S _ _ h1) (okT_ok _ _ _ h2) (okC_ok _ _ _ h3) (okE_ok _ _ _ h4) h5 h6 h7 (of_decide_eq_true h8) h9 (by simpa using h10)
    · cases h
  · cases h
mutual
theorem okS_ok : ∀ (c : CS) (S : Cst) (s : Stmt), okS P S c s = true → SSt CX P F G k S s c
  | .pass, S, s, h => by
    unfold okS at h; split at h
    · exact ss_pass
    · cases h
  | .expr a, S, s, h => by
    unfold okS at h; split at h
    · obtain ⟨h1, h2⟩ := band h
      exact ss_expr (okE_ok a S _ h1) h2
    · cases h
  | .asg t a, S, s, h => by
    unfold okS at h; split at h
    · cases t with
      | attr o f =>
        dsimp only at h
        split at h
        · split at h
          · rename_i hm
            obtain ⟨h1, h⟩ := band h
            obtain ⟨h2, h3⟩ := band h
            cases of_decide_eq_true h1
            exact ss_fld (okE_ok o S _ h2) (okE_ok a S _ h3) hm
          · cases h
        · cases h
      | var i =>
        dsimp only at h
        split at h
        · rename_i hn
          obtain ⟨h1, h⟩ := band h
          obtain ⟨h2, h⟩ := band h
          obtain ⟨h3, h4⟩ := band h
          exact ss_asg (okT_ok _ S _ h1) (okE_ok a S _ h2) h3 ((Bool.or_eq_true_iff.mp hn).imp_left .inl) (Bool.or_eq_true_iff.mp h4)
        · split at h
          · exact okAc_ok true h
          · exact okAc_ok false h
      | tup ts =>
        dsimp only at h
        obtain ⟨h1, h⟩ := band h
        obtain ⟨h2, h⟩ := band h
        obtain ⟨h3, h⟩ := band h
        obtain ⟨h4, h5⟩ := band h
        exact ss_asg (okT_ok _ S _ h1) (okE_ok a S _ h2) h3 (.inl (by simpa using h5)) (Bool.or_eq_true_iff.mp h4)
      | idx o j =>
        dsimp only at h
        obtain ⟨h1, h⟩ := band h
        obtain ⟨h2, h⟩ := band h
        obtain ⟨h3, h⟩ := band h
        obtain ⟨h4, h5⟩ := band h
        exact ss_asg (okT_ok _ S _ h1) (okE_ok a S _ h2) h3 (.inl (by simpa using h5)) (Bool.or_eq_true_iff.mp h4)
    · cases h
  | .par is es, S, s, h => by
    unfold okS at h; split at h
    · split at h
      · obtain ⟨h, h5⟩ := band h
        obtain ⟨h1, h3⟩ := band h
        obtain ⟨h1, h2⟩ := band h1
        obtain ⟨h3, h4⟩ := band h3
        obtain ⟨h5, h6⟩ := band h5
        obtain ⟨h6, h7⟩ := band h6
        exact ss_par2 h1 h2 h3 h4 (of_decide_eq_true h5) h6 (okEs_ok es S _ h7)
      · cases h
    · split at h
      · obtain ⟨h, h5⟩ := band h
        obtain ⟨h1, h3⟩ := band h
        obtain ⟨h1, h2⟩ := band h1
        obtain ⟨h2, h2b⟩ := band h2
        obtain ⟨h3, h4⟩ := band h3
        obtain ⟨h4, h4b⟩ := band h4
        obtain ⟨h5, h6⟩ := band h5
        obtain ⟨h5, h5b⟩ := band h5
        obtain ⟨h5b, h5c⟩ := band h5b
        obtain ⟨h6, h7⟩ := band h6
        exact ss_par3 h1 h2 h2b h3 h4 h4b (of_decide_eq_true h5) (of_decide_eq_true h5b) (of_decide_eq_true h5c) h6 (okEs_ok es S _ h7)
      · cases h
    · cases h
  | .aug i o a, S, s, h => by
    unfold okS at h; split at h
    · obtain ⟨h1, h⟩ := band h
      obtain ⟨h1, h2⟩ := band h1
      rcases Bool.or_eq_true_iff.mp h with h | h
      · obtain ⟨h3, h4⟩ := band h
        cases of_decide_eq_true h3
        cases of_decide_eq_true h4
        exact ss_aug true h1 (okE_ok a S _ h2)
      · obtain ⟨h3, h4⟩ := band h
        cases of_decide_eq_true h3
        cases of_decide_eq_true h4
        exact ss_aug false h1 (okE_ok a S _ h2)
    · cases h
  | .ifs c p q, S, s, h => by
    unfold okS at h; split at h
    · obtain ⟨h1, h⟩ := band h
      obtain ⟨h2, h3⟩ := band h
      exact ss_if (okE_ok c S _ h1) (okSs_ok p S _ h2) (okSs_ok q S _ h3)
    · cases h
  | .fors t ci b, S, s, h => by
    unfold okS at h; split at h
    · obtain ⟨h1, h⟩ := band h
      obtain ⟨h2, h⟩ := band h
      obtain ⟨h3, h⟩ := band h
      obtain ⟨h4, h5⟩ := band h
      exact ss_for (okT_ok t S _ h1) (okI_ok ci S _ _ h2) (okSs_ok b S _ h3) h4 h5
    · cases h
  | .whiles c b, S, s, h => by
    unfold okS at h; split at h
    · obtain ⟨h1, h⟩ := band h
      obtain ⟨h2, h3⟩ := band h
      exact ss_while (okE_ok c S _ h1) (okSs_ok b S _ h2) h3
    · cases h
  | .ret .no, S, s, h => by
    unfold okS at h
    dsimp only at h
    split at h
    · exact ss_ret0
    · cases h
  | .ret (.yes a), S, s, h => by
    unfold okS at h
    dsimp only at h
    split at h
    · exact ss_ret (okE_ok a S _ h)
    · cases h
  | .raise _ _, S, s, h => by unfold okS at h; cases h
  | .never, S, s, h => ss_never
  | .zipc .., S, s, h => by unfold okS at h; cases h
theorem okSs_ok : ∀ (c : CSs) (S : Cst) (s : List Stmt), okSs P S c s = true → SSs CX P F G k S s c
  | .nil, S, s, h => by
    unfold okSs at h; split at h
    · exact sss_nil
    · cases h
  | .cons c r, S, s, h => by
    unfold okSs at h; split at h
    · split at h
      · obtain ⟨h1, hr⟩ := band h
        have hr := okSs_ok r S _ hr
        unfold okZc at h1
        obtain ⟨h1, h2⟩ := band h1
        obtain ⟨h1, h3⟩ := band h1
        obtain ⟨hz, h1⟩ := band h1
        obtain ⟨hes, hpl⟩ := band h1
        obtain ⟨hx, h3⟩ := band h3
        obtain ⟨hi, hv⟩ := band h3
        obtain ⟨h2, h4⟩ := band h2
        obtain ⟨h2, hb⟩ := band h2
        obtain ⟨ht, h2⟩ := band h2
        obtain ⟨hc, he⟩ := band h2
        obtain ⟨h4, h5⟩ := band h4
        obtain ⟨hj, hl⟩ := band h4
        obtain ⟨hln, hno⟩ := band h5
        cases of_decide_eq_true hx
        simp only [List.all_cons, List.all_nil, Bool.and_true, Bool.and_eq_true] at hpl
        exact sss_zipc hz hpl.1 hpl.2.1 hpl.2.2 (okEs_ok _ S _ hes) hi hv (okT_ok _ _ _ ht) (okC_ok _ _ _ hc) (okE_ok _ _ _ he) hb hj (of_decide_eq_true hl) hln (by simpa using hno) hr
      · cases h
    · split at h
      · cases h
      · obtain ⟨h1, h2⟩ := band h
        exact sss_cons (okS_ok c S _ h1) (okSs_ok r S _ h2)
end
end
end MP
end MPz_text

section MPza_text
set_option Elab.async false
set_option linter.all false
set_option maxRecDepth 100000
set_option maxHeartbeats 4000000
/-! What is read off the program's top, and what it gives. -/
namespace MP
open PySem PySem.Spec PyProof.Rows L2

theorem FX.funD {K : PySem.W.Frag} {x : FX} (e : fnQ K (fadr K x) = x.val) (c : x.ok K = true) : ∃ u, FunD K x.nm x.qual x.params x.body x.scope (x.dvs K) [] (fadr K x) u := by
  unfold FX.ok at c
  obtain ⟨kp, c⟩ := Bool.and_eq_true_iff.mp c
  unfold fnQ at e
  generalize fadr K x = a at *
  cases q : K.lookup a with
  | none => rw [q] at c; cases c
  | some o =>
    obtain ⟨oc, od, dt, osl⟩ := o
    rw [q] at c e
    cases dt with
    | func u =>
      obtain ⟨n1, n2, n3, n4, n5, n6, n7, n8, n9, n10, n11, n12, n13, n14, n15⟩ := u
      unfold FX.val at e
      simp only [Option.some.injEq, Prod.mk.injEq] at e
      obtain ⟨h1, h2, h3, h4, h5, h6, h7, h8⟩ := e
      subst h1 h2 h3 h4 h5 h6 h7 h8
      obtain ⟨k1, k2⟩ := Bool.and_eq_true_iff.mp c
      exact ⟨_, ⟨oc, od, n8, n9, n10, n11, n12, n13, n14, osl, rfl, q, k1, He.dflB_ok k2, .inl rfl⟩, kp⟩
    | _ => cases c

/-! ### static facts of a def -/
def dvRel : CV → He.Dv → Bool
  | .non, .non => true
  | .bl a, .bl b => a == b
  | .int a, .int b => decide (a = b)
  | _, _ => false
def dvRels : List CV → List He.Dv → Bool
  | [], [] => true
  | a :: r, b :: s => dvRel a b && dvRels r s
  | _, _ => false
theorem dvRels_ok {K : PySem.W.Frag} {G : Wd} : ∀ {as : List CV} {bs : List He.Dv}, dvRels as bs = true → ∀ ρ L H, RepVs G ρ L H as (bs.map (He.Dv.v K))
  | [], [], _, _, _, _ => .nil
  | [], _ :: _, h, _, _, _ => by cases h
  | _ :: _, [], h, _, _, _ => by cases h
  | a :: r, b :: s, h, ρ, L, H => by
    unfold dvRels at h
    obtain ⟨h1, h2⟩ := Bool.and_eq_true_iff.mp h
    refine .cons ?_ (dvRels_ok h2 ρ L H)
    cases a <;> cases b <;> first | cases h1 | skip
    · exact .non
    · have := eq_of_beq (show (_ == _) = true from h1); subst this; exact .bl _
    · have := of_decide_eq_true (show decide (_ = _) = true from h1); subst this; exact .int _
theorem dvRels_len : ∀ {as : List CV} {bs : List He.Dv}, dvRels as bs = true → as.length = bs.length
  | [], [], _ => rfl
  | [], _ :: _, h => by cases h
  | _ :: _, [], h => by cases h
  | a :: r, b :: s, h => by
    unfold dvRels at h
    exact congrArg Nat.succ (dvRels_len (Bool.and_eq_true_iff.mp h).2)
theorem dvRels_drop : ∀ {as : List CV} {bs : List He.Dv} (j : Nat), dvRels as bs = true → dvRels (as.drop j) (bs.drop j) = true
  | _, _, 0, h => h
  | [], [], _ + 1, _ => rfl
  | [], _ :: _, _ + 1, h => by cases h
  | _ :: _, [], _ + 1, h => by cases h
  | a :: r, b :: s, j + 1, h => by
    unfold dvRels at h
    exact dvRels_drop j (Bool.and_eq_true_iff.mp h).2
structure FnS (P : Prog) (x : FX) (d : FnI) : Prop where
  sc : FnScope x.N x.ps x.scope
  st : (decide (x.ps.length = d.arity) && (decide (x.N.length = d.slots) && (decide (d.arity ≤ d.slots) && (dvRels d.dfl x.dfl && (decide (x.dfl.length ≤ x.ps.length) && decide (d.name = [] ∨ (x.cls = Str.empty ∧ x.nm = SS d.name))))))) = true
  ok : okSs P ⟨x.N, x.scope, true⟩ d.body x.body = true
  bn : x.dfl = [] → ∀ (kV doc pm : Value) (an : Option Addr) (cdv ct : Value) (us : List Value), us.length = x.ps.length → bindArgs (PySem.W.fnOf x.nm x.qual x.params x.body x.scope .none kV doc pm an cdv ct) ⟨us, []⟩ = pure (x.ps.zip us)
  bd : x.dfl ≠ [] → ∀ j, j ≤ x.dfl.length → ∀ (T : Addr) (kV doc pm : Value) (an : Option Addr) (cdv ct : Value) (us its : List Value), us.length = x.ps.length - (x.dfl.length - j) → its.length = x.dfl.length →
    ∃ k, bindArgs (PySem.W.fnOf x.nm x.qual x.params x.body x.scope (.ref T) kV doc pm an cdv ct) ⟨us, []⟩ = seqItems? (.ref T) >>= k ∧ k (some its.toArray) = pure (x.ps.zip (us ++ its.drop j))
def AllF (P : Prog) : List FX → List FnI → Prop
  | [], [] => True
  | x :: r, d :: s => FnS P x d ∧ AllF P r s
  | _, _ => False
theorem AllF.app {P : Prog} : ∀ {a c : List FX} {b d : List FnI}, AllF P a b → AllF P c d → AllF P (a ++ c) (b ++ d)
  | [], _, [], _, _, k => k
  | _ :: _, _, _ :: _, _, h, k => ⟨h.1, h.2.app k⟩
  | [], _, _ :: _, _, h, _ => h.elim
  | _ :: _, _, [], _, h, _ => h.elim
theorem AllF.get {P : Prog} : ∀ {a : List FX} {b : List FnI} {i : Nat} {d : FnI}, AllF P a b → b[i]? = some d → ∃ x, a[i]? = some x ∧ FnS P x d
  | [], [], _, _, _, e => by simp at e
  | x :: _, y :: _, 0, _, h, e => by simp at e; subst e; exact ⟨x, rfl, h.1⟩
  | _ :: r, _ :: s, i + 1, d, h, e => by
    obtain ⟨x, h1, h2⟩ := AllF.get (i := i) (d := d) h.2 (by simpa using e)
    exact ⟨x, by simpa using h1, h2⟩
  | [], _ :: _, _, _, h, _ => h.elim
  | _ :: _, [], _, _, h, _ => h.elim

/-- names of attributes -/
def attrsOk (as : List (List Nat)) : Bool := decide as.Nodup && as.all fun x => !(x.contains 0) && decide (x ≠ [])
theorem anP_inj {P : Prog} (h : attrsOk P.attrs = true) : ∀ f g, anP P f = anP P g → f = g := by
  obtain ⟨nd, h0⟩ := Bool.and_eq_true_iff.mp h
  have nd := of_decide_eq_true nd
  have key : ∀ (f : Nat) (x : List Nat), P.attrs[f]? = some x → ∀ n, x ≠ List.replicate (n + 1) 0 := fun f x hx n e => by
    have := List.all_eq_true.mp h0 x (List.mem_of_getElem? hx)
    obtain ⟨h1, _⟩ := Bool.and_eq_true_iff.mp this
    subst e
    simp at h1
  intro f g e
  unfold anP at e
  cases hf : P.attrs[f]? with
  | some x =>
    cases hg : P.attrs[g]? with
    | some y =>
      rw [hf, hg] at e
      have exy : x = y := ss_inj (by simpa using e)
      subst exy
      obtain ⟨i1, z1⟩ := List.getElem?_eq_some_iff.mp hf
      obtain ⟨i2, z2⟩ := List.getElem?_eq_some_iff.mp hg
      exact (List.getElem_inj nd).mp (z1.trans z2.symm)
    | none =>
      rw [hf, hg] at e
      exact absurd (ss_inj (by simpa using e)) (key f x hf g)
  | none =>
    cases hg : P.attrs[g]? with
    | some y =>
      rw [hf, hg] at e
      exact absurd (ss_inj (by simpa using e.symm)) (key g y hg f)
    | none =>
      rw [hf, hg] at e
      have e2 : List.replicate (f + 1) 0 = List.replicate (g + 1) (0 : Nat) := ss_inj (by simpa using e)
      have := congrArg List.length e2
      simpa using this
theorem mem_of_lookup {m g : Nat} : ∀ {l : List (Nat × Nat)}, l.lookup m = some g → (m, g) ∈ l
  | [], h => by cases h
  | (a, b) :: r, h => by
    rw [List.lookup_cons] at h
    split at h
    · rename_i e
      cases h
      rw [eq_of_beq e]
      exact List.mem_cons_self ..
    · exact List.mem_cons_of_mem _ (mem_of_lookup h)
section
variable {prog : Program} {w : World} {K : PySem.W.Frag} {mg : Str → Option Value} {base h : Heap} {P : Prog} {xs : List FX}
theorem FX.binds {x : FX} {d : FnI} {f : Addr} {u : FuncData} (F : FunD K x.nm x.qual x.params x.body x.scope (x.dvs K) [] f u) (S : FnS P x d) (G : Wd) : ∀ j, j ≤ d.dfl.length → ∃ ds dvs, Binds K u x.ps ds ∧ Vals dvs ds ∧ ∀ ρ L H, RepVs G ρ L H (d.dfl.drop j) dvs := by
  intro j hj
  have st := S.st
  simp only [Bool.and_eq_true, decide_eq_true_eq] at st
  obtain ⟨h1, h2, h3, h4, h5, h6⟩ := st
  have hl := dvRels_len h4
  by_cases hd : x.dfl = []
  · have e0 : d.dfl = [] := by rw [hd] at hl; exact List.length_eq_zero_iff.mp hl
    have eD : x.dvs K = [] := by unfold FX.dvs; rw [hd]; rfl
    rw [eD] at F
    refine ⟨[], [], F.bindsN (S.bn hd), .nil, fun ρ L H => ?_⟩
    rw [e0]
    simp only [List.drop_nil]
    exact .nil
  · have nd : x.dvs K ≠ [] := by unfold FX.dvs; simpa using hd
    have ld : (x.dvs K).length = x.dfl.length := by unfold FX.dvs; simp
    obtain ⟨ds, hv, hb⟩ := F.binds1 (ps := x.ps) (x.ps.length - (x.dfl.length - j)) j nd (by rw [ld]; omega) fun T kV doc pm an cdv ct us its h1 h2 => S.bd hd j (by omega) T kV doc pm an cdv ct us its h1 (by rw [h2, ld])
    refine ⟨ds, _, hb, hv, fun ρ L H => ?_⟩
    have := dvRels_ok (K := K) (G := G) (dvRels_drop j h4) ρ L H
    unfold FX.dvs
    rw [← List.map_drop]
    exact this
/-- the world of a top read so -/
noncomputable def wdOf (P : Prog) (xs : List FX) (K : PySem.W.Frag) (fd : Nat → FuncData) : Wd := ⟨K, caK P K, anP P, faK xs K, fd, fun f => match xs[f]? with
  | some x => x.ps
  | none => []⟩
theorem ityK_v (fd : Nat → FuncData) (t : Ity) : t.v (wdOf P xs K fd) = ityK P K t := by cases t <;> rfl
theorem kdK_v (fd : Nat → FuncData) (t : Option Ity) : kdV (wdOf P xs K fd) t = kdK P K t := by
  cases t with
  | none => rfl
  | some t => exact ityK_v fd t
theorem itys_mem {t : Ity} (h : ∀ c, t = .cls c → c < P.clss.length) : t ∈ itys P := by
  unfold itys
  cases t with
  | cls c => exact List.mem_append_right _ (List.mem_map_of_mem (List.mem_range.mpr (h c rfl)))
  | _ => exact List.mem_append_left _ (by simp)
theorem fix_of (hK : K.In h) (hN : h.Ns mainGlobals mg) (says : SaysX P xs K) (hA : AllF P xs P.fns) (ha : attrsOk P.attrs = true) : ∃ G : Wd, (∀ base : Heap, FixS prog w K mg base P G) ∧ (∀ (f : Nat) x, xs[f]? = some x → x.cls = Str.empty → G.fa f = He.ga K x.nm) ∧
    ∀ (f : Nat) x, xs[f]? = some x → G.ps f = x.ps ∧ FunD K x.nm x.qual x.params x.body x.scope (x.dvs K) [] (G.fa f) (G.fd f) := by
  obtain ⟨chk, eqs⟩ := says
  unfold chkK at chk
  simp only [Bool.and_eq_true, List.all_eq_true, decide_eq_true_eq] at chk
  obtain ⟨c1, c2, c3, c4, c5, c6, c7⟩ := chk
  have fun_ : ∀ (f : Nat) x, xs[f]? = some x → ∃ u, FunD K x.nm x.qual x.params x.body x.scope (x.dvs K) [] (fadr K x) u := fun f x hx => by
    have e : (xs.map fun x => fnQ K (fadr K x))[f]? = (xs.map FX.val)[f]? := by rw [eqs]
    rw [List.getElem?_map, List.getElem?_map, hx] at e
    exact FX.funD (Option.some.inj e) (c1 x (List.mem_of_getElem? hx))
  let fd : Nat → FuncData := fun f => match hx : xs[f]? with
    | some x => Classical.choose (fun_ f x hx)
    | none => default
  have hfd : ∀ (f : Nat) x, xs[f]? = some x → FunD K x.nm x.qual x.params x.body x.scope (x.dvs K) [] (fadr K x) (fd f) := fun f x hx => by
    have : fd f = Classical.choose (fun_ f x hx) := by
      show (match hx : xs[f]? with
        | some x => Classical.choose (fun_ f x hx)
        | none => default) = _
      split
      · rename_i y hy
        have : y = x := Option.some.inj (hy.symm.trans hx)
        subst this
        rfl
      · rename_i hy
        rw [hx] at hy
        cases hy
    rw [this]
    exact Classical.choose_spec (fun_ f x hx)
  have hfa : ∀ (f : Nat) x, xs[f]? = some x → faK xs K f = fadr K x := fun f x hx => by unfold faK; rw [hx]
  have hps : ∀ (f : Nat) x, xs[f]? = some x → (wdOf P xs K fd).ps f = x.ps := fun f x hx => by
    show (match xs[f]? with
      | some x => x.ps
      | none => []) = _
    rw [hx]
  have fns : ∀ m : Nat, m < P.fns.length → ∃ d, P.fns[m]? = some d := fun m hm => ⟨_, List.getElem?_eq_getElem hm⟩
  refine ⟨wdOf P xs K fd, fun base => ⟨rfl, anP_inj ha, fun f x hx => ?_, fun i x v hv => ?_, fun x hx => He.free_ok hK hN (c3 x hx), fun f d hf => ?_, fun c i hi => ?_, c6, fun a t h1 h2 => ?_⟩, fun f x hx hc => ?_, fun f x hx => ⟨hps f x hx, ?_⟩⟩
  · show anP P f = SS x
    unfold anP
    rw [hx]
  · have g := c4 (x, v) (List.mem_of_getElem? hv)
    unfold glB at g
    dsimp only at g
    cases v with
    | int n =>
      obtain ⟨t, e⟩ := He.int_ok hK hN g
      exact ⟨_, .int n, e, ⟨t, rfl⟩, fun ρ L H => .int n⟩
    | str s =>
      obtain ⟨t, e⟩ := He.str_ok hK hN g
      exact ⟨_, .str (SS s), e, ⟨t, rfl⟩, fun ρ L H => .str s⟩
    | kt ns =>
      obtain ⟨g1, g2⟩ := Bool.and_eq_true_iff.mp g
      refine ⟨_, .ref (He.ga K (SS x)), He.glo_ok hK hN g1, rfl, fun ρ L H => .kt fun H' => ?_⟩
      have := He.tupB_ok g2 H'
      rw [List.map_map] at this
      exact this
    | _ => cases g
  · obtain ⟨x, hx, S⟩ := hA.get hf
    have F := hfd f x hx
    have st := S.st
    simp only [Bool.and_eq_true, decide_eq_true_eq] at st
    obtain ⟨h1, h2, h3, h4, _, h6⟩ := st
    have ea : (wdOf P xs K fd).fa f = fadr K x := hfa f x hx
    have ep := hps f x hx
    rw [ea, ep]
    refine ⟨F.kp, h1, fun hn => ?_, FX.binds F S _, x.nm, x.qual, x.params, x.body, x.scope, x.dvs K, [], x.N, F, S.sc, h2, h3, fun F k => okSs_ok _ _ _ S.ok⟩
    rcases h6 with h6 | ⟨h6, h7⟩
    · exact absurd h6 hn
    · have g := (c2 x (List.mem_of_getElem? hx))
      rw [Bool.or_eq_true, decide_eq_true_eq] at g
      rcases g with g | g
      · exact absurd h6 g
      · rw [← h7]
        have : fadr K x = He.ga K x.nm := by unfold fadr; rw [if_pos h6]
        rw [this]
        exact He.glo_ok hK hN g
  · have g := c5 i (List.mem_of_getElem? hi)
    unfold clsB at g
    simp only [Bool.and_eq_true, List.all_eq_true, decide_eq_true_eq] at g
    obtain ⟨⟨g1, g2⟩, ⟨g3, g4⟩, g5, g6, g7, g8⟩ := g
    have eC : (wdOf P xs K fd).ca c = He.ga K (SS i.name) := by
      show caK P K c = _
      unfold caK Prog.cls
      rw [List.getD_eq_getElem?_getD, hi]
      rfl
    rw [eC]
    refine ⟨He.cls_ok g1, fun _ => He.glo_ok hK hN g2, ⟨g3, g4⟩, fun f hf => g5 f hf, fun m g hm => ?_, fun m g hm => ?_, fun g hg => ?_⟩
    · obtain ⟨⟨a1, a2, a3⟩, a4⟩ := g6 (m, g) (mem_of_lookup hm)
      exact ⟨⟨a1, a2, a3⟩, fns g a4⟩
    · obtain ⟨⟨a1, a2, a3⟩, a4⟩ := g7 (m, g) (mem_of_lookup hm)
      refine ⟨_, a1, a2, a3, ?_⟩
      revert a4
      dsimp only
      split
      · rename_i q z he
        intro a4
        exact ⟨z, by rw [he, of_decide_eq_true a4]; rfl⟩
      · intro a4
        cases a4
    · rw [hg] at g8
      simp only [Bool.and_eq_true, decide_eq_true_eq] at g8
      obtain ⟨⟨a1, a2, a3, a4⟩, a5⟩ := g8
      exact ⟨⟨a1, a2, a3, a4⟩, fns g a5⟩
  · rw [ityK_v, kdK_v]
    have ma : a ∈ kdOpts P := by
      unfold kdOpts
      cases a with
      | none => exact List.mem_cons_self ..
      | some a => exact List.mem_cons_of_mem _ (List.mem_map_of_mem (itys_mem fun c e => h1 c (by rw [e])))
    exact c7 a ma t (itys_mem h2)
  · have : (wdOf P xs K fd).fa f = fadr K x := hfa f x hx
    rw [this]
    unfold fadr
    rw [if_pos hc]
  · have : (wdOf P xs K fd).fa f = fadr K x := hfa f x hx
    rw [this]
    exact hfd f x hx
end
end MP
end MPza_text

section MPzb_text
set_option Elab.async false
set_option linter.all false
set_option maxRecDepth 100000
set_option maxHeartbeats 4000000
/-! The head's facts as a hook; the end. -/
namespace MP
open PySem PySem.Spec PyProof.Rows L2
/-- the law's def, by what the clean program tells of it -/
theorem end_of {prog : Program} {w : World} {h : Heap} {mg : Str → Option Value} {fa : Addr} {P : Prog} {xs : List FX} {K : PySem.W.Frag} {fl n : Nat} {x : FX} {d : FnI} (hK : K.In h) (hN : h.Ns mainGlobals mg) (says : SaysX P xs K) (hA : AllF P xs P.fns) (ha : attrsOk P.attrs = true)
    (hx : xs[fl]? = some x) (hd : P.fns[fl]? = some d) (hc : x.cls = Str.empty) (hdf : x.dfl = []) (har : d.arity = 1) (hps : x.ps = [("script" : Str)]) (hfa : mg x.nm = some (.ref fa))
    (law : ∀ ns : List Int, ns.length ≤ 63 → ∃ st, sem P n fl [.scr ns] [] = .ok (.bl true) st) :
    ∃ (K : PySem.W.Frag) (fd : FuncData) (sp : Sp), K.In h ∧ (∀ (s : Shared) (u : Value), BindsTo s fd ⟨[u], []⟩ [(("script" : Str), u)]) ∧
      (∀ (H : Hp) (a : Addr) (ns : List Int), ns.length ≤ 63 → Only H → SqL K H a (ns.map V.int) → sp [.ref a] H (fun v _ => v = .bl true) fun _ _ _ => False) ∧
      ∀ base : Heap, K.In base → base.Ns mainGlobals mg → FnOk prog w K mg base L2.CX0 (2 * n) fa fd [("script" : Str)] sp := by
  obtain ⟨G, hG, hga, hgp⟩ := fix_of (prog := prog) (w := w) hK hN says hA ha
  obtain ⟨xx, hxx, S⟩ := hA.get hd
  cases hx.symm.trans hxx
  obtain ⟨ep, F⟩ := hgp fl x hx
  have ea := hga fl x hx hc
  have eK : He.ga K x.nm = fa := by
    have g := List.all_eq_true.mp (Bool.and_eq_true_iff.mp (Bool.and_eq_true_iff.mp says.1).2).1 x (List.mem_of_getElem? hx)
    rw [Bool.or_eq_true, decide_eq_true_eq] at g
    rcases g with g | g
    · exact absurd hc g
    · have := (He.glo_ok hK hN g).symm.trans hfa
      cases this
      rfl
  have bn : ∀ (s : Shared) (u : Value), BindsTo s (G.fd fl) ⟨[u], []⟩ [(("script" : Str), u)] := fun s u => by
    have eD : x.dvs K = [] := by unfold FX.dvs; rw [hdf]; rfl
    rw [eD] at F
    have := FunD.bindsA (ps := x.ps) F (S.bn hdf) s [u] (by rw [hps]; rfl)
    rw [hps] at this
    exact this
  refine ⟨K, G.fd fl, fun vs H Q E => fnSp G (sem P n) fl d.arity vs H Q (fun _ _ _ => False), hK, bn, fun H a ns hl hO hS => ?_, fun base hKb hNb => ?_⟩
  · rw [har]
    have hnil : ∀ b, ¬ LiveP [] [] b := fun b ⟨l, o, e, _⟩ => by simp at e
    refine ⟨rfl, fun _ => False, [], [], [.scr ns], ⟨rfl, List.nodup_nil, fun a z => z.elim, fun l a o e => by simp at e⟩, .cons ?_ .nil, ?_⟩
    · rcases hS with hS | hS
      · exact .scr hS fun q => q.elim id (hnil a)
      · exact .scrK fun H' => .inr (by rw [← (hG h).kK]; exact hS)
    · obtain ⟨st, e⟩ := law ns hl
      rw [e]
      intro y ρ' H' R' E' r
      cases r
      rfl
  · have fx := (hG base).fix n
    obtain ⟨FO, _⟩ := fx.fn fl d hd
    rw [ea, eK, ep, hps] at FO
    refine ⟨fun vs H Q E q => FO.len vs H Q _ q, fun A outer s H args us vs Q E hr he hb hv hs => ?_⟩
    refine codeAny_mono (FO.run A outer s H args us vs Q _ hr he hb hv hs) fun r s' q => ?_
    cases r with
    | error e => exact (fx.cx0 _ _ _ _ _ q).elim
    | ok fl => cases fl <;> exact q
end MP
end MPzb_text

section K82S_text
set_option Elab.async false
set_option linter.all false
set_option maxRecDepth 100000
set_option maxHeartbeats 4000000
/-! The defs, checked. -/
namespace LW
open MP PySem PySem.Spec PyProof.Rows L2
theorem s_is_integer : FnS prog x_is_integer d_is_integer := ⟨⟨rfl, rfl, rfl, by decide +kernel, rfl, by decide +kernel, by decide +kernel⟩, by decide +kernel, by decide +kernel, fun h => (by cases h), fun _ j hj => match j, hj with | 0, _ => (fun T kV doc pm an cdv ct us its h1 h2 => match us, its, h1, h2 with | [_], [_, _], _, _ => ⟨_, rfl, rfl⟩) | 1, _ => (fun T kV doc pm an cdv ct us its h1 h2 => match us, its, h1, h2 with | [_, _], [_, _], _, _ => ⟨_, rfl, rfl⟩) | 2, _ => (fun T kV doc pm an cdv ct us its h1 h2 => match us, its, h1, h2 with | [_, _, _], [_, _], _, _ => ⟨_, rfl, rfl⟩)⟩
theorem s_is_tuple : FnS prog x_is_tuple d_is_tuple := ⟨⟨rfl, rfl, rfl, by decide +kernel, rfl, by decide +kernel, by decide +kernel⟩, by decide +kernel, by decide +kernel, fun h => (by cases h), fun _ j hj => match j, hj with | 0, _ => (fun T kV doc pm an cdv ct us its h1 h2 => match us, its, h1, h2 with | [_, _], [_], _, _ => ⟨_, rfl, rfl⟩) | 1, _ => (fun T kV doc pm an cdv ct us its h1 h2 => match us, its, h1, h2 with | [_, _, _], [_], _, _ => ⟨_, rfl, rfl⟩)⟩
theorem s_is_said : FnS prog x_is_said d_is_said := ⟨⟨rfl, rfl, rfl, by decide +kernel, rfl, by decide +kernel, by decide +kernel⟩, by decide +kernel, by decide +kernel, fun _ kV doc pm an cdv ct us hl => match us, hl with | [_, _], _ => rfl, fun h => (h rfl).elim⟩
theorem s_integer_in : FnS prog x_integer_in d_integer_in := ⟨⟨rfl, rfl, rfl, by decide +kernel, rfl, by decide +kernel, by decide +kernel⟩, by decide +kernel, by decide +kernel, fun _ kV doc pm an cdv ct us hl => match us, hl with | [_], _ => rfl, fun h => (h rfl).elim⟩
theorem s_common : FnS prog x_common d_common := ⟨⟨rfl, rfl, rfl, by decide +kernel, rfl, by decide +kernel, by decide +kernel⟩, by decide +kernel, by decide +kernel, fun _ kV doc pm an cdv ct us hl => match us, hl with | [_, _], _ => rfl, fun h => (h rfl).elim⟩
theorem s_number : FnS prog x_number d_number := ⟨⟨rfl, rfl, rfl, by decide +kernel, rfl, by decide +kernel, by decide +kernel⟩, by decide +kernel, by decide +kernel, fun _ kV doc pm an cdv ct us hl => match us, hl with | [_, _], _ => rfl, fun h => (h rfl).elim⟩
theorem s_is_number : FnS prog x_is_number d_is_number := ⟨⟨rfl, rfl, rfl, by decide +kernel, rfl, by decide +kernel, by decide +kernel⟩, by decide +kernel, by decide +kernel, fun _ kV doc pm an cdv ct us hl => match us, hl with | [_], _ => rfl, fun h => (h rfl).elim⟩
theorem s_is_size : FnS prog x_is_size d_is_size := ⟨⟨rfl, rfl, rfl, by decide +kernel, rfl, by decide +kernel, by decide +kernel⟩, by decide +kernel, by decide +kernel, fun _ kV doc pm an cdv ct us hl => match us, hl with | [_, _], _ => rfl, fun h => (h rfl).elim⟩
theorem s_is_below : FnS prog x_is_below d_is_below := ⟨⟨rfl, rfl, rfl, by decide +kernel, rfl, by decide +kernel, by decide +kernel⟩, by decide +kernel, by decide +kernel, fun _ kV doc pm an cdv ct us hl => match us, hl with | [_, _], _ => rfl, fun h => (h rfl).elim⟩
theorem s_number_in : FnS prog x_number_in d_number_in := ⟨⟨rfl, rfl, rfl, by decide +kernel, rfl, by decide +kernel, by decide +kernel⟩, by decide +kernel, by decide +kernel, fun _ kV doc pm an cdv ct us hl => match us, hl with | [_, _, _], _ => rfl, fun h => (h rfl).elim⟩
theorem s_step_in : FnS prog x_step_in d_step_in := ⟨⟨rfl, rfl, rfl, by decide +kernel, rfl, by decide +kernel, by decide +kernel⟩, by decide +kernel, by decide +kernel, fun _ kV doc pm an cdv ct us hl => match us, hl with | [_, _], _ => rfl, fun h => (h rfl).elim⟩
theorem s_space_at : FnS prog x_space_at d_space_at := ⟨⟨rfl, rfl, rfl, by decide +kernel, rfl, by decide +kernel, by decide +kernel⟩, by decide +kernel, by decide +kernel, fun _ kV doc pm an cdv ct us hl => match us, hl with | [_], _ => rfl, fun h => (h rfl).elim⟩
theorem s_parts_of : FnS prog x_parts_of d_parts_of := ⟨⟨rfl, rfl, rfl, by decide +kernel, rfl, by decide +kernel, by decide +kernel⟩, by decide +kernel, by decide +kernel, fun _ kV doc pm an cdv ct us hl => match us, hl with | [_], _ => rfl, fun h => (h rfl).elim⟩
theorem s_text_by : FnS prog x_text_by d_text_by := ⟨⟨rfl, rfl, rfl, by decide +kernel, rfl, by decide +kernel, by decide +kernel⟩, by decide +kernel, by decide +kernel, fun _ kV doc pm an cdv ct us hl => match us, hl with | [_, _, _], _ => rfl, fun h => (h rfl).elim⟩
theorem s_worths_by : FnS prog x_worths_by d_worths_by := ⟨⟨rfl, rfl, rfl, by decide +kernel, rfl, by decide +kernel, by decide +kernel⟩, by decide +kernel, by decide +kernel, fun _ kV doc pm an cdv ct us hl => match us, hl with | [_, _], _ => rfl, fun h => (h rfl).elim⟩
theorem s_space_of : FnS prog x_space_of d_space_of := ⟨⟨rfl, rfl, rfl, by decide +kernel, rfl, by decide +kernel, by decide +kernel⟩, by decide +kernel, by decide +kernel, fun _ kV doc pm an cdv ct us hl => match us, hl with | [_], _ => rfl, fun h => (h rfl).elim⟩
theorem s_is_part : FnS prog x_is_part d_is_part := ⟨⟨rfl, rfl, rfl, by decide +kernel, rfl, by decide +kernel, by decide +kernel⟩, by decide +kernel, by decide +kernel, fun _ kV doc pm an cdv ct us hl => match us, hl with | [_, _], _ => rfl, fun h => (h rfl).elim⟩
theorem s_is_lot : FnS prog x_is_lot d_is_lot := ⟨⟨rfl, rfl, rfl, by decide +kernel, rfl, by decide +kernel, by decide +kernel⟩, by decide +kernel, by decide +kernel, fun _ kV doc pm an cdv ct us hl => match us, hl with | [_, _], _ => rfl, fun h => (h rfl).elim⟩
theorem s_check_lot : FnS prog x_check_lot d_check_lot := ⟨⟨rfl, rfl, rfl, by decide +kernel, rfl, by decide +kernel, by decide +kernel⟩, by decide +kernel, by decide +kernel, fun _ kV doc pm an cdv ct us hl => match us, hl with | [_, _], _ => rfl, fun h => (h rfl).elim⟩
theorem s_Rule_init : FnS prog x_Rule_init d_Rule_init := ⟨⟨rfl, rfl, rfl, by decide +kernel, rfl, by decide +kernel, by decide +kernel⟩, by decide +kernel, by decide +kernel, fun _ kV doc pm an cdv ct us hl => match us, hl with | [_, _], _ => rfl, fun h => (h rfl).elim⟩
theorem s_Rule_text : FnS prog x_Rule_text d_Rule_text := ⟨⟨rfl, rfl, rfl, by decide +kernel, rfl, by decide +kernel, by decide +kernel⟩, by decide +kernel, by decide +kernel, fun _ kV doc pm an cdv ct us hl => match us, hl with | [_], _ => rfl, fun h => (h rfl).elim⟩
theorem s_Rule_box : FnS prog x_Rule_box d_Rule_box := ⟨⟨rfl, rfl, rfl, by decide +kernel, rfl, by decide +kernel, by decide +kernel⟩, by decide +kernel, by decide +kernel, fun _ kV doc pm an cdv ct us hl => match us, hl with | [_], _ => rfl, fun h => (h rfl).elim⟩
theorem s_Rule_bound : FnS prog x_Rule_bound d_Rule_bound := ⟨⟨rfl, rfl, rfl, by decide +kernel, rfl, by decide +kernel, by decide +kernel⟩, by decide +kernel, by decide +kernel, fun _ kV doc pm an cdv ct us hl => match us, hl with | [_], _ => rfl, fun h => (h rfl).elim⟩
theorem s_Rule_steps : FnS prog x_Rule_steps d_Rule_steps := ⟨⟨rfl, rfl, rfl, by decide +kernel, rfl, by decide +kernel, by decide +kernel⟩, by decide +kernel, by decide +kernel, fun _ kV doc pm an cdv ct us hl => match us, hl with | [_], _ => rfl, fun h => (h rfl).elim⟩
theorem s_Rule_worth : FnS prog x_Rule_worth d_Rule_worth := ⟨⟨rfl, rfl, rfl, by decide +kernel, rfl, by decide +kernel, by decide +kernel⟩, by decide +kernel, by decide +kernel, fun _ kV doc pm an cdv ct us hl => match us, hl with | [_, _], _ => rfl, fun h => (h rfl).elim⟩
theorem s_Rule_reckoned : FnS prog x_Rule_reckoned d_Rule_reckoned := ⟨⟨rfl, rfl, rfl, by decide +kernel, rfl, by decide +kernel, by decide +kernel⟩, by decide +kernel, by decide +kernel, fun _ kV doc pm an cdv ct us hl => match us, hl with | [_, _], _ => rfl, fun h => (h rfl).elim⟩
theorem s_Rule_with_worth : FnS prog x_Rule_with_worth d_Rule_with_worth := ⟨⟨rfl, rfl, rfl, by decide +kernel, rfl, by decide +kernel, by decide +kernel⟩, by decide +kernel, by decide +kernel, fun _ kV doc pm an cdv ct us hl => match us, hl with | [_, _, _], _ => rfl, fun h => (h rfl).elim⟩
theorem s_worths : FnS prog x_worths d_worths := ⟨⟨rfl, rfl, rfl, by decide +kernel, rfl, by decide +kernel, by decide +kernel⟩, by decide +kernel, by decide +kernel, fun _ kV doc pm an cdv ct us hl => match us, hl with | [_], _ => rfl, fun h => (h rfl).elim⟩
theorem s_rest_beside : FnS prog x_rest_beside d_rest_beside := ⟨⟨rfl, rfl, rfl, by decide +kernel, rfl, by decide +kernel, by decide +kernel⟩, by decide +kernel, by decide +kernel, fun _ kV doc pm an cdv ct us hl => match us, hl with | [_, _], _ => rfl, fun h => (h rfl).elim⟩
theorem s_endless_worth : FnS prog x_endless_worth d_endless_worth := ⟨⟨rfl, rfl, rfl, by decide +kernel, rfl, by decide +kernel, by decide +kernel⟩, by decide +kernel, by decide +kernel, fun _ kV doc pm an cdv ct us hl => match us, hl with | [_], _ => rfl, fun h => (h rfl).elim⟩
theorem s_true_steps : FnS prog x_true_steps d_true_steps := ⟨⟨rfl, rfl, rfl, by decide +kernel, rfl, by decide +kernel, by decide +kernel⟩, by decide +kernel, by decide +kernel, fun _ kV doc pm an cdv ct us hl => match us, hl with | [_], _ => rfl, fun h => (h rfl).elim⟩
theorem s_least_table : FnS prog x_least_table d_least_table := ⟨⟨rfl, rfl, rfl, by decide +kernel, rfl, by decide +kernel, by decide +kernel⟩, by decide +kernel, by decide +kernel, fun _ kV doc pm an cdv ct us hl => match us, hl with | [_], _ => rfl, fun h => (h rfl).elim⟩
theorem s_steps_within : FnS prog x_steps_within d_steps_within := ⟨⟨rfl, rfl, rfl, by decide +kernel, rfl, by decide +kernel, by decide +kernel⟩, by decide +kernel, by decide +kernel, fun _ kV doc pm an cdv ct us hl => match us, hl with | [_, _, _], _ => rfl, fun h => (h rfl).elim⟩
theorem s_lot_by : FnS prog x_lot_by d_lot_by := ⟨⟨rfl, rfl, rfl, by decide +kernel, rfl, by decide +kernel, by decide +kernel⟩, by decide +kernel, by decide +kernel, fun _ kV doc pm an cdv ct us hl => match us, hl with | [_], _ => rfl, fun h => (h rfl).elim⟩
theorem s_endless_lot : FnS prog x_endless_lot d_endless_lot := ⟨⟨rfl, rfl, rfl, by decide +kernel, rfl, by decide +kernel, by decide +kernel⟩, by decide +kernel, by decide +kernel, fun _ kV doc pm an cdv ct us hl => match us, hl with | [_], _ => rfl, fun h => (h rfl).elim⟩
theorem s_judged : FnS prog x_judged d_judged := ⟨⟨rfl, rfl, rfl, by decide +kernel, rfl, by decide +kernel, by decide +kernel⟩, by decide +kernel, by decide +kernel, fun _ kV doc pm an cdv ct us hl => match us, hl with | [_], _ => rfl, fun h => (h rfl).elim⟩
theorem s_check_sound : FnS prog x_check_sound d_check_sound := ⟨⟨rfl, rfl, rfl, by decide +kernel, rfl, by decide +kernel, by decide +kernel⟩, by decide +kernel, by decide +kernel, fun _ kV doc pm an cdv ct us hl => match us, hl with | [_], _ => rfl, fun h => (h rfl).elim⟩
theorem s_most : FnS prog x_most d_most := ⟨⟨rfl, rfl, rfl, by decide +kernel, rfl, by decide +kernel, by decide +kernel⟩, by decide +kernel, by decide +kernel, fun _ kV doc pm an cdv ct us hl => match us, hl with | [_, _], _ => rfl, fun h => (h rfl).elim⟩
theorem s_size_amid : FnS prog x_size_amid d_size_amid := ⟨⟨rfl, rfl, rfl, by decide +kernel, rfl, by decide +kernel, by decide +kernel⟩, by decide +kernel, by decide +kernel, fun _ kV doc pm an cdv ct us hl => match us, hl with | [_], _ => rfl, fun h => (h rfl).elim⟩
theorem s_first_room : FnS prog x_first_room d_first_room := ⟨⟨rfl, rfl, rfl, by decide +kernel, rfl, by decide +kernel, by decide +kernel⟩, by decide +kernel, by decide +kernel, fun _ kV doc pm an cdv ct us hl => match us, hl with | [_], _ => rfl, fun h => (h rfl).elim⟩
theorem s_greatest : FnS prog x_greatest d_greatest := ⟨⟨rfl, rfl, rfl, by decide +kernel, rfl, by decide +kernel, by decide +kernel⟩, by decide +kernel, by decide +kernel, fun _ kV doc pm an cdv ct us hl => match us, hl with | [_], _ => rfl, fun h => (h rfl).elim⟩
theorem s_most_beside : FnS prog x_most_beside d_most_beside := ⟨⟨rfl, rfl, rfl, by decide +kernel, rfl, by decide +kernel, by decide +kernel⟩, by decide +kernel, by decide +kernel, fun _ kV doc pm an cdv ct us hl => match us, hl with | [_, _, _], _ => rfl, fun h => (h rfl).elim⟩
theorem s_is_sound_with : FnS prog x_is_sound_with d_is_sound_with := ⟨⟨rfl, rfl, rfl, by decide +kernel, rfl, by decide +kernel, by decide +kernel⟩, by decide +kernel, by decide +kernel, fun _ kV doc pm an cdv ct us hl => match us, hl with | [_, _, _], _ => rfl, fun h => (h rfl).elim⟩
theorem s_shows_greatest : FnS prog x_shows_greatest d_shows_greatest := ⟨⟨rfl, rfl, rfl, by decide +kernel, rfl, by decide +kernel, by decide +kernel⟩, by decide +kernel, by decide +kernel, fun _ kV doc pm an cdv ct us hl => match us, hl with | [_, _], _ => rfl, fun h => (h rfl).elim⟩
theorem s__law_pot : FnS prog x__law_pot d__law_pot := ⟨⟨rfl, rfl, rfl, by decide +kernel, rfl, by decide +kernel, by decide +kernel⟩, by decide +kernel, by decide +kernel, fun _ kV doc pm an cdv ct us hl => match us, hl with | [_, _], _ => rfl, fun h => (h rfl).elim⟩
theorem s__law_take : FnS prog x__law_take d__law_take := ⟨⟨rfl, rfl, rfl, by decide +kernel, rfl, by decide +kernel, by decide +kernel⟩, by decide +kernel, by decide +kernel, fun _ kV doc pm an cdv ct us hl => match us, hl with | [_, _], _ => rfl, fun h => (h rfl).elim⟩
theorem s__law_some : FnS prog x__law_some d__law_some := ⟨⟨rfl, rfl, rfl, by decide +kernel, rfl, by decide +kernel, by decide +kernel⟩, by decide +kernel, by decide +kernel, fun _ kV doc pm an cdv ct us hl => match us, hl with | [_, _, _], _ => rfl, fun h => (h rfl).elim⟩
theorem s__law_cells : FnS prog x__law_cells d__law_cells := ⟨⟨rfl, rfl, rfl, by decide +kernel, rfl, by decide +kernel, by decide +kernel⟩, by decide +kernel, by decide +kernel, fun _ kV doc pm an cdv ct us hl => match us, hl with | [_, _], _ => rfl, fun h => (h rfl).elim⟩
theorem s__law_number : FnS prog x__law_number d__law_number := ⟨⟨rfl, rfl, rfl, by decide +kernel, rfl, by decide +kernel, by decide +kernel⟩, by decide +kernel, by decide +kernel, fun _ kV doc pm an cdv ct us hl => match us, hl with | [_, _], _ => rfl, fun h => (h rfl).elim⟩
theorem s__law_text : FnS prog x__law_text d__law_text := ⟨⟨rfl, rfl, rfl, by decide +kernel, rfl, by decide +kernel, by decide +kernel⟩, by decide +kernel, by decide +kernel, fun _ kV doc pm an cdv ct us hl => match us, hl with | [_], _ => rfl, fun h => (h rfl).elim⟩
theorem s__law_rule : FnS prog x__law_rule d__law_rule := ⟨⟨rfl, rfl, rfl, by decide +kernel, rfl, by decide +kernel, by decide +kernel⟩, by decide +kernel, by decide +kernel, fun _ kV doc pm an cdv ct us hl => match us, hl with | [_], _ => rfl, fun h => (h rfl).elim⟩
theorem s__law_spot : FnS prog x__law_spot d__law_spot := ⟨⟨rfl, rfl, rfl, by decide +kernel, rfl, by decide +kernel, by decide +kernel⟩, by decide +kernel, by decide +kernel, fun _ kV doc pm an cdv ct us hl => match us, hl with | [_], _ => rfl, fun h => (h rfl).elim⟩
theorem s__law_space : FnS prog x__law_space d__law_space := ⟨⟨rfl, rfl, rfl, by decide +kernel, rfl, by decide +kernel, by decide +kernel⟩, by decide +kernel, by decide +kernel, fun _ kV doc pm an cdv ct us hl => match us, hl with | [_], _ => rfl, fun h => (h rfl).elim⟩
theorem s__law_join : FnS prog x__law_join d__law_join := ⟨⟨rfl, rfl, rfl, by decide +kernel, rfl, by decide +kernel, by decide +kernel⟩, by decide +kernel, by decide +kernel, fun _ kV doc pm an cdv ct us hl => match us, hl with | [_, _], _ => rfl, fun h => (h rfl).elim⟩
theorem s__law_at : FnS prog x__law_at d__law_at := ⟨⟨rfl, rfl, rfl, by decide +kernel, rfl, by decide +kernel, by decide +kernel⟩, by decide +kernel, by decide +kernel, fun _ kV doc pm an cdv ct us hl => match us, hl with | [_, _], _ => rfl, fun h => (h rfl).elim⟩
theorem s__law_worth : FnS prog x__law_worth d__law_worth := ⟨⟨rfl, rfl, rfl, by decide +kernel, rfl, by decide +kernel, by decide +kernel⟩, by decide +kernel, by decide +kernel, fun _ kV doc pm an cdv ct us hl => match us, hl with | [_, _], _ => rfl, fun h => (h rfl).elim⟩
theorem s__law_is_endless : FnS prog x__law_is_endless d__law_is_endless := ⟨⟨rfl, rfl, rfl, by decide +kernel, rfl, by decide +kernel, by decide +kernel⟩, by decide +kernel, by decide +kernel, fun _ kV doc pm an cdv ct us hl => match us, hl with | [_], _ => rfl, fun h => (h rfl).elim⟩
theorem s__law_worths : FnS prog x__law_worths d__law_worths := ⟨⟨rfl, rfl, rfl, by decide +kernel, rfl, by decide +kernel, by decide +kernel⟩, by decide +kernel, by decide +kernel, fun _ kV doc pm an cdv ct us hl => match us, hl with | [_], _ => rfl, fun h => (h rfl).elim⟩
theorem s__law_is_best : FnS prog x__law_is_best d__law_is_best := ⟨⟨rfl, rfl, rfl, by decide +kernel, rfl, by decide +kernel, by decide +kernel⟩, by decide +kernel, by decide +kernel, fun _ kV doc pm an cdv ct us hl => match us, hl with | [_, _, _], _ => rfl, fun h => (h rfl).elim⟩
theorem s__law_is_greatest : FnS prog x__law_is_greatest d__law_is_greatest := ⟨⟨rfl, rfl, rfl, by decide +kernel, rfl, by decide +kernel, by decide +kernel⟩, by decide +kernel, by decide +kernel, fun _ kV doc pm an cdv ct us hl => match us, hl with | [_], _ => rfl, fun h => (h rfl).elim⟩
theorem s__law_text_by : FnS prog x__law_text_by d__law_text_by := ⟨⟨rfl, rfl, rfl, by decide +kernel, rfl, by decide +kernel, by decide +kernel⟩, by decide +kernel, by decide +kernel, fun _ kV doc pm an cdv ct us hl => match us, hl with | [_, _, _], _ => rfl, fun h => (h rfl).elim⟩
theorem s__law_lore_of : FnS prog x__law_lore_of d__law_lore_of := ⟨⟨rfl, rfl, rfl, by decide +kernel, rfl, by decide +kernel, by decide +kernel⟩, by decide +kernel, by decide +kernel, fun _ kV doc pm an cdv ct us hl => match us, hl with | [_], _ => rfl, fun h => (h rfl).elim⟩
theorem s__law_fills : FnS prog x__law_fills d__law_fills := ⟨⟨rfl, rfl, rfl, by decide +kernel, rfl, by decide +kernel, by decide +kernel⟩, by decide +kernel, by decide +kernel, fun _ kV doc pm an cdv ct us hl => match us, hl with | [_], _ => rfl, fun h => (h rfl).elim⟩
theorem s__law_numbered : FnS prog x__law_numbered d__law_numbered := ⟨⟨rfl, rfl, rfl, by decide +kernel, rfl, by decide +kernel, by decide +kernel⟩, by decide +kernel, by decide +kernel, fun _ kV doc pm an cdv ct us hl => match us, hl with | [_, _, _], _ => rfl, fun h => (h rfl).elim⟩
theorem s__law_is_small_right : FnS prog x__law_is_small_right d__law_is_small_right := ⟨⟨rfl, rfl, rfl, by decide +kernel, rfl, by decide +kernel, by decide +kernel⟩, by decide +kernel, by decide +kernel, fun _ kV doc pm an cdv ct us hl => match us, hl with | [_, _], _ => rfl, fun h => (h rfl).elim⟩
theorem s__law_right : FnS prog x__law_right d__law_right := ⟨⟨rfl, rfl, rfl, by decide +kernel, rfl, by decide +kernel, by decide +kernel⟩, by decide +kernel, by decide +kernel, fun _ kV doc pm an cdv ct us hl => match us, hl with | [_], _ => rfl, fun h => (h rfl).elim⟩
theorem s_law : FnS prog x_law d_law := ⟨⟨rfl, rfl, rfl, by decide +kernel, rfl, by decide +kernel, by decide +kernel⟩, by decide +kernel, by decide +kernel, fun _ kV doc pm an cdv ct us hl => match us, hl with | [_], _ => rfl, fun h => (h rfl).elim⟩
theorem ok0 : AllF prog xsL0 fnsL0 := ⟨s_is_integer, s_is_tuple, s_is_said, s_integer_in, s_common, s_number, s_is_number, s_is_size, s_is_below, s_number_in, s_step_in, s_space_at, s_parts_of, s_text_by, s_worths_by, s_space_of, s_is_part, s_is_lot, s_check_lot, s_Rule_init, trivial⟩
theorem ok1 : AllF prog xsL1 fnsL1 := ⟨s_Rule_text, s_Rule_box, s_Rule_bound, s_Rule_steps, s_Rule_worth, s_Rule_reckoned, s_Rule_with_worth, s_worths, s_rest_beside, s_endless_worth, s_true_steps, s_least_table, s_steps_within, s_lot_by, s_endless_lot, s_judged, s_check_sound, s_most, s_size_amid, s_first_room, trivial⟩
theorem ok2 : AllF prog xsL2 fnsL2 := ⟨s_greatest, s_most_beside, s_is_sound_with, s_shows_greatest, s__law_pot, s__law_take, s__law_some, s__law_cells, s__law_number, s__law_text, s__law_rule, s__law_spot, s__law_space, s__law_join, s__law_at, s__law_worth, s__law_is_endless, s__law_worths, s__law_is_best, s__law_is_greatest, trivial⟩
theorem ok3 : AllF prog xsL3 fnsL3 := ⟨s__law_text_by, s__law_lore_of, s__law_fills, s__law_numbered, s__law_is_small_right, s__law_right, s_law, trivial⟩
theorem okAll : AllF prog xsL fnsL := (((ok0.app ok1).app ok2).app ok3)
end LW
end K82S_text

section MR_text
set_option Elab.async false
set_option linter.all false
set_option maxRecDepth 100000
/-! Rules for what the clean program does. -/
namespace MP

/-! ### from the left: what follows is looked at last -/
theorem bind_cg {α β : Type} {x y : R α} {f : α → Sto → R β} (h : x = y) : x.bind f = y.bind f := by rw [h]
theorem ofR_cg {α : Type} {env : Env} {x y : R α} {f : α → Sto → Fl} (h : x = y) : Fl.ofR env x f = Fl.ofR env y f := by rw [h]
theorem then_cg {x y : Fl} {f : Env → Sto → Fl} (h : x = y) : x.then f = y.then f := by rw [h]
theorem forL_cg {f : CV → Env → Sto → Fl} {xs ys : List CV} {env : Env} {st : Sto} (h : xs = ys) : forL f xs env st = forL f ys env st := by rw [h]
theorem compL_cg {f : CV → Sto → R (Option CV)} {xs ys : List CV} {st : Sto} (h : xs = ys) : compL f xs st = compL f ys st := by rw [h]
theorem whileR_cg {c : Env → Sto → R CV} {b : Env → Sto → Fl} {env : Env} {st : Sto} : whileR c b env st = whileR c b env st := rfl
/-! ### the evaluator, step by step -/
@[simp] theorem bind_as {α β γ : Type} (x : R α) (f : α → Sto → R β) (g : β → Sto → R γ) : (x.bind f).bind g = x.bind fun a s => (f a s).bind g := by cases x <;> rfl
@[simp] theorem ofR_bind {α β : Type} (env : Env) (x : R α) (f : α → Sto → R β) (g : β → Sto → Fl) : Fl.ofR env (x.bind f) g = Fl.ofR env x fun a s => Fl.ofR env (f a s) g := by cases x <;> rfl
@[simp] theorem ofR_then {α : Type} (env : Env) (x : R α) (g : α → Sto → Fl) (h : Env → Sto → Fl) : (Fl.ofR env x g).then h = Fl.ofR env x fun a s => (g a s).then h := by cases x <;> rfl
@[simp] theorem then_as (x : Fl) (f g : Env → Sto → Fl) : (x.then f).then g = x.then fun e s => (f e s).then g := by cases x <;> rfl
@[simp] theorem ok_ite (p : Prop) [Decidable p] (a b : CV) (s : Sto) : (if p then R.ok a s else R.ok b s) = R.ok (if p then a else b) s := by split <;> rfl
@[simp] theorem bl_ite (p : Prop) [Decidable p] (a b : Bool) : (if p then CV.bl a else CV.bl b) = CV.bl (if p then a else b) := by split <;> rfl
@[simp] theorem int_ite (p : Prop) [Decidable p] (a b : Int) : (if p then CV.int a else CV.int b) = CV.int (if p then a else b) := by split <;> rfl
@[simp] theorem some_ite {α : Type} (p : Prop) [Decidable p] (a b : α) : (if p then some a else some b) = some (if p then a else b) := by split <;> rfl
def condR {α : Type} (x : CV) (a b : R α) : R α := match x with
  | .bl true => a
  | .bl false => b
  | _ => .err
@[simp] theorem condR_bl {α : Type} (t : Bool) (a b : R α) : condR (.bl t) a b = if t = true then a else b := by cases t <;> rfl
def condF (x : CV) (a b : Fl) : Fl := match x with
  | .bl true => a
  | .bl false => b
  | _ => .err
@[simp] theorem condF_bl (t : Bool) (a b : Fl) : condF (.bl t) a b = if t = true then a else b := by cases t <;> rfl
def condO {α : Type} (x : Option Bool) (a b : R α) : R α := match x with
  | some true => a
  | some false => b
  | none => .err
@[simp] theorem condO_some {α : Type} (t : Bool) (a b : R α) : condO (some t) a b = if t = true then a else b := by cases t <;> rfl
theorem cond_then (p : Prop) [Decidable p] (a b : Fl) (f : Env → Sto → Fl) : (if p then a else b).then f = if p then a.then f else b.then f := by split <;> rfl
section
variable {P : Prog} {F : Fns} {env : Env} {st : Sto}
@[simp] theorem x_non : evE P F .non env st = .ok .non st := rfl
@[simp] theorem x_bool (b : Bool) : evE P F (.bool b) env st = .ok (.bl b) st := id rfl
@[simp] theorem x_int (i : Int) : evE P F (.int i) env st = .ok (.int i) st := id rfl
@[simp] theorem x_str (s : List Nat) : evE P F (.str s) env st = .ok (.str s) st := id rfl
@[simp] theorem x_var (i : Nat) : evE P F (.var i) env st = ofO (getV env i) st := id rfl
@[simp] theorem x_glob (k : Nat) : evE P F (.glob k) env st = ofO (P.globs[k]?.map (·.2)) st := id rfl
@[simp] theorem x_bin (o : Bop) (a b : CE) : evE P F (.bin o a b) env st = (evE P F a env st).bind fun x s1 => (evE P F b env s1).bind fun y s2 => ofO (binop s2 o x y) s2 := id rfl
@[simp] theorem x_neg (a : CE) : evE P F (.neg a) env st = (evE P F a env st).bind fun x s1 => match x with
    | .int i => .ok (.int (-i)) s1
    | _ => .err := id rfl
@[simp] theorem x_not (a : CE) : evE P F (.not a) env st = (evE P F a env st).bind fun x s1 => match x with
    | .bl b => .ok (.bl (!b)) s1
    | _ => .err := id rfl
@[simp] theorem x_cmp (o : Cop) (a b : CE) : evE P F (.cmp o a b) env st = (evE P F a env st).bind fun x s1 => (evE P F b env s1).bind fun y s2 => ofO ((cmpop s2 o x y).map .bl) s2 := id rfl
@[simp] theorem x_chain (o p : Cop) (a b c : CE) : evE P F (.chain o p a b c) env st = (evE P F a env st).bind fun x s1 => (evE P F b env s1).bind fun y s2 => condO (cmpop s2 o x y) ((evE P F c env s2).bind fun z s3 => ofO ((cmpop s3 p y z).map .bl) s3) (.ok (.bl false) s2) := id rfl
@[simp] theorem x_isN (neg : Bool) (a : CE) : evE P F (.isc neg none a) env st = (evE P F a env st).bind fun x s1 => .ok (.bl (if x.isNon then !neg else neg)) s1 := id rfl
@[simp] theorem x_isB (neg b : Bool) (a : CE) : evE P F (.isc neg (some b) a) env st = (evE P F a env st).bind fun x s1 => match x with
      | .bl c => .ok (.bl (if b = c then !neg else neg)) s1
      | _ => .err := id rfl
@[simp] theorem x_bools (isAnd : Bool) (es : CEs) : evE P F (.bools isAnd es) env st = evB P F isAnd es env st := id rfl
@[simp] theorem x_ite (c a b : CE) : evE P F (.ite c a b) env st = (evE P F c env st).bind fun x s1 => condR x (evE P F a env s1) (evE P F b env s1) := id rfl
@[simp] theorem x_idx (a b : CE) : evE P F (.idx a b) env st = (evE P F a env st).bind fun x s1 => (evE P F b env s1).bind fun y s2 => ofO (item s2 x y) s2 := id rfl
@[simp] theorem x_slice (a : CE) (lo hi : CP) : evE P F (.slice a lo hi) env st = (evE P F a env st).bind fun x s1 => (evP P F lo env s1).bind fun l s2 => (evP P F hi env s2).bind fun h s3 => ofO (sliced s3 x l h) s3 := id rfl
@[simp] theorem x_rev (a : CE) : evE P F (.rev a) env st = (evE P F a env st).bind fun x s1 => ofO (reved s1 x) s1 := id rfl
@[simp] theorem x_attr (a : CE) (f : Nat) : evE P F (.attr a f) env st = (evE P F a env st).bind fun x s1 => attrOf P F x f s1 := id rfl
@[simp] theorem x_call (f : Nat) (es : CEs) : evE P F (.call f es) env st = (evEs P F es env st).bind fun as s1 => F f as s1 := id rfl
@[simp] theorem x_new (c : Nat) (es : CEs) : evE P F (.new c es) env st = (evEs P F es env st).bind fun as s1 => newOf P F c as s1 := id rfl
@[simp] theorem x_meth (a : CE) (m : Nat) (es : CEs) : evE P F (.meth a m es) env st = (evE P F a env st).bind fun x s1 => match methOf P s1 x m with
    | some g => (evEs P F es env s1).bind fun as s2 => F g (x :: as) s2
    | none => .err := id rfl
@[simp] theorem x_bfn (b : Bfn) (es : CEs) : evE P F (.bfn b es) env st = (evEs P F es env st).bind fun as s1 => ofO (bfnop s1 b as) s1 := id rfl
@[simp] theorem x_bm (m : Bm) (a : CE) (es : CEs) : evE P F (.bm m a es) env st = (evE P F a env st).bind fun x s1 => if bmTy s1 m x then (evEs P F es env s1).bind fun as s2 => match bmop s2 m x as with
      | some (v, s3) => .ok v s3
      | none => .err
    else .err := id rfl
@[simp] theorem x_isin (a : CE) (t : Ity) : evE P F (.isin a t) env st = (evE P F a env st).bind fun x s1 => ofO ((isIn P s1 x t).map .bl) s1 := id rfl
@[simp] theorem x_tup (es : CEs) : evE P F (.tup es) env st = (evEs P F es env st).bind fun as s1 => if lenOk as.length then .ok (.tup as) s1 else .err := id rfl
@[simp] theorem x_lst (es : CEs) : evE P F (.lst es) env st = (evEs P F es env st).bind fun as s1 => if lenOk as.length then .ok (.lst as) s1 else .err := id rfl
@[simp] theorem x_dic (t : Bool) (kvs : CKs) : evE P F (.dic t kvs) env st = (evD P F kvs env st).bind fun ps s1 => if ps.length ≤ 15 then ofO ((dictOf t [] ps).map (.dic t)) s1 else .err := id rfl
@[simp] theorem x_comp (elt : CE) (t : CT) (it : CI) (c : CP) : evE P F (.comp elt t it c) env st = (evI P F it env st).bind fun src s1 => (src.offR (compL (fun x s => match evT P F t x (wipeV env t.names) s with
      | .nx env2 s2 => (evC P F c env2 s2).bind fun b s3 => if b then (evE P F elt env2 s3).bind fun y s4 => .ok (some y) s4 else .ok none s3
      | _ => .err) src.items (src.on s1))).bind fun ys s2 => if lenOk src.items.length then .ok (.lst ys) s2 else .err := id rfl
@[simp] theorem x_dcomp (tk : Bool) (k v : CE) (t : CT) (it : CI) : evE P F (.dcomp tk k v t it) env st = (evI P F it env st).bind fun src s1 => (src.offR (compL (fun x s => match evT P F t x (wipeV env t.names) s with
      | .nx env2 s2 => (evE P F k env2 s2).bind fun a s3 => (evE P F v env2 s3).bind fun b s4 => .ok (some (.tup [a, b])) s4
      | _ => .err) src.items (src.on s1))).bind fun ys s2 => if lenOk src.items.length then ofO (((pairsOf ys).bind (dictOf tk [])).map (.dic tk)) s2 else .err := id rfl
@[simp] theorem x_fstr (es : CEs) : evE P F (.fstr es) env st = (evEs P F es env st).bind fun as s1 => ofO ((concat as []).map .str) s1 := id rfl
@[simp] theorem x_box (a : CE) : evE P F (.box a) env st = (evE P F a env st).bind fun x s1 => match boxed x s1 with
    | some (v, s2) => .ok v s2
    | none => .err := id rfl
@[simp] theorem x_frz (a : CE) : evE P F (.frz a) env st = (evE P F a env st).bind fun x s1 => match frozen 9 x s1 with
    | some (v, s2) => .ok v s2
    | none => .err := id rfl
@[simp] theorem x_pno : evP P F .no env st = .ok none st := id rfl
@[simp] theorem x_pyes (e : CE) : evP P F (.yes e) env st = (evE P F e env st).bind fun x s1 => match x with
    | .int i => .ok (some i) s1
    | _ => .err := id rfl
@[simp] theorem x_cno : evC P F .no env st = .ok true st := id rfl
@[simp] theorem x_cyes (e : CE) : evC P F (.yes e) env st = (evE P F e env st).bind fun x s1 => match x with
    | .bl b => .ok b s1
    | _ => .err := id rfl
@[simp] theorem x_b1 (i b : Bool) (a : CE) : evB P F i (.cons b a .nil) env st = evE P F a env st := id rfl
@[simp] theorem x_b2 (i b c : Bool) (a d : CE) (r : CEs) : evB P F i (.cons b a (.cons c d r)) env st = (evE P F a env st).bind fun x s1 => match x with
    | .bl b => if b = i then evB P F i (.cons c d r) env s1 else .ok (.bl b) s1
    | _ => .err := id rfl
@[simp] theorem x_nil : evEs P F .nil env st = .ok [] st := id rfl
@[simp] theorem x_cons (a : CE) (r : CEs) : evEs P F (.cons false a r) env st = (evE P F a env st).bind fun x s1 => (evEs P F r env s1).bind fun xs s2 => .ok (x :: xs) s2 := id rfl
@[simp] theorem x_star (a : CE) (r : CEs) : evEs P F (.cons true a r) env st = (evE P F a env st).bind fun x s1 => (ofO (seqOf s1 x) s1).bind fun ys s2 => (evEs P F r env s2).bind fun xs s3 => .ok (ys ++ xs) s3 := id rfl
@[simp] theorem x_dnil : evD P F .nil env st = .ok [] st := id rfl
@[simp] theorem x_dcons (k v : CE) (r : CKs) : evD P F (.cons k v r) env st = (evE P F k env st).bind fun x s1 => (evE P F v env s1).bind fun y s2 => (evD P F r env s2).bind fun ps s3 => .ok ((x, y) :: ps) s3 := id rfl
@[simp] theorem x_iseq (e : CE) : evI P F (.seq e) env st = (evE P F e env st).bind fun x s1 => walk x s1 id := id rfl
def rngR (x y : CV) (s : Sto) : R Src := match x, y with
    | .int i, .int j => if rngOk i j then .ok ⟨rangeL i j, none⟩ s else .err
    | _, _ => .err
theorem rngR_ok {i j : Int} {s : Sto} (h : rngOk i j = true) : rngR (.int i) (.int j) s = .ok ⟨rangeL i j, none⟩ s := by
  show (if rngOk i j then (.ok ⟨rangeL i j, none⟩ s : R Src) else .err) = _
  rw [if_pos h]
@[simp] theorem rngR_lt {i j : Int} {s : Sto} (h1 : -1000000 ≤ i) (h2 : j ≤ 1000000) (h3 : i ≤ 1000000) (h4 : -1000000 ≤ j) : rngR (.int i) (.int j) s = .ok ⟨rangeL i j, none⟩ s := rngR_ok (by unfold rngOk; simp; omega)
def rngD (x y : CV) (s : Sto) : R Src := match x, y with
  | .int i, .int j => if rngOk i j && ((-1 : Int) == -1) then .ok ⟨(List.range (i - j).toNat).map fun (n : Nat) => CV.int (i - (n : Int)), none⟩ s else .err
  | _, _ => .err
@[simp] theorem x_irng1 (a : CE) : evI P F (.rng1 a) env st = (evE P F a env st).bind fun x s1 => rngR (.int 0) x s1 := by
  have h : evI P F (.rng1 a) env st = (evE P F a env st).bind fun x s1 => match x with
    | .int b => if rngOk 0 b then (.ok ⟨rangeL 0 b, none⟩ s1 : R Src) else .err
    | _ => .err := rfl
  rw [h]
  cases evE P F a env st with
  | ok x s => cases x <;> rfl
  | _ => rfl
@[simp] theorem x_irng2 (a b : CE) : evI P F (.rng2 a b) env st = (evE P F a env st).bind fun x s1 => (evE P F b env s1).bind fun y s2 => rngR x y s2 := id rfl
@[simp] theorem x_ienum (e : CE) : evI P F (.enum e) env st = (evE P F e env st).bind fun x s1 => if x.isRow then walk x s1 enumL else .err := id rfl
@[simp] theorem x_izip (es : CEs) : evI P F (.zip es) env st = (evEs P F es env st).bind fun as s1 => ofO ((zipL as).map fun xs => (⟨xs, none⟩ : Src)) s1 := id rfl
@[simp] theorem zip_l (xs ys : List CV) : zipL [.lst xs, .lst ys] = some (pairUp xs ys) := id rfl
@[simp] theorem zip_t (xs ys : List CV) : zipL [.tup xs, .tup ys] = some (pairUp xs ys) := id rfl
@[simp] theorem x_irng3 (a b : CE) : evI P F (.rng3 a b (-1)) env st = (evE P F a env st).bind fun x s1 => (evE P F b env s1).bind fun y s2 => rngD x y s2 := by
  show (evE P F a env st).bind _ = _
  congr 1
@[simp] theorem x_tvar (i : Nat) (v : CV) : evT P F (.var i) v env st = .nx (setV env i v) st := id rfl
@[simp] theorem x_ttup (ts : CTs) (v : CV) : evT P F (.tup ts) v env st = match v with
    | .tup xs => evTs P F ts xs env st
    | .kt ns => evTs P F ts (ns.map .int) env st
    | _ => .err := id rfl
@[simp] theorem x_tattr (e : CE) (f : Nat) (v : CV) : evT P F (.attr e f) v env st = okF (evE P F e env st) fun o s1 => match setAttr P s1 o f v with
    | some s2 => .nx env s2
    | none => .err := id rfl
@[simp] theorem x_tidx (e i : CE) (v : CV) : evT P F (.idx e i) v env st = okF (evE P F e env st) fun o s1 => okF (evE P F i env s1) fun x s2 => match setItem s2 o x v with
    | some s3 => .nx env s3
    | none => .err := id rfl
@[simp] theorem x_tsnil : evTs P F .nil [] env st = .nx env st := id rfl
@[simp] theorem x_tscons (t : CT) (r : CTs) (x : CV) (xs : List CV) : evTs P F (.cons t r) (x :: xs) env st = (evT P F t x env st).then fun env1 s1 => evTs P F r xs env1 s1 := id rfl
@[simp] theorem y_pass : evS P F .pass env st = .nx env st := id rfl
@[simp] theorem y_expr (e : CE) : evS P F (.expr e) env st = Fl.ofR env (evE P F e env st) fun _ s1 => .nx env s1 := id rfl
@[simp] theorem y_asg (t : CT) (e : CE) : evS P F (.asg t e) env st = Fl.ofR env (evE P F e env st) fun v s1 => (evT P F t v env s1).only := id rfl
@[simp] theorem y_par (is : List Nat) (es : CEs) : evS P F (.par is es) env st = Fl.ofR env (evEs P F es env st) fun vs s1 => match setVs is vs env with
    | some env1 => .nx env1 s1
    | none => .err := id rfl
@[simp] theorem y_aug (i : Nat) (o : Bop) (e : CE) : evS P F (.aug i o e) env st = match getV env i with
    | some v => Fl.ofR env (evE P F e env st) fun x s1 => match v, x with
      | .int a, .int b => match binop s1 o (.int a) (.int b) with
        | some z => .nx (setV env i z) s1
        | none => .err
      | _, _ => .err
    | none => .err := id rfl
@[simp] theorem y_ifs (c : CE) (a b : CSs) : evS P F (.ifs c a b) env st = Fl.ofR env (evE P F c env st) fun x s1 => condF x (evSs P F a env s1) (evSs P F b env s1) := id rfl
@[simp] theorem y_fors (t : CT) (it : CI) (b : CSs) : evS P F (.fors t it b) env st = Fl.ofR env (evI P F it env st) fun src s1 => src.offF (forL (fun x env s => (evT P F t x env s).only.then fun env2 s2 => evSs P F b env2 s2) src.items env (src.on s1)) := id rfl
@[simp] theorem y_whiles (c : CE) (b : CSs) : evS P F (.whiles c b) env st = whileR (fun env st => evE P F c env st) (fun env st => evSs P F b env st) env st := id rfl
@[simp] theorem y_ret0 : evS P F (.ret .no) env st = .ret .non st := id rfl
@[simp] theorem y_ret (e : CE) : evS P F (.ret (.yes e)) env st = Fl.ofR env (evE P F e env st) fun v s1 => .ret v s1 := id rfl
@[simp] theorem y_nil : evSs P F .nil env st = .nx env st := id rfl
@[simp] theorem y_cons (s : CS) (r : CSs) : evSs P F (.cons s r) env st = (evS P F s env st).then fun env1 s1 => evSs P F r env1 s1 := id rfl
end

/-! ### names -/
@[simp] theorem getV0 (v : Option CV) (r : Env) : getV (v :: r) 0 = v := by cases v <;> rfl
@[simp] theorem getVs (v : Option CV) (r : Env) (n : Nat) : getV (v :: r) (n + 1) = getV r n := rfl
@[simp] theorem setV0 (v : Option CV) (r : Env) (x : CV) : setV (v :: r) 0 x = some x :: r := id rfl
@[simp] theorem setVs_ (v : Option CV) (r : Env) (n : Nat) (x : CV) : setV (v :: r) (n + 1) x = v :: setV r n x := id rfl
@[simp] theorem wipe0 (env : Env) : wipeV env [] = env := id rfl
@[simp] theorem wipe1 (env : Env) (i : Nat) (r : List Nat) : wipeV env (i :: r) = (wipeV env r).set i none := id rfl
@[simp] theorem setVs0 (env : Env) : setVs [] [] env = some env := id rfl
@[simp] theorem setVs1 (env : Env) (i : Nat) (is : List Nat) (v : CV) (vs : List CV) : setVs (i :: is) (v :: vs) env = setVs is vs (setV env i v) := id rfl
@[simp] theorem names_var (i : Nat) : (CT.var i).names = [i] := id rfl
@[simp] theorem names_tup (ts : CTs) : (CT.tup ts).names = ts.names := id rfl
@[simp] theorem names_nil : CTs.names .nil = [] := id rfl
@[simp] theorem names_cons (t : CT) (r : CTs) : (CTs.cons t r).names = t.names ++ r.names := id rfl

/-! ### operators -/
@[simp] theorem o_add (st : Sto) (i j : Int) : binop st .add (.int i) (.int j) = some (.int (i + j)) := id rfl
@[simp] theorem o_sub (st : Sto) (i j : Int) : binop st .sub (.int i) (.int j) = some (.int (i - j)) := id rfl
@[simp] theorem o_mul (st : Sto) (i j : Int) : binop st .mul (.int i) (.int j) = if mulOk i j then some (.int (i * j)) else none := id rfl
@[simp] theorem o_fdiv (st : Sto) (i j : Int) : binop st .fdiv (.int i) (.int j) = if divOk j then some (.int (i / j)) else none := id rfl
@[simp] theorem o_mod (st : Sto) (i j : Int) : binop st .mod (.int i) (.int j) = if 0 < j then some (.int (i % j)) else none := id rfl
@[simp] theorem o_pow (st : Sto) (i j : Int) : binop st .pow (.int i) (.int j) = if powOk i j then some (.int (i ^ j.toNat)) else none := id rfl
@[simp] theorem o_adds (st : Sto) (x y : List Nat) : binop st .add (.str x) (.str y) = if lenOk (x.length + y.length) then some (.str (x ++ y)) else none := id rfl
@[simp] theorem o_addt (st : Sto) (x y : List CV) : binop st .add (.tup x) (.tup y) = if lenOk (x.length + y.length) then some (.tup (x ++ y)) else none := id rfl
@[simp] theorem o_addl (st : Sto) (x y : List CV) : binop st .add (.lst x) (.lst y) = if lenOk (x.length + y.length) then some (.lst (x ++ y)) else none := id rfl
@[simp] theorem o_mull (st : Sto) (x : List CV) (k : Int) : binop st .mul (.lst x) (.int k) = if k.natAbs < 10000000 ∧ lenOk (x.length * k.toNat) = true then some (.lst (List.replicate k.toNat x).flatten) else none := id rfl
@[simp] theorem c_lt (st : Sto) (i j : Int) : cmpop st .lt (.int i) (.int j) = some (decide (i < j)) := id rfl
@[simp] theorem c_le (st : Sto) (i j : Int) : cmpop st .le (.int i) (.int j) = some (decide (i ≤ j)) := id rfl
@[simp] theorem c_gt (st : Sto) (i j : Int) : cmpop st .gt (.int i) (.int j) = some (decide (j < i)) := id rfl
@[simp] theorem c_ge (st : Sto) (i j : Int) : cmpop st .ge (.int i) (.int j) = some (decide (j ≤ i)) := id rfl
@[simp] theorem c_eq (st : Sto) (a b : CV) : cmpop st .eq a b = eqv 60 (deref st a) (deref st b) := id rfl
@[simp] theorem c_ne (st : Sto) (a b : CV) : cmpop st .ne a b = (eqv 60 (deref st a) (deref st b)).map (!·) := id rfl
@[simp] theorem c_in (st : Sto) (a b : CV) : cmpop st .inn a b = cmpop.inop st a b := id rfl
@[simp] theorem c_nin (st : Sto) (a b : CV) : cmpop st .notin a b = (cmpop.inop st a b).map (!·) := id rfl
@[simp] theorem d_int (st : Sto) (i : Int) : deref st (.int i) = .int i := id rfl
@[simp] theorem d_str (st : Sto) (i : List Nat) : deref st (.str i) = .str i := id rfl
@[simp] theorem d_tup (st : Sto) (i : List CV) : deref st (.tup i) = .tup i := id rfl
@[simp] theorem d_lst (st : Sto) (i : List CV) : deref st (.lst i) = .lst i := id rfl
@[simp] theorem d_non (st : Sto) : deref st .non = .non := id rfl
@[simp] theorem d_bl (st : Sto) (b : Bool) : deref st (.bl b) = .bl b := id rfl
theorem d_loc {st : Sto} {l : Nat} {xs : List CV} (h : st[l]? = some (.lst xs)) : deref st (.loc l) = .lst xs := by unfold deref; dsimp only; rw [h]
@[simp] theorem e_int (n : Nat) (i j : Int) : eqv (n + 1) (.int i) (.int j) = some (i == j) := id rfl
@[simp] theorem e_str (n : Nat) (i j : List Nat) : eqv (n + 1) (.str i) (.str j) = some (i == j) := id rfl
@[simp] theorem e_tup (n : Nat) (i j : List CV) : eqv (n + 1) (.tup i) (.tup j) = eqv.eqvL (eqv n) i j := id rfl
@[simp] theorem e_lst (n : Nat) (i j : List CV) : eqv (n + 1) (.lst i) (.lst j) = eqv.eqvL (eqv n) i j := id rfl
@[simp] theorem e_non (n : Nat) : eqv (n + 1) .non .non = some true := id rfl
@[simp] theorem e_60 : eqv 60 = eqv (59 + 1) := id rfl
@[simp] theorem eL_nil (f : CV → CV → Option Bool) : eqv.eqvL f [] [] = some true := id rfl
@[simp] theorem eL_cn (f : CV → CV → Option Bool) (x : CV) (r : List CV) : eqv.eqvL f (x :: r) [] = some false := id rfl
@[simp] theorem eL_nc (f : CV → CV → Option Bool) (x : CV) (r : List CV) : eqv.eqvL f [] (x :: r) = some false := id rfl
@[simp] theorem eL_cons (f : CV → CV → Option Bool) (x y : CV) (xs ys : List CV) : eqv.eqvL f (x :: xs) (y :: ys) = (f x y).bind fun b => (eqv.eqvL f xs ys).map fun c => b && c := id rfl
@[simp] theorem isNon_int (i : Int) : (CV.int i).isNon = false := id rfl
@[simp] theorem isNon_str (i : List Nat) : (CV.str i).isNon = false := id rfl
@[simp] theorem isNon_tup (i : List CV) : (CV.tup i).isNon = false := id rfl
@[simp] theorem isNon_lst (i : List CV) : (CV.lst i).isNon = false := id rfl
@[simp] theorem isNon_non : CV.non.isNon = true := id rfl
@[simp] theorem isNon_bl (b : Bool) : (CV.bl b).isNon = false := id rfl
@[simp] theorem isNon_rcd (c : Nat) (f : List (Nat × CV)) : (CV.rcd c f).isNon = false := id rfl

/-! ### sizes -/
theorem mulOk_l {i j : Int} (h1 : -18446744073709551616 < i) (h2 : i < 18446744073709551616) : mulOk i j = true := by
  unfold mulOk
  have : i.natAbs < 2 ^ 64 := by omega
  simp [this]
theorem mulOk_r {i j : Int} (h1 : -18446744073709551616 < j) (h2 : j < 18446744073709551616) : mulOk i j = true := by
  unfold mulOk
  have : j.natAbs < 2 ^ 64 := by omega
  simp [this]
theorem log2_lt {n k : Nat} (hk : 0 < k) (h : n < 2 ^ k) : n.log2 < k := by
  by_cases h0 : n = 0
  · subst h0; simpa using hk
  · exact (Nat.log2_lt h0).mpr h
theorem mulOk_big {i j : Int} (h1 : i.natAbs < 2 ^ 400000) (h2 : j.natAbs < 2 ^ 400000) : mulOk i j = true := by
  have a := log2_lt (by decide) h1
  have b := log2_lt (by decide) h2
  unfold mulOk
  have : i.natAbs.log2 + j.natAbs.log2 < 1000000 := by omega
  simp [this]
theorem divOk_of {j : Int} (h0 : 0 < j) (h : j.natAbs < 2 ^ 9000) : divOk j = true := by
  have a := log2_lt (by decide) h
  unfold divOk
  simp [h0, a]
theorem divOk_small {j : Int} (h0 : 0 < j) (h : j < 18446744073709551616) : divOk j = true := by
  refine divOk_of h0 (Nat.lt_of_lt_of_le (show j.natAbs < 2 ^ 64 by omega) ?_)
  exact Nat.pow_le_pow_right (by decide) (by decide)
theorem lenOk_of {n : Nat} (h : n ≤ 16000000) : lenOk n = true := decide_eq_true h
@[simp] theorem lenOk_le {n : Nat} (h : n ≤ 16000000) : lenOk n = true := decide_eq_true h
theorem rngOk_of {a b : Int} (h1 : -1000000 ≤ a) (h2 : b ≤ 1000000) (h3 : a ≤ 1000000) (h4 : -1000000 ≤ b) : rngOk a b = true := by
  unfold rngOk; simp; omega

/-! ### calls -/
noncomputable def fin (old : Sto) (x : Fl) : R CV := match x with
  | .nx _ s => exitR old .non s
  | .ret v s => exitR old v s
  | .exc c v _ s => match exitR old v s with
    | .ok v2 s2 => .exc c v2 s2
    | _ => .err
  | .err => .err
theorem sem_call {P : Prog} {n f : Nat} {d : FnI} {as full : List CV} {st : Sto} (hn : 1 ≤ n) (hd : P.fns[f]? = some d) (hf : fillArgs d as = some full) :
    sem P n f as st = fin st (evSs P (sem P (n - 1)) d.body (full.map some ++ List.replicate (d.slots - d.arity) none) st) := by
  cases n with
  | zero => omega
  | succ n =>
    show (match P.fns[f]? with
      | some d => runFn P (sem P n) d as st
      | none => .err) = _
    rw [hd]
    show runFn P (sem P n) d as st = _
    unfold runFn
    rw [hf]
    show _ = fin st (evSs P (sem P n) d.body (full.map some ++ List.replicate (d.slots - d.arity) none) st)
    unfold fin
    rfl
@[simp] theorem NoLoc_non : NoLoc .non := .non
@[simp] theorem NoLoc_int (i : Int) : NoLoc (.int i) := .int i
@[simp] theorem NoLoc_bl (i : Bool) : NoLoc (.bl i) := .bl i
@[simp] theorem NoLoc_str (i : List Nat) : NoLoc (.str i) := .str i
@[simp] theorem NoLoc_tup (xs : List CV) : NoLoc (.tup xs) ↔ ∀ x ∈ xs, NoLoc x := ⟨fun h => by cases h; assumption, .tup⟩
@[simp] theorem NoLoc_lst (xs : List CV) : NoLoc (.lst xs) ↔ ∀ x ∈ xs, NoLoc x := ⟨fun h => by cases h; assumption, .lst⟩
@[simp] theorem NoLoc_dic (t : Bool) (xs : List (CV × CV)) : NoLoc (.dic t xs) ↔ ∀ p ∈ xs, NoLoc p.1 ∧ NoLoc p.2 := ⟨fun h => by cases h with | dic h h2 => exact fun p hp => ⟨h p hp, h2 p hp⟩, fun h => .dic (fun p hp => (h p hp).1) fun p hp => (h p hp).2⟩
@[simp] theorem NoLoc_rcd (c : Nat) (fs : List (Nat × CV)) : NoLoc (.rcd c fs) ↔ ∀ p ∈ fs, NoLoc p.2 := ⟨fun h => by cases h; assumption, .rcd⟩
theorem exitR_same (st : Sto) (v : CV) : exitR st v st = .ok v st := by
  unfold exitR
  split
  · rw [List.take_length]
  · rfl
theorem exitR_of {old st : Sto} {v : CV} (h : NoLoc v) (k : ∀ i, i < old.length → st[i]? = old[i]? ∨ ∃ o, st[i]? = some o ∧ NoLocO o) : exitR old v st = .ok v (st.take old.length) := by
  unfold exitR
  rw [if_pos ⟨h, k⟩]
@[simp] theorem fin_same (st : Sto) (v : CV) : fin st (.ret v st) = .ok v st := exitR_same st v
@[simp] theorem fin_nx (st : Sto) (e : Env) : fin st (.nx e st) = .ok .non st := exitR_same st .non
@[simp] theorem ofR_some {α : Type} (a : α) (s : Sto) : ofO (some a) s = R.ok a s := rfl
@[simp] theorem only_then (e : Env) (s : Sto) (f : Env → Sto → Fl) : ((Fl.nx e s).only).then f = f e s := id rfl
theorem fin_app {st xs : Sto} {v : CV} (h : NoLoc v) : fin st (.ret v (st ++ xs)) = .ok v st := by
  show exitR st v (st ++ xs) = _
  rw [exitR_of h fun i hi => .inl (List.getElem?_append_left hi), List.take_left]
theorem fin_set {st xs : Sto} {p : Nat} {o : CO} {v : CV} (h : NoLoc v) (ho : NoLocO o) : fin st (.ret v (st.set p o ++ xs)) = .ok v (st.set p o) := by
  show exitR st v (st.set p o ++ xs) = _
  rw [exitR_of h fun i hi => ?_]
  · congr 1
    have := List.take_left (l₁ := st.set p o) (l₂ := xs)
    rwa [List.length_set] at this
  · rw [List.getElem?_append_left (by rw [List.length_set]; exact hi)]
    by_cases e : p = i
    · subst e
      exact .inr ⟨o, by rw [List.getElem?_set_self hi], ho⟩
    · exact .inl (List.getElem?_set_ne e)
theorem fin_set0 {st : Sto} {p : Nat} {o : CO} {v : CV} (h : NoLoc v) (ho : NoLocO o) : fin st (.ret v (st.set p o)) = .ok v (st.set p o) := by
  have := fin_set (st := st) (xs := []) (p := p) h ho
  rwa [List.append_nil] at this

theorem exitR_len {old st : Sto} {v : CV} (h : st.length = old.length) : exitR old v st = .ok v st := by
  unfold exitR
  split
  · rw [← h, List.take_length]
  · rfl
theorem fin_len {old st : Sto} {v : CV} (h : st.length = old.length) : fin old (.ret v st) = .ok v st := exitR_len h
theorem fin_lenx {old st : Sto} {e : Env} (h : st.length = old.length) : fin old (.nx e st) = .ok .non st := exitR_len h
theorem put_attr {P : Prog} {st : Sto} {l c f : Nat} {fs : List (Nat × CV)} {v : CV} (h : st[l]? = some (.ins c fs)) (hl : fs.length < 900) (hf : (P.cls c).flds.contains f = true) : setAttr P st (.loc l) f v = some (st.set l (.ins c (putF f v fs))) := by
  unfold setAttr
  dsimp only
  rw [h]
  simp [hl]
  simpa using hf
theorem attr_rcd {P : Prog} {F : Fns} {st : Sto} {c f : Nat} {fs : List (Nat × CV)} {v : CV} (h : fs.lookup f = some v) (hf : (P.cls c).flds.contains f = true) : attrOf P F (.rcd c fs) f st = .ok v st := by
  unfold attrOf
  show attrIn P F (.rcd c fs) c fs f st = _
  unfold attrIn
  rw [h]
  dsimp only
  rw [if_pos hf]
theorem attr_prop {P : Prog} {F : Fns} {st : Sto} {c f g : Nat} {fs : List (Nat × CV)} {v : CV} (h : fs.lookup f = none) (hp : (P.cls c).props.lookup f = some g) (hv : F g [.rcd c fs] st = .ok v st) : attrOf P F (.rcd c fs) f st = .ok v st := by
  unfold attrOf
  show attrIn P F (.rcd c fs) c fs f st = _
  unfold attrIn
  rw [h]
  dsimp only
  rw [hp]
  dsimp only
  rw [hv]
theorem meth_rcd {P : Prog} {st : Sto} {c m g : Nat} {fs : List (Nat × CV)} (h : fs.lookup m = none) (hm : (P.cls c).meths.lookup m = some g) : methOf P st (.rcd c fs) m = some g := by
  unfold methOf
  show (match fs.lookup m with
    | none => (P.cls c).meths.lookup m
    | some _ => none) = _
  rw [h]
  exact hm
/-- a frozen instance is made -/
theorem new_frozen {P : Prog} {F : Fns} {st : Sto} {c g : Nat} {as : List CV} {fs : List (Nat × CV)} (hi : (P.cls c).init = some g) (hz : (P.cls c).frozen = true) (hF : F g (.loc st.length :: as) (st ++ [.ins c []]) = .ok .non (st ++ [.ins c fs])) (hn : NoLoc (.rcd c fs)) : newOf P F c as st = .ok (.rcd c fs) st := by
  unfold newOf
  rw [hi]
  dsimp only
  rw [hF]
  simp only [R.bind_ok]
  rw [show (st ++ [CO.ins c fs])[st.length]? = some (.ins c fs) by simp]
  dsimp only
  rw [if_pos rfl, if_pos hz]
  rw [show (st ++ [CO.ins c fs]).set st.length .gone = st ++ [.gone] by simp]
  exact fin_app hn
/-! ### stores -/
@[simp] theorem st_at (st xs : Sto) (k : Nat) : (st ++ xs)[st.length + k]? = xs[k]? := by rw [List.getElem?_append_right (by omega)]; congr 1; omega
@[simp] theorem st_at0 (st xs : Sto) : (st ++ xs)[st.length]? = xs[0]? := st_at st xs 0
@[simp] theorem st_put (st xs : Sto) (k : Nat) (o : CO) : (st ++ xs).set (st.length + k) o = st ++ xs.set k o := by rw [List.set_append_right _ _ (by omega)]; congr 2; omega
@[simp] theorem st_put0 (st xs : Sto) (o : CO) : (st ++ xs).set st.length o = st ++ xs.set 0 o := st_put st xs 0 o
theorem st_low {st xs : Sto} {p : Nat} {o : CO} (h : st[p]? = some o) : (st ++ xs)[p]? = some o := by
  rw [List.getElem?_append_left (List.getElem?_eq_some_iff.mp h).1]; exact h
theorem st_lowput {st xs : Sto} {p : Nat} {o o' : CO} (h : st[p]? = some o) : (st ++ xs).set p o' = st.set p o' ++ xs := List.set_append_left _ _ (List.getElem?_eq_some_iff.mp h).1

/-! ### what is walked -/
@[simp] theorem w_tup (xs : List CV) (st : Sto) (f : List CV → List CV) : walk (.tup xs) st f = .ok ⟨f xs, none⟩ st := rfl
@[simp] theorem w_lst (xs : List CV) (st : Sto) (f : List CV → List CV) : walk (.lst xs) st f = .ok ⟨f xs, none⟩ st := id rfl
@[simp] theorem w_str (x : List Nat) (st : Sto) (f : List CV → List CV) : walk (.str x) st f = .ok ⟨f (x.map fun c => .str [c]), none⟩ st := id rfl
theorem w_loc {l : Nat} {xs : List CV} {st : Sto} (h : st[l]? = some (.lst xs)) (f : List CV → List CV) : walk (.loc l) st f = .ok ⟨f xs, some (l, xs)⟩ st := by unfold walk; dsimp only; rw [h]
@[simp] theorem on_none (xs : List CV) (st : Sto) : Src.on ⟨xs, none⟩ st = st := id rfl
@[simp] theorem off_none (xs : List CV) (st : Sto) : Src.off ⟨xs, none⟩ st = st := id rfl
@[simp] theorem offR_none {α : Type} (xs : List CV) (r : R α) : Src.offR ⟨xs, none⟩ r = r := by cases r <;> rfl
@[simp] theorem offF_none (xs : List CV) (r : Fl) : Src.offF ⟨xs, none⟩ r = r := by cases r <;> rfl
@[simp] theorem on_some (xs ys : List CV) (l : Nat) (st : Sto) : Src.on ⟨xs, some (l, ys)⟩ st = st.set l .gone := rfl
@[simp] theorem off_some (xs ys : List CV) (l : Nat) (st : Sto) : Src.off ⟨xs, some (l, ys)⟩ st = st.set l (.lst ys) := id rfl
@[simp] theorem offR_ok {α : Type} (x : Src) (a : α) (s : Sto) : x.offR (.ok a s) = .ok a (x.off s) := id rfl
@[simp] theorem offF_nx (x : Src) (e : Env) (s : Sto) : x.offF (.nx e s) = .nx e (x.off s) := id rfl
@[simp] theorem offF_ret (x : Src) (e : CV) (s : Sto) : x.offF (.ret e s) = .ret e (x.off s) := id rfl
@[simp] theorem isRow_l (xs : List CV) : (CV.lst xs).isRow = true := id rfl
@[simp] theorem isRow_t (xs : List CV) : (CV.tup xs).isRow = true := id rfl
@[simp] theorem isRow_loc (xs : Nat) : (CV.loc xs).isRow = true := id rfl
@[simp] theorem isRow_scr (xs : List Int) : (CV.scr xs).isRow = true := id rfl
@[simp] theorem isLst_l (xs : List CV) : (CV.lst xs).isLst = true := id rfl
@[simp] theorem isLst_loc (xs : Nat) : (CV.loc xs).isLst = true := id rfl

theorem cut_from {α : Type} (xs : List α) (k : Int) (hk : 0 ≤ k) : cutL xs (some k) none = xs.drop k.toNat := by
  have e : cutIx xs.length 0 (some k) = min k.toNat xs.length := by show (if k < 0 then _ else _) = _; rw [if_neg (by omega)]
  unfold cutL
  rw [e]
  show (xs.drop _).take (xs.length - _) = _
  by_cases h : k.toNat ≤ xs.length
  · rw [Nat.min_eq_left h, List.take_of_length_le (by rw [List.length_drop]; omega)]
  · rw [Nat.min_eq_right (by omega), List.drop_eq_nil_of_le (by omega), List.drop_eq_nil_of_le (by omega)]; simp
theorem cut_to {α : Type} (xs : List α) (k : Int) (hk : 0 ≤ k) : cutL xs none (some k) = xs.take k.toNat := by
  have e : cutIx xs.length xs.length (some k) = min k.toNat xs.length := by show (if k < 0 then _ else _) = _; rw [if_neg (by omega)]
  unfold cutL
  rw [e]
  show (xs.drop 0).take (min k.toNat xs.length - 0) = _
  rw [List.drop_zero, Nat.sub_zero, List.take_eq_take_iff]
  omega
theorem enum_at (xs : List CV) (i : Nat) : (enumL xs)[i]? = xs[i]?.map fun x => CV.tup [.int i, x] := by
  unfold enumL
  rw [List.getElem?_zipWith]
  cases h : xs[i]? with
  | none =>
    have := List.getElem?_eq_none_iff.mp h
    rw [List.getElem?_eq_none_iff.mpr (by simpa using this)]
    rfl
  | some x =>
    have hi := (List.getElem?_eq_some_iff.mp h).1
    rw [List.getElem?_range hi]
    rfl
@[simp] theorem enum_len (xs : List CV) : (enumL xs).length = xs.length := by unfold enumL; simp
theorem range_at (a b : Int) (i : Nat) : (rangeL a b)[i]? = if i < (b - a).toNat then some (.int (a + (i : Int))) else none := by
  unfold rangeL
  rw [List.getElem?_map]
  by_cases h : i < (b - a).toNat
  · rw [List.getElem?_range h, if_pos h]; rfl
  · rw [List.getElem?_eq_none_iff.mpr (by simpa using Nat.le_of_not_lt h), if_neg h]; rfl
@[simp] theorem range_len (a b : Int) : (rangeL a b).length = (b - a).toNat := by unfold rangeL; simp
/-! ### built-ins -/
@[simp] theorem s_tup (st : Sto) (xs : List CV) : seqOf st (.tup xs) = some xs := rfl
@[simp] theorem s_lst (st : Sto) (xs : List CV) : seqOf st (.lst xs) = some xs := id rfl
@[simp] theorem s_scr (st : Sto) (xs : List Int) : seqOf st (.scr xs) = some (xs.map .int) := id rfl
@[simp] theorem s_kt (st : Sto) (xs : List Int) : seqOf st (.kt xs) = some (xs.map .int) := id rfl
@[simp] theorem s_str (st : Sto) (xs : List Nat) : seqOf st (.str xs) = none := id rfl
@[simp] theorem s_dic (st : Sto) (t : Bool) (xs : List (CV × CV)) : seqOf st (.dic t xs) = none := id rfl
theorem s_loc {st : Sto} {l : Nat} {xs : List CV} (h : st[l]? = some (.lst xs)) : seqOf st (.loc l) = some xs := by unfold seqOf; dsimp only; rw [h]
theorem s_locd {st : Sto} {l : Nat} {t : Bool} {xs : List (CV × CV)} (h : st[l]? = some (.dic t xs)) : seqOf st (.loc l) = none := by unfold seqOf; dsimp only; rw [h]
@[simp] theorem l_lst (st : Sto) (xs : List CV) : lstOf st (.lst xs) = some xs := id rfl
theorem l_loc {st : Sto} {l : Nat} {xs : List CV} (h : st[l]? = some (.lst xs)) : lstOf st (.loc l) = some xs := by unfold lstOf; dsimp only; rw [h]
theorem a_loc {st : Sto} {l : Nat} {xs : List CV} (h : st[l]? = some (.lst xs)) : lstAt st (.loc l) = some (l, xs) := by unfold lstAt; dsimp only; rw [h]
theorem a_locd {st : Sto} {l : Nat} {t : Bool} {xs : List (CV × CV)} (h : st[l]? = some (.dic t xs)) : lstAt st (.loc l) = none := by unfold lstAt; dsimp only; rw [h]
@[simp] theorem di_dic (st : Sto) (t : Bool) (xs : List (CV × CV)) : dicOf st (.dic t xs) = some (t, xs) := id rfl
theorem di_loc {st : Sto} {l : Nat} {t : Bool} {xs : List (CV × CV)} (h : st[l]? = some (.dic t xs)) : dicOf st (.loc l) = some (t, xs) := by unfold dicOf; dsimp only; rw [h]
theorem da_loc {st : Sto} {l : Nat} {t : Bool} {xs : List (CV × CV)} (h : st[l]? = some (.dic t xs)) : dicAt st (.loc l) = some (l, t, xs) := by unfold dicAt; dsimp only; rw [h]
@[simp] theorem f_len (st : Sto) (v : CV) : bfnop st .len [v] = bLen st v := id rfl
@[simp] theorem f_int (st : Sto) (v : CV) : bfnop st .int [v] = bInt v := id rfl
@[simp] theorem f_str (st : Sto) (v : CV) : bfnop st .str [v] = bStr v := id rfl
@[simp] theorem f_abs (st : Sto) (v : CV) : bfnop st .abs [v] = bAbs v := id rfl
@[simp] theorem f_min2 (st : Sto) (v w : CV) : bfnop st .min2 [v, w] = bMin2 v w := id rfl
@[simp] theorem f_max2 (st : Sto) (v w : CV) : bfnop st .max2 [v, w] = bMax2 v w := id rfl
@[simp] theorem f_maxl (st : Sto) (v : CV) : bfnop st .maxl [v] = bMaxl st v := id rfl
@[simp] theorem f_minl (st : Sto) (v : CV) : bfnop st .minl [v] = bMinl st v := id rfl
theorem f_sum (st : Sto) (v : CV) : bfnop st .sum [v] = ((lstOf st v).bind intsOf).map fun ns => .int ns.sum := id rfl
theorem f_all (st : Sto) (v : CV) : bfnop st .all [v] = ((lstOf st v).bind blsOf).map fun bs => .bl (bs.all id) := rfl
theorem f_any (st : Sto) (v : CV) : bfnop st .any [v] = ((lstOf st v).bind blsOf).map fun bs => .bl (bs.any id) := rfl
@[simp] theorem f_list (st : Sto) (v : CV) : bfnop st .list [v] = (seqOf st v).map .lst := id rfl
@[simp] theorem f_tuple (st : Sto) (v : CV) : bfnop st .tuple [v] = bTuple st v := id rfl
@[simp] theorem f_dict (st : Sto) (v : CV) : bfnop st .dict [v] = bDict st v := id rfl
@[simp] theorem f_sorted (st : Sto) (v : CV) : bfnop st .sorted [v] = bSorted st v := id rfl
@[simp] theorem f_rng1 (st : Sto) (v : CV) : bfnop st .rng1 [v] = bRng1 v := id rfl
@[simp] theorem f_rng2 (st : Sto) (v w : CV) : bfnop st .rng2 [v, w] = bRng2 v w := id rfl
@[simp] theorem f_litems (st : Sto) (v : CV) : bfnop st .litems [v] = (dicOf st v).map fun d => .lst (d.2.map fun p => .tup [p.1, p.2]) := id rfl
@[simp] theorem f_titems (st : Sto) (v : CV) : bfnop st .titems [v] = (dicOf st v).map fun d => .tup (d.2.map fun p => .tup [p.1, p.2]) := id rfl
@[simp] theorem len_str (st : Sto) (x : List Nat) : bLen st (.str x) = if lenOk x.length then some (.int x.length) else none := id rfl
@[simp] theorem len_tup (st : Sto) (x : List CV) : bLen st (.tup x) = some (.int x.length) := id rfl
@[simp] theorem len_lst (st : Sto) (x : List CV) : bLen st (.lst x) = some (.int x.length) := id rfl
@[simp] theorem len_scr (st : Sto) (x : List Int) : bLen st (.scr x) = some (.int x.length) := by unfold bLen; simp
@[simp] theorem len_dic (st : Sto) (t : Bool) (x : List (CV × CV)) : bLen st (.dic t x) = some (.int x.length) := rfl
theorem len_loc {st : Sto} {l : Nat} {xs : List CV} (h : st[l]? = some (.lst xs)) : bLen st (.loc l) = some (.int xs.length) := by unfold bLen; dsimp only; rw [s_loc h]
@[simp] theorem int_int (i : Int) : bInt (.int i) = some (.int i) := id rfl
@[simp] theorem int_bl (b : Bool) : bInt (.bl b) = some (.int (if b then 1 else 0)) := id rfl
@[simp] theorem int_str (x : List Nat) : bInt (.str x) = (intOf x).map .int := id rfl
@[simp] theorem str_int (i : Int) : bStr (.int i) = if i.natAbs.log2 < 1900 then some (.str (intStr i)) else none := id rfl
@[simp] theorem abs_int (i : Int) : bAbs (.int i) = some (.int (if i < 0 then -i else i)) := id rfl
@[simp] theorem min_int (i j : Int) : bMin2 (.int i) (.int j) = some (.int (if j < i then j else i)) := id rfl
@[simp] theorem max_int (i j : Int) : bMax2 (.int i) (.int j) = some (.int (if j > i then j else i)) := id rfl
@[simp] theorem tuple_tup (st : Sto) (x : List CV) : bTuple st (.tup x) = some (.tup x) := id rfl
@[simp] theorem tuple_lst (st : Sto) (x : List CV) : bTuple st (.lst x) = some (.tup x) := id rfl
theorem tuple_loc {st : Sto} {l : Nat} {xs : List CV} (h : st[l]? = some (.lst xs)) : bTuple st (.loc l) = some (.tup xs) := by unfold bTuple; dsimp only; rw [l_loc h]; rfl
@[simp] theorem rng1_int (b : Int) : bRng1 (.int b) = if rngOk 0 b then some (.lst (rangeL 0 b)) else none := id rfl
@[simp] theorem rng2_int (a b : Int) : bRng2 (.int a) (.int b) = if rngOk a b then some (.lst (rangeL a b)) else none := id rfl
@[simp] theorem is_non (P : Prog) (st : Sto) (t : Ity) : isIn P st .non t = some false := id rfl
@[simp] theorem is_bl (P : Prog) (st : Sto) (b : Bool) (t : Ity) : isIn P st (.bl b) t = some (t == .int || t == .bool) := id rfl
@[simp] theorem is_int (P : Prog) (st : Sto) (b : Int) (t : Ity) : isIn P st (.int b) t = some (t == .int) := id rfl
@[simp] theorem is_str (P : Prog) (st : Sto) (b : List Nat) (t : Ity) : isIn P st (.str b) t = some (t == .str) := id rfl
@[simp] theorem is_tup (P : Prog) (st : Sto) (b : List CV) (t : Ity) : isIn P st (.tup b) t = some (t == .tuple) := id rfl
@[simp] theorem is_lst (P : Prog) (st : Sto) (b : List CV) (t : Ity) : isIn P st (.lst b) t = some (t == .list) := id rfl
@[simp] theorem beq_ity (a b : Ity) : (a == b) = decide (a = b) := id rfl
@[simp] theorem ints_nil : intsOf [] = some [] := id rfl
@[simp] theorem ints_cons (i : Int) (r : List CV) : intsOf (.int i :: r) = (intsOf r).map (i :: ·) := id rfl
@[simp] theorem ints_mapR (ns : List Int) : intsOf (ns.map CV.int) = some ns := by
  induction ns with
  | nil => rfl
  | cons n r ih => rw [List.map_cons, ints_cons, ih]; rfl
@[simp] theorem bls_map (ns : List Bool) : blsOf (ns.map CV.bl) = some ns := by
  induction ns with
  | nil => rfl
  | cons n r ih => show (blsOf (r.map CV.bl)).map (n :: ·) = _; rw [ih]; rfl
@[simp] theorem strs_map (ns : List (List Nat)) : strsOf (ns.map CV.str) = some ns := by
  induction ns with
  | nil => rfl
  | cons n r ih => show (strsOf (r.map CV.str)).map (n :: ·) = _; rw [ih]; rfl
theorem bls_true {α : Type} (xs : List α) {f : α → CV} (h : ∀ x ∈ xs, f x = .bl true) : blsOf (xs.map f) = some (xs.map fun _ => true) := by
  induction xs with
  | nil => rfl
  | cons x r ih =>
    rw [List.map_cons, h x (List.mem_cons_self ..)]
    show (blsOf (r.map f)).map (true :: ·) = _
    rw [ih fun y hy => h y (List.mem_cons_of_mem _ hy)]
    rfl
/-- all of a comprehension whose turns are true -/
@[simp] theorem all_rep (n : Nat) (st : Sto) : bfnop st .all [.lst (List.replicate n (CV.bl true))] = some (.bl true) := by
  have := bls_true (List.replicate n ()) (f := fun _ => CV.bl true) fun _ _ => rfl
  rw [List.map_replicate] at this
  rw [f_all, l_lst, Option.bind_some, this]
  simp
@[simp] theorem all_mapc {α : Type} (xs : List α) (st : Sto) : bfnop st .all [.lst (xs.map fun _ => CV.bl true)] = some (.bl true) := by
  rw [List.map_const', all_rep]
@[simp] theorem sum_map {α : Type} (xs : List α) (f : α → Int) (st : Sto) : bfnop st .sum [.lst (xs.map fun x => CV.int (f x))] = some (.int (xs.map f).sum) := by
  have : intsOf (xs.map fun x => CV.int (f x)) = some (xs.map f) := by
    have := ints_mapR (xs.map f)
    rwa [List.map_map] at this
  rw [f_sum, l_lst, Option.bind_some, this]
  rfl
theorem max_ints (st : Sto) (x : Int) (xs : List Int) : bMaxl st (.lst (.int x :: xs.map CV.int)) = some (.int (maxL x xs)) := by
  unfold bMaxl
  rw [l_lst, Option.bind_some, ints_cons, ints_mapR]
  rfl
theorem all_map {α : Type} (xs : List α) (p : α → Bool) (st : Sto) : bfnop st .all [.lst (xs.map fun x => CV.bl (p x))] = some (.bl (xs.all p)) := by
  have : blsOf (xs.map fun x => CV.bl (p x)) = some (xs.map p) := by
    have := bls_map (xs.map p)
    rwa [List.map_map] at this
  rw [f_all, l_lst, Option.bind_some, this]
  simp [List.all_map]
theorem any_map {α : Type} (xs : List α) (p : α → Bool) (st : Sto) : bfnop st .any [.lst (xs.map fun x => CV.bl (p x))] = some (.bl (xs.any p)) := by
  have : blsOf (xs.map fun x => CV.bl (p x)) = some (xs.map p) := by
    have := bls_map (xs.map p)
    rwa [List.map_map] at this
  rw [f_any, l_lst, Option.bind_some, this]
  simp [List.any_map]
/-! ### items -/
section
variable {α : Type}
def atI (xs : List α) (k : Int) : Option α := (ixOf xs.length k).bind fun j => xs[j]?
theorem atN (xs : List α) (k : Nat) : atI xs (k : Int) = xs[k]? := by
  unfold atI ixOf
  rw [if_pos (by omega)]
  by_cases h : k < xs.length
  · rw [if_pos (by omega)]; rfl
  · rw [if_neg (by omega), List.getElem?_eq_none_iff.mpr (by omega)]; rfl
theorem atP (xs : List α) (k : Int) (h : 0 ≤ k) : atI xs k = xs[k.toNat]? := by
  have := atN xs k.toNat
  rwa [Int.toNat_of_nonneg h] at this
@[simp] theorem at0 (xs : List α) : atI xs 0 = xs[0]? := atN xs 0
@[simp] theorem at1 (xs : List α) : atI xs 1 = xs[1]? := atN xs 1
@[simp] theorem at2 (xs : List α) : atI xs 2 = xs[2]? := atN xs 2
@[simp] theorem atL (xs : List α) : atI xs (-1) = xs.getLast? := by
  unfold atI ixOf
  rw [if_neg (by decide), List.getLast?_eq_getElem?]
  cases xs with
  | nil => rfl
  | cons x r => rw [if_pos (by simp only [List.length_cons]; omega)]; simp only [List.length_cons, Option.bind_some]; congr 1; omega
end
@[simp] theorem i_tup (st : Sto) (xs : List CV) (k : Int) : item st (.tup xs) (.int k) = atI xs k := rfl
@[simp] theorem i_lst (st : Sto) (xs : List CV) (k : Int) : item st (.lst xs) (.int k) = atI xs k := id rfl
@[simp] theorem i_scr (st : Sto) (xs : List Int) (k : Int) : item st (.scr xs) (.int k) = atI (xs.map .int) k := id rfl
@[simp] theorem i_str (st : Sto) (x : List Nat) (k : Int) : item st (.str x) (.int k) = if lenOk x.length then (atI x k).map fun c => .str [c] else none := by
  show (if lenOk x.length then (ixOf x.length k).bind fun j => x[j]?.map fun c => CV.str [c] else none) = _
  unfold atI
  cases ixOf x.length k <;> rfl
theorem i_loc {st : Sto} {l : Nat} {xs : List CV} (h : st[l]? = some (.lst xs)) (k : Int) : item st (.loc l) (.int k) = atI xs k := by unfold item; rw [s_loc h]; rfl
theorem i_dic (st : Sto) (t : Bool) (kvs : List (CV × CV)) (k : CV) : item st (.dic t kvs) k = match keyOf k with
    | some y => if okKey t k then dget kvs y else none
    | none => none := by
  unfold item
  rw [s_dic, di_dic]
  cases k <;> first | rfl | (rename_i xs; dsimp only; cases keyOf (.tup xs) <;> rfl)
theorem i_locd {st : Sto} {l : Nat} {t : Bool} {kvs : List (CV × CV)} (h : st[l]? = some (.dic t kvs)) (k : CV) : item st (.loc l) k = match keyOf k with
    | some y => if okKey t k then dget kvs y else none
    | none => none := by
  unfold item
  rw [s_locd h, di_loc h]
  cases k <;> first | rfl | (rename_i xs; dsimp only; cases keyOf (.tup xs) <;> rfl)
@[simp] theorem eL_nilr (f : CV → CV → Option Bool) (xs : List CV) : eqv.eqvL f xs [] = some xs.isEmpty := by cases xs <;> rfl
/-! ### methods -/
@[simp] theorem m_append (st : Sto) (a x : CV) : bmop st .append a [x] = mAppend st a x := rfl
@[simp] theorem m_extend (st : Sto) (a x : CV) : bmop st .extend a [x] = mExtend st a x := id rfl
@[simp] theorem m_popAt (st : Sto) (a x : CV) : bmop st .popAt a [x] = mPopAt st a x := id rfl
@[simp] theorem m_pop (st : Sto) (a : CV) : bmop st .pop a [] = mPop st a := id rfl
@[simp] theorem m_get1 (st : Sto) (a x : CV) : bmop st .get1 a [x] = mGet st a x .non := id rfl
@[simp] theorem m_get2 (st : Sto) (a x d : CV) : bmop st .get2 a [x, d] = mGet st a x d := id rfl
@[simp] theorem m_split (st : Sto) (a x : CV) : bmop st .split a [x] = mSplit st a x := id rfl
@[simp] theorem m_join (st : Sto) (a x : CV) : bmop st .join a [x] = mJoin st a x := id rfl
theorem append_loc {st : Sto} {l : Nat} {xs : List CV} {x : CV} (h : st[l]? = some (.lst xs)) (hl : xs.length ≤ 16000000) : mAppend st (.loc l) x = some (.non, st.set l (.lst (xs ++ [x]))) := by
  unfold mAppend; rw [a_loc h]; simp [hl]
theorem get_dic {st : Sto} {t : Bool} {kvs : List (CV × CV)} {k d : CV} {y : Ky} (hk : keyOf k = some y) (ho : okKey t k = true) : mGet st (.dic t kvs) k d = some ((dget kvs y).getD d, st) := by
  unfold mGet
  rw [di_dic]
  simp [hk, ho]
theorem get_loc {st : Sto} {l : Nat} {t : Bool} {kvs : List (CV × CV)} {k d : CV} {y : Ky} (h : st[l]? = some (.dic t kvs)) (hk : keyOf k = some y) (ho : okKey t k = true) : mGet st (.loc l) k d = some ((dget kvs y).getD d, st) := by
  unfold mGet
  rw [di_loc h]
  simp [hk, ho]
@[simp] theorem key_int (i : Int) : keyOf (.int i) = some (.i i) := rfl
@[simp] theorem key_str (s : List Nat) : keyOf (.str s) = some (.s s) := rfl
@[simp] theorem okK_int (i : Int) : okKey false (.int i) = true := rfl
@[simp] theorem okK_str (s : List Nat) : okKey false (.str s) = true := rfl
theorem ty_lst {st : Sto} {l : Nat} {xs : List CV} (h : st[l]? = some (.lst xs)) : (lstOf st (.loc l)).isSome = true := by rw [l_loc h]; rfl
@[simp] theorem ty_append (st : Sto) (a : CV) : bmTy st .append a = (lstOf st a).isSome := id rfl
@[simp] theorem ty_extend (st : Sto) (a : CV) : bmTy st .extend a = (lstOf st a).isSome := id rfl
@[simp] theorem ty_pop (st : Sto) (a : CV) : bmTy st .pop a = (lstOf st a).isSome := id rfl
@[simp] theorem ty_popAt (st : Sto) (a : CV) : bmTy st .popAt a = (lstOf st a).isSome := id rfl
@[simp] theorem ty_get1 (st : Sto) (a : CV) : bmTy st .get1 a = (dicOf st a).isSome := id rfl
@[simp] theorem ty_get2 (st : Sto) (a : CV) : bmTy st .get2 a = (dicOf st a).isSome := id rfl
@[simp] theorem ty_split (st : Sto) (x : List Nat) : bmTy st .split (.str x) = true := id rfl
@[simp] theorem ty_join (st : Sto) (x : List Nat) : bmTy st .join (.str x) = true := id rfl
@[simp] theorem boxed_l (xs : List CV) (st : Sto) : boxed (.lst xs) st = some (.loc st.length, st ++ [.lst xs]) := id rfl
@[simp] theorem boxed_d (t : Bool) (xs : List (CV × CV)) (st : Sto) : boxed (.dic t xs) st = some (.loc st.length, st ++ [.dic t xs]) := id rfl
/-! ### loops -/
theorem forL_nil {f : CV → Env → Sto → Fl} (env : Env) (st : Sto) : forL f [] env st = .nx env st := rfl
theorem forL_cons {f : CV → Env → Sto → Fl} (x : CV) (r : List CV) (env : Env) (st : Sto) : forL f (x :: r) env st = (f x env st).then fun e s => forL f r e s := rfl
theorem forL_inv {f : CV → Env → Sto → Fl} {xs : List CV} (I : Nat → Env → Sto → Prop) {env : Env} {st : Sto} (h0 : I 0 env st)
    (step : ∀ i x env st, xs[i]? = some x → I i env st → ∃ env' st', f x env st = .nx env' st' ∧ I (i + 1) env' st') : ∃ env' st', forL f xs env st = .nx env' st' ∧ I xs.length env' st' := by
  induction xs generalizing I env st with
  | nil => exact ⟨env, st, rfl, h0⟩
  | cons x r ih =>
    obtain ⟨e1, s1, q, h1⟩ := step 0 x env st rfl h0
    obtain ⟨e2, s2, q2, h2⟩ := ih (fun i => I (i + 1)) h1 fun i y env st hy hi => step (i + 1) y env st (by simpa using hy) hi
    exact ⟨e2, s2, by show (f x env st).then _ = _; rw [q]; exact q2, h2⟩
/-- with a way out -/
theorem forL_ret {f : CV → Env → Sto → Fl} {xs : List CV} (I : Nat → Env → Sto → Prop) (Z : CV → Sto → Prop) {env : Env} {st : Sto} (h0 : I 0 env st)
    (step : ∀ i x env st, xs[i]? = some x → I i env st → (∃ env' st', f x env st = .nx env' st' ∧ I (i + 1) env' st') ∨ ∃ v st', f x env st = .ret v st' ∧ Z v st') : (∃ env' st', forL f xs env st = .nx env' st' ∧ I xs.length env' st') ∨ ∃ v st', forL f xs env st = .ret v st' ∧ Z v st' := by
  induction xs generalizing I env st with
  | nil => exact .inl ⟨env, st, rfl, h0⟩
  | cons x r ih =>
    rcases step 0 x env st rfl h0 with ⟨e1, s1, q, h1⟩ | ⟨v, s1, q, h1⟩
    · rcases ih (fun i => I (i + 1)) h1 fun i y env st hy hi => step (i + 1) y env st (by simpa using hy) hi with ⟨e2, s2, q2, h2⟩ | ⟨v, s2, q2, h2⟩
      · exact .inl ⟨e2, s2, by show (f x env st).then _ = _; rw [q]; exact q2, h2⟩
      · exact .inr ⟨v, s2, by show (f x env st).then _ = _; rw [q]; exact q2, h2⟩
    · exact .inr ⟨v, s1, by show (f x env st).then _ = _; rw [q]; rfl, h1⟩
theorem compL_map {f : CV → Sto → R (Option CV)} {st : Sto} (g : CV → CV) {xs : List CV} (h : ∀ x ∈ xs, f x st = .ok (some (g x)) st) : compL f xs st = .ok (xs.map g) st := by
  induction xs with
  | nil => rfl
  | cons x r ih =>
    unfold compL
    rw [h x (List.mem_cons_self ..)]
    dsimp only
    rw [ih fun y hy => h y (List.mem_cons_of_mem _ hy)]
    rfl
theorem compL_mapL {α : Type} {f : CV → Sto → R (Option CV)} {st : Sto} (inj g : α → CV) {xs : List α} (h : ∀ x ∈ xs, f (inj x) st = .ok (some (g x)) st) : compL f (xs.map inj) st = .ok (xs.map g) st := by
  induction xs with
  | nil => rfl
  | cons x r ih =>
    rw [List.map_cons]
    unfold compL
    rw [h x (List.mem_cons_self ..)]
    dsimp only
    rw [ih fun y hy => h y (List.mem_cons_of_mem _ hy)]
    rfl
theorem compL_fmL {α : Type} {f : CV → Sto → R (Option CV)} {st : Sto} (inj : α → CV) (g : α → Option CV) {xs : List α} (h : ∀ x ∈ xs, f (inj x) st = .ok (g x) st) : compL f (xs.map inj) st = .ok (xs.filterMap g) st := by
  induction xs with
  | nil => rfl
  | cons x r ih =>
    rw [List.map_cons]
    unfold compL
    rw [h x (List.mem_cons_self ..)]
    dsimp only
    rw [ih fun y hy => h y (List.mem_cons_of_mem _ hy)]
    dsimp only
    rw [List.filterMap_cons]
    cases g x <;> rfl
/-- turns that are all true -/
theorem compL_true {f : CV → Sto → R (Option CV)} {st : Sto} {xs : List CV} (h : ∀ x ∈ xs, f x st = .ok (some (.bl true)) st) : compL f xs st = .ok (List.replicate xs.length (.bl true)) st := by
  rw [compL_map _ h, List.map_const']
theorem compL_fm {f : CV → Sto → R (Option CV)} {st : Sto} (g : CV → Option CV) {xs : List CV} (h : ∀ x ∈ xs, f x st = .ok (g x) st) : compL f xs st = .ok (xs.filterMap g) st := by
  induction xs with
  | nil => rfl
  | cons x r ih =>
    unfold compL
    rw [h x (List.mem_cons_self ..)]
    dsimp only
    rw [ih fun y hy => h y (List.mem_cons_of_mem _ hy)]
    dsimp only
    rw [List.filterMap_cons]
    cases g x <;> rfl
/-- turns that change the store -/
theorem compL_inv {f : CV → Sto → R (Option CV)} {xs : List CV} (I : Nat → List CV → Sto → Prop) {st : Sto} (h0 : I 0 [] st)
    (step : ∀ i x acc st, xs[i]? = some x → I i acc st → ∃ y st', f x st = .ok (some y) st' ∧ I (i + 1) (acc ++ [y]) st') : ∃ ys st', compL f xs st = .ok ys st' ∧ I xs.length ys st' := by
  suffices h : ∀ (xs : List CV) (I : Nat → List CV → Sto → Prop) (acc : List CV) (st : Sto), I 0 acc st → (∀ i x acc st, xs[i]? = some x → I i acc st → ∃ y st', f x st = .ok (some y) st' ∧ I (i + 1) (acc ++ [y]) st') → ∃ ys st', compL f xs st = .ok ys st' ∧ I xs.length (acc ++ ys) st' by
    obtain ⟨ys, st', a, b⟩ := h xs I [] st h0 step
    exact ⟨ys, st', a, by simpa using b⟩
  intro xs
  induction xs with
  | nil => intro I acc st h0 _; exact ⟨[], st, rfl, by simpa using h0⟩
  | cons x r ih =>
    intro I acc st h0 step
    obtain ⟨y, s1, q, h1⟩ := step 0 x acc st rfl h0
    obtain ⟨ys, s2, q2, h2⟩ := ih (fun i => I (i + 1)) (acc ++ [y]) s1 h1 fun i z acc st hz hi => step (i + 1) z acc st (by simpa using hz) hi
    refine ⟨y :: ys, s2, ?_, by simpa using h2⟩
    unfold compL
    rw [q]
    dsimp only
    rw [q2]
theorem whileN_mono {c : Env → Sto → R CV} {b : Env → Sto → Fl} : ∀ {n : Nat} {env : Env} {st : Sto}, whileN c b n env st ≠ .err → ∀ k, whileN c b (n + k) env st = whileN c b n env st
  | 0, _, _, h, _ => absurd rfl h
  | n + 1, env, st, h, k => by
    rw [show n + 1 + k = (n + k) + 1 by omega]
    unfold whileN at h ⊢
    cases hc : c env st with
    | ok v s1 =>
      rw [hc] at h
      dsimp only [Fl.ofR_ok] at h ⊢
      cases v with
      | bl t =>
        cases t with
        | true =>
          dsimp only at h ⊢
          cases hb : b env s1 with
          | nx e2 s2 =>
            rw [hb] at h
            exact whileN_mono (n := n) (env := e2) (st := s2) h k
          | _ => rfl
        | false => rfl
      | _ => rfl
    | _ => rfl
theorem whileR_eq {c : Env → Sto → R CV} {b : Env → Sto → Fl} {n : Nat} {env : Env} {st : Sto} {x : Fl} (h : whileN c b n env st = x) (hx : x ≠ .err) : whileR c b env st = x := by
  have ex : ∃ n, whileN c b n env st ≠ .err := ⟨n, by rw [h]; exact hx⟩
  unfold whileR
  rw [dif_pos ex]
  have h1 := Classical.choose_spec ex
  generalize Classical.choose ex = m at h1 ⊢
  have a := whileN_mono h1 n
  have b := whileN_mono (c := c) (b := b) (n := n) (env := env) (st := st) (by rw [h]; exact hx) m
  rw [Nat.add_comm n m, a, h] at b
  exact b
/-- a while, by a measure -/
theorem whileR_inv {c : Env → Sto → R CV} {b : Env → Sto → Fl} (I : Nat → Env → Sto → Prop) (Z : Env → Sto → Prop)
    (step : ∀ m env st, I m env st → (∃ s1, c env st = .ok (.bl false) s1 ∧ Z env s1) ∨ ∃ s1 env2 s2 m', c env st = .ok (.bl true) s1 ∧ b env s1 = .nx env2 s2 ∧ m' < m ∧ I m' env2 s2) : ∀ m env st, I m env st → ∃ env' st', whileR c b env st = .nx env' st' ∧ Z env' st' := by
  have key : ∀ m env st, I m env st → ∃ n env' st', whileN c b n env st = .nx env' st' ∧ Z env' st' := by
    intro m
    induction m using Nat.strongRecOn with
    | _ m ih =>
      intro env st h
      rcases step m env st h with ⟨s1, e, z⟩ | ⟨s1, env2, s2, m', e, e2, hm, h2⟩
      · refine ⟨1, env, s1, ?_, z⟩
        unfold whileN
        rw [e]
        rfl
      · obtain ⟨n, env', st', q, z⟩ := ih m' hm env2 s2 h2
        refine ⟨n + 1, env', st', ?_, z⟩
        unfold whileN
        rw [e]
        dsimp only [Fl.ofR_ok]
        rw [e2]
        exact q
  intro m env st h
  obtain ⟨n, env', st', q, z⟩ := key m env st h
  exact ⟨env', st', whileR_eq q (by simp), z⟩
/-- a while ahead of the rest -/
theorem while_then (Q : Fl → Prop) {c : Env → Sto → R CV} {b k : Env → Sto → Fl} {env : Env} {st : Sto} (I : Nat → Env → Sto → Prop) (Z : Env → Sto → Prop) (m : Nat) (h0 : I m env st)
    (step : ∀ m env st, I m env st → (∃ s1, c env st = .ok (.bl false) s1 ∧ Z env s1) ∨ ∃ s1 env2 s2 m', c env st = .ok (.bl true) s1 ∧ b env s1 = .nx env2 s2 ∧ m' < m ∧ I m' env2 s2)
    (next : ∀ env st, Z env st → Q (k env st)) : Q ((whileR c b env st).then k) := by
  obtain ⟨e, s, q, z⟩ := whileR_inv I Z step m env st h0
  rw [q]
  exact next e s z
/-- a for ahead of the rest -/
theorem for_then (Q : Fl → Prop) {f : CV → Env → Sto → Fl} {xs : List CV} {k : Env → Sto → Fl} {env : Env} {st : Sto} (I : Nat → Env → Sto → Prop) (h0 : I 0 env st)
    (step : ∀ i x env st, xs[i]? = some x → I i env st → ∃ env' st', f x env st = .nx env' st' ∧ I (i + 1) env' st')
    (next : ∀ env st, I xs.length env st → Q (k env st)) : Q ((forL f xs env st).then k) := by
  obtain ⟨e, s, q, z⟩ := forL_inv I h0 step
  rw [q]
  exact next e s z
theorem for_ret (Q : Fl → Prop) {f : CV → Env → Sto → Fl} {xs : List CV} {k : Env → Sto → Fl} {env : Env} {st : Sto} (I : Nat → Env → Sto → Prop) (Z : CV → Sto → Prop) (h0 : I 0 env st)
    (step : ∀ i x env st, xs[i]? = some x → I i env st → (∃ env' st', f x env st = .nx env' st' ∧ I (i + 1) env' st') ∨ ∃ v st', f x env st = .ret v st' ∧ Z v st')
    (next : ∀ env st, I xs.length env st → Q (k env st)) (out : ∀ v st, Z v st → Q (.ret v st)) : Q ((forL f xs env st).then k) := by
  rcases forL_ret I Z h0 step with ⟨e, s, q, z⟩ | ⟨v, s, q, z⟩
  · rw [q]
    exact next e s z
  · rw [q]
    exact out v s z
/-- it goes on, so -/
def Nx (x : Fl) (Z : Env → Sto → Prop) : Prop := ∃ e s, x = .nx e s ∧ Z e s
@[simp] theorem Nx_nx (e : Env) (s : Sto) (Z : Env → Sto → Prop) : Nx (.nx e s) Z ↔ Z e s := ⟨fun ⟨_, _, h, z⟩ => by cases h; exact z, fun h => ⟨_, _, rfl, h⟩⟩
/-- it holds with less -/
def Less (I : Nat → Env → Sto → Prop) (m : Nat) (e : Env) (s : Sto) : Prop := ∃ m', m' < m ∧ I m' e s
theorem while_N (Q : Fl → Prop) {c : Env → Sto → R CV} {b k : Env → Sto → Fl} {env : Env} {st : Sto} (I : Nat → Env → Sto → Prop) (Z : Env → Sto → Prop) (m : Nat) (h0 : I m env st)
    (step : ∀ m env st, I m env st → (∃ s1, c env st = .ok (.bl false) s1 ∧ Z env s1) ∨ ∃ s1, c env st = .ok (.bl true) s1 ∧ Nx (b env s1) (Less I m))
    (next : ∀ env st, Z env st → Q (k env st)) : Q ((whileR c b env st).then k) :=
  while_then Q I Z m h0 (fun m env st h => (step m env st h).imp id fun ⟨s1, e, env2, s2, e2, m', l, i⟩ => ⟨s1, env2, s2, m', e, e2, l, i⟩) next
theorem for_N (Q : Fl → Prop) {f : CV → Env → Sto → Fl} {xs : List CV} {k : Env → Sto → Fl} {env : Env} {st : Sto} (I : Nat → Env → Sto → Prop) (h0 : I 0 env st)
    (step : ∀ i x env st, xs[i]? = some x → I i env st → Nx (f x env st) (I (i + 1)))
    (next : ∀ env st, I xs.length env st → Q (k env st)) : Q ((forL f xs env st).then k) :=
  for_then Q I h0 (fun i x env st hx h => step i x env st hx h) next
/-- a call ahead of the rest -/
theorem call_N (Q : Fl → Prop) {α : Type} {x : R α} {env : Env} {k : α → Sto → Fl} (Z : α → Sto → Prop) (h : ∃ v s, x = .ok v s ∧ Z v s) (next : ∀ v s, Z v s → Q (k v s)) : Q (Fl.ofR env x k) := by
  obtain ⟨v, s, e, z⟩ := h
  rw [e]
  exact next v s z
end MP
end MR_text

section V1_text
set_option linter.all false
set_option maxRecDepth 100000
/-! Numbers: what the program's words do. -/
namespace LW
open MP
abbrev Q2 := Int × Int
def nm (q : Q2) : CV := .tup [.int q.1, .int q.2]
@[simp] theorem NoLoc_nm (q : Q2) : NoLoc (nm q) := by simp [nm]
def red (o u : Int) : Q2 := (o / (Int.gcd o u : Int), u / (Int.gcd o u : Int))
structure Num (q : Q2) : Prop where
  nn : 0 ≤ q.1
  up : 0 < q.2
  co : Int.gcd q.1 q.2 = 1
theorem gcd_pos {o u : Int} (h : 0 < u) : 0 < (Int.gcd o u : Int) := by
  have := Int.gcd_pos_of_ne_zero_right o (show u ≠ 0 by omega)
  omega
theorem gcd_le {o u : Int} (h : 0 < u) : (Int.gcd o u : Int) ≤ u := Int.le_of_dvd h (Int.gcd_dvd_right ..)
theorem red_num {o u : Int} (h : 0 ≤ o) (hu : 0 < u) : Num (red o u) := by
  have g := gcd_pos (o := o) hu
  refine ⟨Int.ediv_nonneg h (by omega), Int.ediv_pos_of_pos_of_dvd hu (by omega) (Int.gcd_dvd_right ..), ?_⟩
  exact Int.gcd_ediv_gcd_ediv_gcd (by omega)
theorem red_mul {o u : Int} (hu : 0 < u) : (red o u).1 * u = o * (red o u).2 := by
  have g := gcd_pos (o := o) hu
  obtain ⟨a, ha⟩ := Int.gcd_dvd_left (a := o) (b := u)
  obtain ⟨b, hb⟩ := Int.gcd_dvd_right (a := o) (b := u)
  have e1 : (red o u).1 = a := Int.ediv_eq_of_eq_mul_right (by omega) ha
  have e2 : (red o u).2 = b := Int.ediv_eq_of_eq_mul_right (by omega) hb
  rw [e1, e2]
  generalize (Int.gcd o u : Int) = d at *
  rw [ha, hb, Int.mul_left_comm, Int.mul_assoc]
theorem red_le1 {o u : Int} (h : 0 ≤ o) (hu : 0 < u) : (red o u).1 ≤ o := Int.ediv_le_self _ h
theorem red_le2 {o u : Int} (hu : 0 < u) : (red o u).2 ≤ u := Int.ediv_le_self _ (by omega)
theorem red_self {q : Q2} (h : Num q) : red q.1 q.2 = q := by
  unfold red
  rw [h.co]
  simp

theorem gcd_step (x y : Int) (hx : 0 ≤ x) (hy : 0 < y) : Int.gcd y (x % y) = Int.gcd x y := by
  rw [Int.gcd_comm y, Int.gcd_comm x]
  simp [Int.gcd, Int.natAbs_emod_of_nonneg hx]
  rw [← Nat.gcd_rec]

theorem common_ok (n : Nat) (hn : 1 ≤ n) (a b : Int) (st : Sto) (ha : 0 ≤ a) (hb : 0 ≤ b) : sem prog n f_common [.int a, .int b] st = .ok (.int (Int.gcd a b)) st := by
  rw [sem_call (d := d_common) hn rfl rfl]
  simp [d_common, b_common]
  refine while_then (fun x => fin st x = _) (fun m env s => ∃ x y : Int, env = [some (.int x), some (.int y)] ∧ s = st ∧ 0 ≤ x ∧ 0 ≤ y ∧ m = y.toNat ∧ Int.gcd x y = Int.gcd a b) (fun env s => env = [some (.int (Int.gcd a b)), some (.int 0)] ∧ s = st) _ ⟨a, b, rfl, rfl, ha, hb, rfl, rfl⟩ ?_ ?_
  · rintro m env s ⟨x, y, rfl, rfl, hx, hy, rfl, hg⟩
    by_cases h : 0 < y
    · right
      have h1 : x % y < y := Int.emod_lt_of_pos _ h
      have h2 : 0 ≤ x % y := Int.emod_nonneg _ (by omega)
      exact ⟨s, [some (.int y), some (.int (x % y))], s, (x % y).toNat, by simp [h], by simp [h], by omega, y, x % y, rfl, rfl, hy, h2, rfl, by rw [← hg, gcd_step x y hx h]⟩
    · left
      have : y = 0 := by omega
      subst this
      refine ⟨s, by simp, ?_, rfl⟩
      have : x = Int.gcd a b := by rw [← hg]; simp; omega
      rw [this]
  · rintro env s ⟨rfl, rfl⟩
    simp
theorem is_tuple3 (n : Nat) (hn : 1 ≤ n) (xs : List CV) (i j : Int) (st : Sto) : sem prog n f_is_tuple [.tup xs, .int i, .int j] st = .ok (.bl (decide (i ≤ xs.length) && decide (xs.length ≤ j))) st := by
  rw [sem_call (d := d_is_tuple) hn rfl rfl]
  simp [d_is_tuple, b_is_tuple]
theorem is_tuple2 (n : Nat) (hn : 1 ≤ n) (xs : List CV) (i : Int) (st : Sto) : sem prog n f_is_tuple [.tup xs, .int i] st = .ok (.bl (decide (i ≤ xs.length))) st := by
  rw [sem_call (d := d_is_tuple) (full := [.tup xs, .int i, .non]) hn rfl rfl]
  simp [d_is_tuple, b_is_tuple]
theorem is_int3 (n : Nat) (hn : 1 ≤ n) (i j k : Int) (st : Sto) : sem prog n f_is_integer [.int i, .int j, .int k] st = .ok (.bl (decide (j ≤ i) && decide (i ≤ k))) st := by
  rw [sem_call (d := d_is_integer) hn rfl rfl]
  simp [d_is_integer, b_is_integer]
theorem is_int2 (n : Nat) (hn : 1 ≤ n) (i j : Int) (st : Sto) : sem prog n f_is_integer [.int i, .int j] st = .ok (.bl (decide (j ≤ i))) st := by
  rw [sem_call (d := d_is_integer) (full := [.int i, .int j, .non]) hn rfl rfl]
  simp [d_is_integer, b_is_integer]
theorem number_ok (n : Nat) (hn : 2 ≤ n) (o u : Int) (st : Sto) (ho : 0 ≤ o) (hu : 0 < u) (hs : u.natAbs < 2 ^ 9000) : sem prog n f_number [.int o, .int u] st = .ok (nm (red o u)) st := by
  rw [sem_call (d := d_number) (by omega) rfl rfl]
  have g := gcd_pos (o := o) hu
  have g2 := gcd_le (o := o) hu
  have d : divOk (Int.gcd o u : Int) = true := divOk_of g (by omega)
  simp [d_number, b_number, common_ok (n - 1) (by omega) o u st ho (by omega), d]
  rfl
theorem is_number_ok (n : Nat) (hn : 2 ≤ n) (q : Q2) (h : Num q) (st : Sto) : sem prog n f_is_number [nm q] st = .ok (.bl true) st := by
  rw [sem_call (d := d_is_number) (by omega) rfl rfl]
  obtain ⟨h1, h2, h3⟩ := h
  have h2' : 1 ≤ q.2 := h2
  simp [d_is_number, b_is_number, nm, is_tuple3 (n - 1) (by omega), ixOf, is_int2 (n - 1) (by omega), common_ok (n - 1) (by omega) _ _ st h1 (show 0 ≤ q.2 by omega), h1, h2, h2', h3]
theorem is_size_ok (n : Nat) (hn : 3 ≤ n) (q : Q2) (h : Num q) (box : Int) (hb : -18446744073709551616 < box) (hb2 : box < 18446744073709551616) (st : Sto) : sem prog n f_is_size [nm q, .int box] st = .ok (.bl (decide (0 < q.1 ∧ q.1 ≤ box * q.2))) st := by
  rw [sem_call (d := d_is_size) (by omega) rfl rfl]
  simp [d_is_size, b_is_size, is_number_ok (n - 1) (by omega) q h]
  simp [nm, ixOf, mulOk_l hb hb2]
theorem space_of_ok (n : Nat) (hn : 1 ≤ n) (q : Q2) (h : 0 < q.2) (hs : q.2.natAbs < 2 ^ 9000) (st : Sto) : sem prog n f_space_of [nm q] st = .ok (.int (2 * (q.1 / q.2) + if 0 < q.1 % q.2 then 1 else 0)) st := by
  rw [sem_call (d := d_space_of) (by omega) rfl rfl]
  have m : ∀ x : Int, mulOk 2 x = true := fun x => mulOk_l (by omega) (by omega)
  simp [d_space_of, b_space_of, nm, divOk_of h hs, h, m]
/-! sums -/
def addQ (a m : Q2) : Q2 := red (a.1 * m.2 + m.1 * a.2) (a.2 * m.2)
def sumQ (l : List Q2) : Q2 := l.foldl addQ (0, 1)
theorem addQ_num {a m : Q2} (h1 : Num a) (h2 : Num m) : Num (addQ a m) :=
  red_num (Int.add_nonneg (Int.mul_nonneg h1.nn (Int.le_of_lt h2.up)) (Int.mul_nonneg h2.nn (Int.le_of_lt h1.up))) (Int.mul_pos h1.up h2.up)
theorem num0 : Num (0, 1) := ⟨by decide, by decide, by decide⟩
theorem foldQ_num : ∀ (l : List Q2) (a : Q2), Num a → (∀ m ∈ l, Num m) → Num (l.foldl addQ a)
  | [], _, h, _ => h
  | m :: r, a, h, k => foldQ_num r _ (addQ_num h (k m (List.mem_cons_self ..))) fun x hx => k x (List.mem_cons_of_mem _ hx)
theorem sumQ_num (l : List Q2) (h : ∀ m ∈ l, Num m) : Num (sumQ l) := foldQ_num l _ num0 h
/-- how great numbers get -/
def Bit (k : Nat) (q : Q2) : Prop := q.1.natAbs < 2 ^ k ∧ q.2.natAbs < 2 ^ k
theorem natAbs_mul_lt {a b : Int} {i j : Nat} (ha : a.natAbs < 2 ^ i) (hb : b.natAbs < 2 ^ j) : (a * b).natAbs < 2 ^ (i + j) := by
  rw [Int.natAbs_mul, Nat.pow_add]
  exact Nat.mul_lt_mul'' ha hb
theorem Bit.mono {i j : Nat} {q : Q2} (h : Bit i q) (hij : i ≤ j) : Bit j q := ⟨Nat.lt_of_lt_of_le h.1 (Nat.pow_le_pow_right (by decide) hij), Nat.lt_of_lt_of_le h.2 (Nat.pow_le_pow_right (by decide) hij)⟩
theorem addQ_bit {a m : Q2} {i k : Nat} (h1 : Num a) (h2 : Num m) (b1 : Bit i a) (b2 : Bit k m) : Bit (i + k + 1) (addQ a m) := by
  have x1 := natAbs_mul_lt b1.1 b2.2
  have x2 := natAbs_mul_lt b2.1 b1.2
  have x3 := natAbs_mul_lt b1.2 b2.2
  have n1 := Int.mul_nonneg h1.nn (Int.le_of_lt h2.up)
  have n2 := Int.mul_nonneg h2.nn (Int.le_of_lt h1.up)
  have n3 := Int.mul_pos h1.up h2.up
  have l1 := red_le1 (Int.add_nonneg n1 n2) n3
  have l2 := red_le2 (o := a.1 * m.2 + m.1 * a.2) n3
  have p := addQ_num h1 h2
  have c1 := p.nn
  have c2 := p.up
  rw [Nat.add_comm k i] at x2
  have e : 2 ^ (i + k + 1) = 2 * 2 ^ (i + k) := by rw [Nat.pow_succ, Nat.mul_comm]
  unfold Bit
  rw [e]
  unfold addQ at c1 c2 ⊢
  constructor <;> omega
end LW

set_option linter.all false
set_option maxRecDepth 100000
/-! Texts: figures, words, lines. -/
namespace LW
open MP
theorem digit_char : ∀ n : Fin 10, (Nat.digitChar n.val).toNat = 48 + n.val := by decide
theorem dig_eq (n : Nat) : digitsOf n = if n < 10 then [48 + n] else digitsOf (n / 10) ++ [48 + n % 10] := by
  unfold digitsOf
  rw [Nat.toDigits_eq_if (by decide)]
  split
  · rename_i h
    have := digit_char ⟨n, h⟩
    simp at this ⊢
    exact this
  · have := digit_char ⟨n % 10, Nat.mod_lt _ (by decide)⟩
    simp at this ⊢
    exact this
theorem dig_ind {C : Nat → Prop} (h1 : ∀ n, n < 10 → C n) (h2 : ∀ n, 10 ≤ n → C (n / 10) → C n) (n : Nat) : C n := by
  induction n using Nat.strongRecOn with
  | _ n ih =>
    by_cases h : n < 10
    · exact h1 n h
    · exact h2 n (by omega) (ih _ (by omega))
theorem dig_all (n : Nat) : ∀ c ∈ digitsOf n, 48 ≤ c ∧ c ≤ 57 := by
  induction n using dig_ind with
  | h1 n h => rw [dig_eq, if_pos h]; intro c hc; simp at hc; omega
  | h2 n h ih =>
    rw [dig_eq, if_neg (by omega)]
    intro c hc
    rw [List.mem_append] at hc
    rcases hc with hc | hc
    · exact ih c hc
    · simp at hc; omega
theorem natOf_snoc (xs : List Nat) (c : Nat) : natOf (xs ++ [c]) = natOf xs * 10 + (c - 48) := by
  unfold natOf
  rw [List.foldl_append]
  rfl
theorem dig_nat (n : Nat) : natOf (digitsOf n) = n := by
  induction n using dig_ind with
  | h1 n h => rw [dig_eq, if_pos h]; simp [natOf]
  | h2 n h ih =>
    rw [dig_eq, if_neg (by omega), natOf_snoc, ih]
    omega
theorem dig_ne (n : Nat) : digitsOf n ≠ [] := by
  rw [dig_eq]
  split <;> simp
theorem dig_len (k : Nat) : ∀ n : Nat, n < 10 ^ (k + 1) → (digitsOf n).length ≤ k + 1 := by
  induction k with
  | zero => intro n h; rw [dig_eq, if_pos (by omega)]; simp
  | succ k ih =>
    intro n h
    rw [dig_eq]
    split
    · simp
    · rw [List.length_append]
      have := ih (n / 10) (by rw [Nat.pow_succ] at h; omega)
      simp
      omega
theorem dig_head (n : Nat) (h : n ≠ 0) : (digitsOf n).head? ≠ some 48 := by
  induction n using dig_ind with
  | h1 n hn => rw [dig_eq, if_pos hn]; simp; omega
  | h2 n hn ih =>
    rw [dig_eq, if_neg (by omega)]
    have := ih (by omega)
    cases hd : digitsOf (n / 10) with
    | nil => exact absurd hd (dig_ne _)
    | cons a r => rw [hd] at this; simpa using this
theorem dig_zero : digitsOf 0 = [48] := by rw [dig_eq]; rfl
theorem dig_isDig (n : Nat) : (digitsOf n).all isDig = true := by
  rw [List.all_eq_true]
  intro c hc
  have := dig_all n c hc
  simp [isDig, this.1, this.2]
theorem intStr_nat (n : Nat) : intStr (n : Int) = digitsOf n := by
  unfold intStr
  rw [if_neg (by omega)]
  simp
theorem intOf_dig (n : Nat) (h : (digitsOf n).length ≤ 600) : intOf (digitsOf n) = some (n : Int) := by
  have hh : ∀ r, digitsOf n ≠ 45 :: r := fun r e => by
    have := dig_all n 45 (by rw [e]; exact List.mem_cons_self ..)
    omega
  have e : intOf (digitsOf n) = if digitsOf n ≠ [] ∧ (digitsOf n).all isDig = true ∧ (digitsOf n).length ≤ 600 then some (natOf (digitsOf n) : Int) else none := by
    unfold intOf
    split
    · rename_i r hr
      exact absurd hr (hh r)
    · rfl
  rw [e, if_pos ⟨dig_ne n, dig_isDig n, h⟩, dig_nat]
/-! ### parted, joined -/
theorem split_no {c : Nat} : ∀ {x : List Nat}, c ∉ x → splitL c x = [x]
  | [], _ => rfl
  | a :: r, h => by
    rw [List.mem_cons, not_or] at h
    unfold splitL
    rw [if_neg fun e => h.1 e.symm, split_no h.2]
theorem split_app {c : Nat} : ∀ {x : List Nat} (y : List Nat), c ∉ x → splitL c (x ++ c :: y) = x :: splitL c y
  | [], y, _ => by
    show splitL c (c :: y) = _
    rw [splitL, if_pos rfl]
  | a :: r, y, h => by
    rw [List.mem_cons, not_or] at h
    show splitL c (a :: (r ++ c :: y)) = _
    rw [splitL, if_neg fun e => h.1 e.symm, split_app y h.2]
theorem split_join {c : Nat} : ∀ {xs : List (List Nat)}, xs ≠ [] → (∀ x ∈ xs, c ∉ x) → splitL c (joinL [c] xs) = xs
  | [], h, _ => absurd rfl h
  | [x], _, k => split_no (k x (List.mem_cons_self ..))
  | x :: y :: r, _, k => by
    show splitL c (x ++ [c] ++ joinL [c] (y :: r)) = _
    rw [List.append_assoc]
    show splitL c (x ++ c :: joinL [c] (y :: r)) = _
    rw [split_app _ (k x (List.mem_cons_self ..)), split_join (by simp) fun z hz => k z (List.mem_cons_of_mem _ hz)]
theorem join_len (sep : List Nat) : ∀ (xs : List (List Nat)) (m : Nat), (∀ x ∈ xs, x.length ≤ m) → (joinL sep xs).length ≤ xs.length * (m + sep.length)
  | [], _, _ => by simp [joinL]
  | [x], m, k => by
    have := k x (List.mem_cons_self ..)
    simp [joinL]; omega
  | x :: y :: r, m, k => by
    have h1 := k x (List.mem_cons_self ..)
    have h2 := join_len sep (y :: r) m fun z hz => k z (List.mem_cons_of_mem _ hz)
    show (x ++ sep ++ joinL sep (y :: r)).length ≤ _
    rw [List.length_append, List.length_append, List.length_cons, Nat.succ_mul]
    omega
theorem integer_in_ok (n : Nat) (hn : 1 ≤ n) (k : Nat) (hk : (digitsOf k).length ≤ 600) (st : Sto) : sem prog n f_integer_in [.str (digitsOf k)] st = .ok (.int k) st := by
  rw [sem_call (d := d_integer_in) (by omega) rfl rfl]
  have hio := intOf_dig k hk
  have hz : (digitsOf k)[0]? = some 48 → digitsOf k = [48] := fun h => by
    by_cases k0 : k = 0
    · rw [k0]; exact dig_zero
    · exact absurd (by rw [List.head?_eq_getElem?]; exact h) (dig_head k k0)
  have hne := dig_ne k
  have hall := dig_all k
  generalize digitsOf k = w at *
  obtain ⟨a, h0⟩ : ∃ a, w[0]? = some a := ⟨_, List.getElem?_eq_getElem (List.length_pos_iff.mpr hne)⟩
  have ha := hall a (List.mem_of_getElem? h0)
  have hin : ∀ c ∈ w, [48, 49, 50, 51, 52, 53, 54, 55, 56, 57].contains c = true := fun c hc => by
    have := hall c hc
    have : c = 48 ∨ c = 49 ∨ c = 50 ∨ c = 51 ∨ c = 52 ∨ c = 53 ∨ c = 54 ∨ c = 55 ∨ c = 56 ∨ c = 57 := by omega
    rcases this with h | h | h | h | h | h | h | h | h | h <;> subst h <;> rfl
  have l1 : w.length ≤ 16000000 := by omega
  have lp : 0 < w.length := List.length_pos_iff.mpr hne
  have cut : cutL w none (some 1) = [a] := by
    cases w with
    | nil => exact absurd rfl hne
    | cons b r => simp at h0; subst h0; simp [cutL, cutIx]
  have turns : ∀ (v0 v1 : Option CV) (x : CV), x ∈ List.map (fun c => CV.str [c]) w → (ofO (Option.map CV.bl (cmpop.inop st x (CV.str [48, 49, 50, 51, 52, 53, 54, 55, 56, 57]))) st).bind (fun y s4 => R.ok (some y) s4) = .ok (some (.bl true)) st := by
    intro v0 v1 x hx
    obtain ⟨c, hc, rfl⟩ := List.mem_map.mp hx
    have := hin c hc
    simp [cmpop.inop]
    simpa using this
  by_cases hz2 : a = 48
  · have := hz (hz2 ▸ h0)
    subst this hz2
    simp [d_integer_in, b_integer_in, sliced, cut]
    rw [compL_true (turns none none)]
    simp [hio, f_all, blsOf]
  · simp [d_integer_in, b_integer_in, sliced, cut, l1, show (a == 45) = false by simp; omega, hne]
    rw [compL_true (turns none none)]
    simp [h0, l1, hz2, hio]
end LW

set_option linter.all false
set_option maxRecDepth 100000
/-! Rules: texts, steps, worths. -/
namespace LW
open MP
/-- a step: beyond?, place, worth -/
abbrev Step := Bool × Nat × Nat
def wBox : List Nat := [98, 111, 120]
def wBound : List Nat := [98, 111, 117, 110, 100]
def wFrom : List Nat := [102, 114, 111, 109]
def wBeyond : List Nat := [98, 101, 121, 111, 110, 100]
def word (b : Bool) : List Nat := if b then wBeyond else wFrom
def stepV (t : Step) : CV := .tup [.str (word t.1), .int t.2.1, .int t.2.2]
@[simp] theorem NoLoc_step (t : Step) : NoLoc (stepV t) := by simp [stepV]
@[simp high] theorem NoLoc_steps (xs : List Step) : NoLoc (.tup (xs.map stepV)) := .tup fun x hx => by
  obtain ⟨t, _, rfl⟩ := List.mem_map.mp hx
  exact NoLoc_step t
@[simp high] theorem NoLoc_stepsL (xs : List Step) : NoLoc (.lst (xs.map stepV)) := .lst fun x hx => by
  obtain ⟨t, _, rfl⟩ := List.mem_map.mp hx
  exact NoLoc_step t
@[simp] theorem isNon_step (t : Step) : (stepV t).isNon = false := rfl
structure Lore where
  box : Nat
  bound : Nat
  steps : List Step
def spot (t : Step) : Nat := 2 * t.2.1 + (if t.1 then 1 else 0)
def low (t : Step) : Nat := if t.1 then 0 else 1
structure OkStep (box : Nat) (t : Step) : Prop where
  lo : low t ≤ t.2.1
  hi : t.2.1 < box + low t
  w : t.2.2 ≤ 999999999
structure OkLore (L : Lore) : Prop where
  b1 : 1 ≤ L.box
  b2 : L.box ≤ 60
  c1 : 1 ≤ L.bound
  c2 : L.bound ≤ 999999999
  st : ∀ t ∈ L.steps, OkStep L.box t
  up : L.steps.Pairwise fun a b => spot a < spot b
def lineN (w : List Nat) (n : Nat) : List Nat := w ++ [32] ++ digitsOf n
def lineS (t : Step) : List Nat := word t.1 ++ [32] ++ digitsOf t.2.1 ++ [32] ++ digitsOf t.2.2
def linesL (L : Lore) : List (List Nat) := lineN wBox L.box :: lineN wBound L.bound :: L.steps.map lineS
def textL (L : Lore) : List Nat := joinL [10] (linesL L)

theorem dig_no (n c : Nat) (h : c < 48 ∨ 57 < c) : c ∉ digitsOf n := fun hc => by
  have := dig_all n c hc
  omega
theorem len9 {n : Nat} (h : n ≤ 999999999) : (digitsOf n).length ≤ 9 := dig_len 8 n (by omega)
theorem word_no (b : Bool) (c : Nat) (h : c < 98) : c ∉ word b := by
  cases b <;> simp [word, wFrom, wBeyond] <;> omega
theorem word_len (b : Bool) : (word b).length ≤ 6 := by cases b <;> simp [word, wFrom, wBeyond]
theorem lineN_split {w : List Nat} (h : 32 ∉ w) (n : Nat) : splitL 32 (lineN w n) = [w, digitsOf n] := by
  unfold lineN
  rw [List.append_assoc]
  show splitL 32 (w ++ 32 :: digitsOf n) = _
  rw [split_app _ h, split_no (dig_no n 32 (by omega))]
theorem lineS_split (t : Step) : splitL 32 (lineS t) = [word t.1, digitsOf t.2.1, digitsOf t.2.2] := by
  have e : lineS t = word t.1 ++ 32 :: (digitsOf t.2.1 ++ 32 :: digitsOf t.2.2) := by simp [lineS]
  rw [e, split_app _ (word_no _ _ (by omega)), split_app _ (dig_no _ 32 (by omega)), split_no (dig_no _ 32 (by omega))]
theorem line_no {L : Lore} : ∀ x ∈ linesL L, 10 ∉ x := by
  intro x hx
  unfold linesL at hx
  simp only [List.mem_cons, List.mem_map] at hx
  rcases hx with rfl | rfl | ⟨t, ht, rfl⟩
  · simp [lineN, wBox, dig_no]
  · simp [lineN, wBound, dig_no]
  · simp [lineS, dig_no, word_no]
theorem text_split (L : Lore) : splitL 10 (textL L) = linesL L := split_join (by simp [linesL]) line_no
theorem lineS_len {L : Lore} (h : OkLore L) {t : Step} (ht : t ∈ L.steps) : (lineS t).length ≤ 30 := by
  have o := h.st t ht
  have := word_len t.1
  have h1 : t.2.1 ≤ 999999999 := by
    have := o.hi
    have := h.b2
    have : low t ≤ 1 := by unfold low; split <;> omega
    omega
  have := len9 h1
  have := len9 o.w
  simp [lineS]
  omega
/-- few steps: one at each space at most -/
theorem spots_len : ∀ {xs : List Step} {a b : Nat}, xs.Pairwise (fun p q => spot p < spot q) → (∀ t ∈ xs, a ≤ spot t ∧ spot t < b) → a ≤ b → xs.length ≤ b - a
  | [], _, _, _, _, _ => Nat.zero_le _
  | t :: r, a, b, h, k, hab => by
    rw [List.pairwise_cons] at h
    have h1 := k t (List.mem_cons_self ..)
    have := spots_len (xs := r) (a := spot t + 1) (b := b) h.2 (fun u hu => ⟨h.1 u hu, (k u (List.mem_cons_of_mem _ hu)).2⟩) (by omega)
    simp
    omega
theorem spot_le {L : Lore} (h : OkLore L) {t : Step} (ht : t ∈ L.steps) : 1 ≤ spot t ∧ spot t < 2 * L.box + 1 := by
  have o := h.st t ht
  have h1 := o.lo
  have h2 := o.hi
  obtain ⟨b, p, w⟩ := t
  cases b <;> simp [spot, low] at * <;> omega
theorem steps_len {L : Lore} (h : OkLore L) : L.steps.length ≤ 120 := by
  have := spots_len h.up (fun t ht => spot_le h ht) (by omega)
  have := h.b2
  omega
theorem text_len {L : Lore} (h : OkLore L) : (textL L).length ≤ 4000 := by
  have := join_len [10] (linesL L) 30 (fun x hx => by
    unfold linesL at hx
    simp only [List.mem_cons, List.mem_map] at hx
    have h2 : L.box ≤ 999999999 := by have := h.b2; omega
    have l1 := len9 h2
    have l2 := len9 h.c2
    rcases hx with rfl | rfl | ⟨t, ht, rfl⟩
    · simp [lineN, wBox]; omega
    · simp [lineN, wBound]; omega
    · exact lineS_len h ht)
  have l := steps_len h
  unfold textL
  simp [linesL] at this ⊢
  omega
theorem number_in_ok (n : Nat) (hn : 2 ≤ n) (w : List Nat) (hw : 32 ∉ w) (hl : w.length ≤ 100) (k : Nat) (hi : Nat) (h1 : 1 ≤ k) (h2 : k ≤ hi) (h3 : hi ≤ 999999999) (st : Sto) : sem prog n f_number_in [.str (lineN w k), .str w, .int hi] st = .ok (.int k) st := by
  rw [sem_call (d := d_number_in) (by omega) rfl rfl]
  have l := len9 (show k ≤ 999999999 by omega)
  have e := integer_in_ok (n - 1) (by omega) k (by omega) st
  have sp := lineN_split hw k
  have ll : (lineN w k).length ≤ 16000000 := by simp [lineN]; omega
  simp [d_number_in, b_number_in, mSplit, sp, ll, ixOf, e, h1, h2]
  simp [show (1 : Int) ≤ k by omega, show (k : Int) ≤ hi by omega]
theorem step_in_ok (n : Nat) (hn : 2 ≤ n) (t : Step) (box : Nat) (hb : box ≤ 60) (ok : OkStep box t) (st : Sto) : sem prog n f_step_in [.str (lineS t), .int box] st = .ok (stepV t) st := by
  rw [sem_call (d := d_step_in) (by omega) rfl rfl]
  have h1 := ok.lo
  have h2 := ok.hi
  have h3 := ok.w
  have hlow : low t ≤ 1 := by unfold low; split <;> omega
  have e1 := integer_in_ok (n - 1) (by omega) t.2.1 (by have := len9 (show t.2.1 ≤ 999999999 by omega); omega) st
  have e2 := integer_in_ok (n - 1) (by omega) t.2.2 (by have := len9 h3; omega) st
  have sp := lineS_split t
  have ll : (lineS t).length ≤ 16000000 := by
    have := len9 (show t.2.1 ≤ 999999999 by omega)
    have := len9 h3
    have := word_len t.1
    simp [lineS]; omega
  obtain ⟨b, p, w⟩ := t
  have h3'' : ¬ ((999999999 : Int) < w) := by simp at h3; omega
  cases b with
  | true =>
    have q1 : (p : Int) < box := by simp [low] at h2; omega
    simp [word] at sp e1 e2
    simp [d_step_in, b_step_in, mSplit, sp, ll, ixOf, e1, e2, cmpop.inop, inSeq, flat, stepV, word, wBeyond, wFrom]
    simp [show ¬ box ≤ p by omega, h3'', show ¬ 999999999 < w by omega]
  | false =>
    have q0 : (1 : Int) ≤ p := by simp [low] at h1; omega
    have q1 : (p : Int) < box + 1 := by simp [low] at h2; omega
    simp [word] at sp e1 e2
    simp [d_step_in, b_step_in, mSplit, sp, ll, ixOf, e1, e2, cmpop.inop, inSeq, flat, stepV, word, wBeyond, wFrom]
    simp [q0, show ¬ box + 1 ≤ p by omega, q1, h3'', show ¬ 999999999 < w by omega]
theorem space_at_ok (n : Nat) (hn : 1 ≤ n) (t : Step) (st : Sto) : sem prog n f_space_at [stepV t] st = .ok (.int (spot t)) st := by
  rw [sem_call (d := d_space_at) (by omega) rfl rfl]
  have m : ∀ x : Int, mulOk 2 x = true := fun x => mulOk_l (by omega) (by omega)
  obtain ⟨b, p, w⟩ := t
  cases b <;> simp [d_space_at, b_space_at, stepV, ixOf, m, word, wBeyond, wFrom, spot]
end LW

set_option linter.all false
set_option maxRecDepth 100000
/-! A rule is read and made. -/
namespace LW
open MP
theorem parts_of_ok (n : Nat) (hn : 3 ≤ n) (L : Lore) (ok : OkLore L) (st : Sto) : sem prog n f_parts_of [.str (textL L)] st = .ok (.tup [.int L.box, .int L.bound, .tup (L.steps.map stepV)]) st := by
  rw [sem_call (d := d_parts_of) (by omega) rfl rfl]
  have tl := text_len ok
  have sp := text_split L
  have e1 := number_in_ok (n - 1) (by omega) wBox (by decide) (by decide) L.box 60 ok.b1 ok.b2 (by decide) st
  have e2 := number_in_ok (n - 1) (by omega) wBound (by decide) (by decide) L.bound 999999999 ok.c1 ok.c2 (by decide) st
  have sl := steps_len ok
  simp [wBox] at e1
  simp [wBound] at e2
  have en : cutL ((linesL L).map CV.str) (some 2) none = (L.steps.map lineS).map CV.str := cut_from _ 2 (by decide)
  simp [d_parts_of, b_parts_of, mSplit, sp, show (textL L).length ≤ 16000000 by omega, ixOf]
  simp [linesL] at en ⊢
  simp [wBox, wBound] at en ⊢
  simp [e1, e2, sliced, en, show (1 : Int) < L.steps.length + 1 + 1 by omega]
  refine for_then (fun x => fin st x = _) (fun i env s => ∃ v5 v6 v7, env = [some (CV.str (textL L)), some (CV.lst (CV.str (lineN [98, 111, 120] L.box) :: CV.str (lineN [98, 111, 117, 110, 100] L.bound) :: List.map (CV.str ∘ lineS) L.steps)), some (CV.int L.box), some (CV.int L.bound), some (CV.loc st.length), v5, v6, v7] ∧ s = st ++ [.lst ((L.steps.map stepV).take i)]) ⟨none, none, none, rfl, rfl⟩ ?_ ?_
  · rintro i x env s hx ⟨v5, v6, v7, rfl, rfl⟩
    rw [enum_at, List.getElem?_map] at hx
    obtain ⟨y, hy, rfl⟩ := Option.map_eq_some_iff.mp hx
    obtain ⟨t, ht, rfl⟩ := Option.map_eq_some_iff.mp hy
    have hm := List.mem_of_getElem? ht
    have hi := (List.getElem?_eq_some_iff.mp ht).1
    have e3 := fun s => step_in_ok (n - 1) (by omega) t L.box ok.b2 (ok.st t hm) s
    have e4 := fun (t : Step) s => space_at_ok (n - 1) (by omega) t s
    have tk : (L.steps.map stepV).take (i + 1) = (L.steps.map stepV).take i ++ [stepV t] := by rw [List.take_succ, List.getElem?_map, ht]; rfl
    have hat : (st ++ [CO.lst ((L.steps.map stepV).take i)])[st.length]? = some (.lst ((L.steps.map stepV).take i)) := by simp
    refine ⟨[some (CV.str (textL L)), some (CV.lst (CV.str (lineN [98, 111, 120] L.box) :: CV.str (lineN [98, 111, 117, 110, 100] L.bound) :: List.map (CV.str ∘ lineS) L.steps)), some (CV.int L.box), some (CV.int L.bound), some (CV.loc st.length), some (.int i), some (.str (lineS t)), some (stepV t)], st ++ [.lst ((L.steps.map stepV).take (i + 1))], ?_, some (.int i), some (.str (lineS t)), some (stepV t), rfl, rfl⟩
    cases i with
    | zero =>
      have hat0 : (st ++ [CO.lst []])[st.length]? = some (.lst []) := by simp
      rw [tk]
      simp [e3, d_loc hat0, l_loc hat0, append_loc hat0]
    | succ j =>
      obtain ⟨u, hu⟩ : ∃ u, L.steps[j]? = some u := ⟨_, List.getElem?_eq_getElem (by omega)⟩
      have lt : spot u < spot t := by
        obtain ⟨h1, z1⟩ := List.getElem?_eq_some_iff.mp hu
        obtain ⟨h2, z2⟩ := List.getElem?_eq_some_iff.mp ht
        have := List.pairwise_iff_getElem.mp ok.up j (j + 1) h1 h2 (by omega)
        rwa [z1, z2] at this
      have tj : (L.steps.map stepV).take (j + 1) = (L.steps.map stepV).take j ++ [stepV u] := by rw [List.take_succ, List.getElem?_map, hu]; rfl
      rw [tk]
      rw [tj] at hat ⊢
      have len : j ≤ 16000000 := by omega
      simp [e3, e4, d_loc hat, l_loc hat, i_loc hat, append_loc hat, show ¬ spot t ≤ spot u by omega, List.length_take, show min j L.steps.length + 1 ≤ 16000000 by omega]
  · rintro env s ⟨v5, v6, v7, rfl, rfl⟩
    have hat : (st ++ [CO.lst (L.steps.map stepV)])[st.length]? = some (.lst (L.steps.map stepV)) := by simp
    simp [List.take_of_length_le, tuple_loc hat]
    exact fin_app (.tup fun x hx => by
      simp only [List.mem_cons, List.not_mem_nil, or_false] at hx
      rcases hx with rfl | rfl | rfl
      · exact .int _
      · exact .int _
      · exact NoLoc_steps _)
/-! the worth of each space -/
def look (xs : List Step) (s : Nat) : Option Nat := (xs.find? fun t => spot t == s).map fun t => t.2.2
def wRec (xs : List Step) : Nat → Nat
  | 0 => 0
  | s + 1 => (look xs (s + 1)).getD (wRec xs s)
theorem wRec_of (xs : List Step) : ∀ s, wRec xs s = 0 ∨ ∃ t ∈ xs, spot t ≤ s ∧ wRec xs s = t.2.2
  | 0 => .inl rfl
  | s + 1 => by
    unfold wRec look
    cases h : xs.find? fun t => spot t == s + 1 with
    | some t =>
      right
      have := List.find?_some h
      exact ⟨t, List.mem_of_find?_eq_some h, by simp at this; omega, rfl⟩
    | none =>
      rcases wRec_of xs s with h | ⟨t, h1, h2, h3⟩
      · exact .inl h
      · exact .inr ⟨t, h1, by omega, h3⟩
def worthsL (L : Lore) : List CV := (List.range (2 * L.box + 1)).map fun s => .int (wRec L.steps s)
/-- a dict by pairs whose keys are unlike -/
theorem dictOf_nodup (tk : Bool) : ∀ (ps acc : List (CV × CV)), (∀ p ∈ ps, okKey tk p.1 = true) → (ps.map fun p => keyOf p.1).Nodup → (∀ p ∈ ps, ∀ q ∈ acc, keyOf q.1 ≠ keyOf p.1) → dictOf tk acc ps = some (acc ++ ps)
  | [], acc, _, _, _ => by simp [dictOf]
  | (k, v) :: r, acc, h1, h2, h3 => by
    have hk := h1 (k, v) (List.mem_cons_self ..)
    rw [List.map_cons, List.nodup_cons] at h2
    unfold dictOf
    rw [if_pos hk]
    have e : dput acc k v = acc ++ [(k, v)] := by
      unfold dput
      rw [if_neg]
      intro h
      obtain ⟨q, hq, h⟩ := List.any_eq_true.mp h
      exact h3 (k, v) (List.mem_cons_self ..) q hq (of_decide_eq_true h)
    rw [e, dictOf_nodup tk r _ (fun p hp => h1 p (List.mem_cons_of_mem _ hp)) h2.2 fun p hp q hq => ?_, List.append_assoc]
    · rfl
    · rw [List.mem_append] at hq
      rcases hq with hq | hq
      · exact h3 p (List.mem_cons_of_mem _ hp) q hq
      · rw [List.mem_singleton.mp hq]
        intro e
        exact h2.1 (e ▸ List.mem_map_of_mem hp)
theorem pairsOf_map {α : Type} (f g : α → CV) (xs : List α) : pairsOf (xs.map fun x => .tup [f x, g x]) = some (xs.map fun x => (f x, g x)) := by
  induction xs with
  | nil => rfl
  | cons x r ih =>
    show (pairsOf (r.map fun x => .tup [f x, g x])).map ((f x, g x) :: ·) = _
    rw [ih]
    rfl
theorem dget_spots (xs : List Step) (s : Nat) : dget (xs.map fun t => (CV.int (spot t), CV.int t.2.2)) (.i s) = (look xs s).map fun w => .int w := by
  unfold look
  induction xs with
  | nil => rfl
  | cons t r ih =>
    show (if keyOf (.int (spot t)) = some (.i s) then some (CV.int t.2.2) else dget (r.map _) (.i s)) = _
    rw [List.find?_cons]
    by_cases h : spot t = s
    · subst h
      rw [if_pos (by rfl)]
      simp
    · have n1 : ¬ keyOf (.int (spot t)) = some (.i (s : Int)) := by
        intro e
        apply h
        simp [keyOf] at e
        omega
      have n2 : (spot t == s) = false := by simpa using h
      rw [if_neg n1, ih, n2]
theorem worths_by_ok (n : Nat) (hn : 2 ≤ n) (L : Lore) (ok : OkLore L) (st : Sto) : sem prog n f_worths_by [.int L.box, .tup (L.steps.map stepV)] st = .ok (.tup (worthsL L)) st := by
  rw [sem_call (d := d_worths_by) (by omega) rfl rfl]
  have sl := steps_len ok
  have b2 := ok.b2
  have m : ∀ x : Int, mulOk 2 x = true := fun x => mulOk_l (by omega) (by omega)
  simp [d_worths_by, b_worths_by]
  have dd : dictOf false [] (L.steps.map fun t => (CV.int (spot t), CV.int t.2.2)) = some (L.steps.map fun t => (CV.int (spot t), CV.int t.2.2)) := by
    refine (dictOf_nodup false _ [] (fun p hp => ?_) ?_ fun p hp q hq => by cases hq)
    · obtain ⟨t, _, rfl⟩ := List.mem_map.mp hp
      rfl
    · rw [List.map_map]
      refine List.Pairwise.map _ (fun a b h => ?_) ok.up
      simp [keyOf]
      omega
  rw [compL_mapL stepV fun t => .tup [.int (spot t), .int t.2.2]]
  · simp [pairsOf_map, dd, show L.steps.length ≤ 16000000 by omega, m, rngR_ok (rngOk_of (show (-1000000 : Int) ≤ 1 by omega) (show (2 * (L.box : Int) + 1) ≤ 1000000 by omega) (by omega) (by omega))]
    refine for_then (fun x => fin st x = _) (fun i env s => ∃ v5, env = [some (CV.int L.box), some (CV.tup (List.map stepV L.steps)), some (CV.dic false (List.map (fun x => (CV.int (spot x), CV.int x.2.2)) L.steps)), none, some (CV.loc st.length), v5] ∧ s = st ++ [.lst ((List.range (i + 1)).map fun s => .int (wRec L.steps s))]) ⟨none, rfl, by simp [wRec]⟩ ?_ ?_
    · rintro i x env s hx ⟨v5, rfl, rfl⟩
      rw [range_at] at hx
      split at hx
      · rename_i hi
        cases hx
        have hat : (st ++ [CO.lst ((List.range (i + 1)).map fun s => CV.int (wRec L.steps s))])[st.length]? = some (.lst ((List.range (i + 1)).map fun s => .int (wRec L.steps s))) := by simp
        have last : ((List.range (i + 1)).map fun s => CV.int (wRec L.steps s)).getLast? = some (.int (wRec L.steps i)) := by
          rw [List.range_succ, List.map_append]; simp
        have ec : (1 + (i : Int)) = ((i + 1 : Nat) : Int) := by omega
        have dg : dget (L.steps.map fun t => (CV.int (spot t), CV.int t.2.2)) (.i ((i : Int) + 1)) = (look L.steps (i + 1)).map fun w => .int w := dget_spots L.steps (i + 1)
        have nx : (Option.map (fun w : Nat => CV.int w) (look L.steps (i + 1))).getD (CV.int (wRec L.steps i)) = .int (wRec L.steps (i + 1)) := by
          rw [wRec]
          cases look L.steps (i + 1) <;> rfl
        refine ⟨_, st ++ [.lst ((List.range (i + 1 + 1)).map fun s => .int (wRec L.steps s))], ?_, some (.int (i + 1 : Nat)), rfl, rfl⟩
        rw [ec]
        have il : i ≤ 200 := by omega
        simp [l_loc hat, i_loc hat, last, get_dic (key_int _) (okK_int _), append_loc hat (by simp; omega)]
        rw [dg, nx]
        rw [List.range_succ (n := i + 1), List.map_append]
        simp
      · cases hx
    · rintro env s ⟨v5, rfl, rfl⟩
      have e : (rangeL 1 (2 * (L.box : Int) + 1)).length + 1 = 2 * L.box + 1 := by rw [range_len]; omega
      rw [e]
      have hat : (st ++ [CO.lst ((List.range (2 * L.box + 1)).map fun s => CV.int (wRec L.steps s))])[st.length]? = some (.lst ((List.range (2 * L.box + 1)).map fun s => .int (wRec L.steps s))) := by simp
      simp [tuple_loc hat]
      exact fin_app (.tup fun x hx => by
        obtain ⟨t, _, rfl⟩ := List.mem_map.mp hx
        exact .int _)
  · intro t ht
    have e := fun s => space_at_ok (n - 1) (by omega) t s
    simp [e]
    simp [stepV]
def ruleF (L : Lore) : List (Nat × CV) := [(a_own_text, .str (textL L)), (a_own_box, .int L.box), (a_own_bound, .int L.bound), (a_own_steps, .tup (L.steps.map stepV)), (a_own_worths, .tup (worthsL L))]
def ruleV (L : Lore) : CV := .rcd c_Rule (ruleF L)
@[simp] theorem isNon_rule (L : Lore) : (ruleV L).isNon = false := rfl
@[simp] theorem NoLoc_rule (L : Lore) : NoLoc (ruleV L) := by
  refine .rcd fun p hp => ?_
  simp only [ruleF, List.mem_cons, List.not_mem_nil, or_false] at hp
  rcases hp with rfl | rfl | rfl | rfl | rfl
  · exact .str _
  · exact .int _
  · exact .int _
  · exact NoLoc_steps _
  · exact .tup fun x hx => by
      obtain ⟨t, _, rfl⟩ := List.mem_map.mp hx
      exact .int _
theorem Rule_init_ok (n : Nat) (hn : 4 ≤ n) (L : Lore) (ok : OkLore L) (st : Sto) : sem prog n f_Rule_init [.loc st.length, .str (textL L)] (st ++ [.ins c_Rule []]) = .ok .non (st ++ [.ins c_Rule (ruleF L)]) := by
  rw [sem_call (d := d_Rule_init) (by omega) rfl rfl]
  have e1 := parts_of_ok (n - 1) (by omega) L ok (st ++ [.ins c_Rule []])
  have e2 := fun s => worths_by_ok (n - 1) (by omega) L ok s
  have put : ∀ (fs : List (Nat × CV)) (f : Nat) (v : CV), fs.length < 900 → (prog.cls c_Rule).flds.contains f = true → setAttr prog (st ++ [.ins c_Rule fs]) (.loc st.length) f v = some (st ++ [.ins c_Rule (putF f v fs)]) := fun fs f v h1 h2 => by
    rw [put_attr (c := c_Rule) (fs := fs) (by simp) h1 h2]
    simp
  have p1 : ∀ v1, setAttr prog (st ++ [.ins c_Rule []]) (.loc st.length) a_own_text v1 = some (st ++ [.ins c_Rule [(a_own_text, v1)]]) := fun v1 => put [] _ v1 (by decide) rfl
  have p2 : ∀ v1 v2, setAttr prog (st ++ [.ins c_Rule [(a_own_text, v1)]]) (.loc st.length) a_own_box v2 = some (st ++ [.ins c_Rule [(a_own_text, v1), (a_own_box, v2)]]) := fun v1 v2 => put [(_, v1)] _ v2 (by simp) rfl
  have p3 : ∀ v1 v2 v3, setAttr prog (st ++ [.ins c_Rule [(a_own_text, v1), (a_own_box, v2)]]) (.loc st.length) a_own_bound v3 = some (st ++ [.ins c_Rule [(a_own_text, v1), (a_own_box, v2), (a_own_bound, v3)]]) := fun v1 v2 v3 => put [(_, v1), (_, v2)] _ v3 (by simp) rfl
  have p4 : ∀ v1 v2 v3 v4, setAttr prog (st ++ [.ins c_Rule [(a_own_text, v1), (a_own_box, v2), (a_own_bound, v3)]]) (.loc st.length) a_own_steps v4 = some (st ++ [.ins c_Rule [(a_own_text, v1), (a_own_box, v2), (a_own_bound, v3), (a_own_steps, v4)]]) := fun v1 v2 v3 v4 => put [(_, v1), (_, v2), (_, v3)] _ v4 (by simp) rfl
  have p5 : ∀ v1 v2 v3 v4 v5, setAttr prog (st ++ [.ins c_Rule [(a_own_text, v1), (a_own_box, v2), (a_own_bound, v3), (a_own_steps, v4)]]) (.loc st.length) a_own_worths v5 = some (st ++ [.ins c_Rule [(a_own_text, v1), (a_own_box, v2), (a_own_bound, v3), (a_own_steps, v4), (a_own_worths, v5)]]) := fun v1 v2 v3 v4 v5 => put [(_, v1), (_, v2), (_, v3), (_, v4)] _ v5 (by simp) rfl
  simp [d_Rule_init, b_Rule_init, e1, e2, p1, p2, p3, p4, p5]
  rw [fin_lenx (by simp)]
  rfl
theorem Rule_new (n : Nat) (hn : 4 ≤ n) (L : Lore) (ok : OkLore L) (st : Sto) : newOf prog (sem prog n) c_Rule [.str (textL L)] st = .ok (ruleV L) st :=
  new_frozen rfl rfl (Rule_init_ok n hn L ok st) (NoLoc_rule L)
end LW

set_option linter.all false
set_option maxRecDepth 100000
/-! Lots; what a rule tells of them. -/
namespace LW
open MP
abbrev Lot := List (Q2 × Int)
def partV (p : Q2 × Int) : CV := .tup [nm p.1, .int p.2]
def lotV (l : Lot) : CV := .tup (l.map partV)
@[simp] theorem NoLoc_part (p : Q2 × Int) : NoLoc (partV p) := by simp [partV]
@[simp] theorem NoLoc_lot (l : Lot) : NoLoc (lotV l) := .tup fun x hx => by
  obtain ⟨p, _, rfl⟩ := List.mem_map.mp hx
  exact NoLoc_part p
/-- a size no greater than the box -/
structure OkSize (B : Int) (q : Q2) : Prop where
  num : Num q
  pos : 0 < q.1
  le : q.1 ≤ B * q.2
structure OkLot (B : Int) (l : Lot) : Prop where
  size : ∀ p ∈ l, OkSize B p.1
  many : ∀ p ∈ l, 1 ≤ p.2
  nd : (l.map (·.1)).Nodup
  len : l.length ≤ 1000
  bit : ∀ p ∈ l, Bit 64 p.1 ∧ p.2.natAbs < 2 ^ 64
def spcI (q : Q2) : Int := 2 * (q.1 / q.2) + if 0 < q.1 % q.2 then 1 else 0
def spc (q : Q2) : Nat := (spcI q).toNat
theorem spcI_nn {q : Q2} (h : Num q) : 0 ≤ spcI q := by
  have := Int.ediv_nonneg h.nn (Int.le_of_lt h.up)
  unfold spcI
  split <;> omega
theorem spc_eq {q : Q2} (h : Num q) : ((spc q : Nat) : Int) = spcI q := Int.toNat_of_nonneg (spcI_nn h)
theorem spcI_le {q : Q2} {B : Int} (h : 0 < q.2) (hl : q.1 ≤ B * q.2) : spcI q ≤ 2 * B := by
  have e := Int.ediv_mul_add_emod q.1 q.2
  have m0 := Int.emod_nonneg q.1 (show q.2 ≠ 0 by omega)
  have d1 : q.1 / q.2 ≤ B := Int.ediv_le_of_le_mul h hl
  unfold spcI
  split
  · rename_i hp
    have : q.1 / q.2 < B := by
      rcases Int.lt_or_eq_of_le d1 with h1 | h1
      · exact h1
      · rw [h1] at e; omega
    omega
  · omega
theorem spc_le {q : Q2} {B : Nat} (h : OkSize B q) : spc q ≤ 2 * B := by
  have := spcI_le h.num.up h.le
  have := spc_eq h.num
  omega
/-- the worth of a size -/
def wAt (L : Lore) (q : Q2) : Nat := wRec L.steps (spc q)
theorem worths_at (L : Lore) {s : Nat} (h : s ≤ 2 * L.box) : (worthsL L)[s]? = some (.int (wRec L.steps s)) := by
  unfold worthsL
  rw [List.getElem?_map, List.getElem?_range (by omega)]
  rfl
def reck (L : Lore) (l : Lot) : Int := (l.map fun p => p.2 * (wAt L p.1 : Int)).sum
theorem space_of_eq (n : Nat) (hn : 1 ≤ n) (q : Q2) (h : Num q) (hs : q.2.natAbs < 2 ^ 9000) (st : Sto) : sem prog n f_space_of [nm q] st = .ok (.int (spc q)) st := by
  rw [space_of_ok n hn q h.up hs st, spc_eq h]
  rfl
theorem is_part_none (n : Nat) (hn : 3 ≤ n) (p : Q2 × Int) (h : Num p.1) (h0 : 0 < p.1.1) (hm : 1 ≤ p.2) (st : Sto) : sem prog n f_is_part [partV p, .non] st = .ok (.bl true) st := by
  rw [sem_call (d := d_is_part) (by omega) rfl rfl]
  have e := fun s => is_number_ok (n - 1) (by omega) p.1 h s
  simp [d_is_part, b_is_part, partV, is_tuple3 (n - 1) (by omega), is_int2 (n - 1) (by omega), e, hm]
  simp [nm, h0]
theorem is_part_box (n : Nat) (hn : 4 ≤ n) (p : Q2 × Int) (B : Nat) (hB : B ≤ 60) (h : OkSize B p.1) (hm : 1 ≤ p.2) (st : Sto) : sem prog n f_is_part [partV p, .int B] st = .ok (.bl true) st := by
  rw [sem_call (d := d_is_part) (by omega) rfl rfl]
  have e := fun s => is_number_ok (n - 1) (by omega) p.1 h.num s
  have e2 := fun s => is_size_ok (n - 1) (by omega) p.1 h.num B (by omega) (by omega) s
  simp [d_is_part, b_is_part, partV, is_tuple3 (n - 1) (by omega), is_int2 (n - 1) (by omega), e, e2, hm, h.pos, h.le]
theorem sizes_dict {l : Lot} (h : (l.map (·.1)).Nodup) : dictOf true [] (l.map fun p => (nm p.1, CV.bl true)) = some (l.map fun p => (nm p.1, CV.bl true)) := by
  refine dictOf_nodup true _ [] (fun p hp => ?_) ?_ fun p hp q hq => by cases hq
  · obtain ⟨t, _, rfl⟩ := List.mem_map.mp hp
    rfl
  · rw [List.map_map]
    rw [List.Nodup, List.pairwise_map] at h ⊢
    refine h.imp fun {a b} hab e => hab ?_
    simp [keyOf, nm] at e
    exact Prod.ext e.1 e.2
theorem is_lot_of (n : Nat) (hn : 2 ≤ n) (l : Lot) (b : CV) (hp : ∀ p ∈ l, ∀ s, sem prog (n - 1) f_is_part [partV p, b] s = .ok (.bl true) s) (nd : (l.map (·.1)).Nodup) (hl : l.length ≤ 1000) (st : Sto) : sem prog n f_is_lot [lotV l, b] st = .ok (.bl true) st := by
  rw [sem_call (d := d_is_lot) (by omega) rfl rfl]
  simp [d_is_lot, b_is_lot, lotV, is_tuple2 (n - 1) (by omega)]
  rw [compL_mapL partV (fun _ => .bl true) fun p h => by simp [hp p h]]
  simp [show l.length ≤ 16000000 by omega]
  rw [compL_mapL partV (fun p => .tup [nm p.1, .bl true]) fun p h => by simp [partV]]
  simp [show l.length ≤ 16000000 by omega, pairsOf_map, sizes_dict nd]
theorem check_lot_none (n : Nat) (hn : 5 ≤ n) (l : Lot) (B : Int) (h : OkLot B l) (st : Sto) : sem prog n f_check_lot [lotV l, .non] st = .ok .non st := by
  rw [sem_call (d := d_check_lot) (by omega) rfl rfl]
  have e := is_lot_of (n - 1) (by omega) l .non (fun p hp s => is_part_none (n - 1 - 1) (by omega) p (h.size p hp).num (h.size p hp).pos (h.many p hp) s) h.nd h.len st
  simp [d_check_lot, b_check_lot, e]
theorem check_lot_box (n : Nat) (hn : 6 ≤ n) (l : Lot) (B : Nat) (hB : B ≤ 60) (h : OkLot B l) (st : Sto) : sem prog n f_check_lot [lotV l, .int B] st = .ok .non st := by
  rw [sem_call (d := d_check_lot) (by omega) rfl rfl]
  have e := is_lot_of (n - 1) (by omega) l (.int B) (fun p hp s => is_part_box (n - 1 - 1) (by omega) p B hB (h.size p hp) (h.many p hp) s) h.nd h.len st
  simp [d_check_lot, b_check_lot, e]
/-- so many times a number -/
def mulQ (q : Q2) (m : Int) : Q2 := red (q.1 * m) q.2
def fillQ (l : Lot) : Q2 := sumQ (l.map fun p => mulQ p.1 p.2)
theorem mulQ_num {q : Q2} {m : Int} (h : Num q) (hm : 0 ≤ m) : Num (mulQ q m) := red_num (Int.mul_nonneg h.nn hm) h.up
theorem mulQ_bit {q : Q2} {m : Int} {j k : Nat} (h : Num q) (hm : 0 ≤ m) (b : Bit j q) (bm : m.natAbs < 2 ^ k) : Bit (j + k) (mulQ q m) := by
  have x := natAbs_mul_lt b.1 bm
  have n1 := Int.mul_nonneg h.nn hm
  have l1 := red_le1 n1 h.up
  have l2 := red_le2 (o := q.1 * m) h.up
  have p := mulQ_num h hm
  have c1 := p.nn
  have c2 := p.up
  have hp : (2 : Nat) ^ j ≤ 2 ^ (j + k) := Nat.pow_le_pow_right (by decide) (by omega)
  have b2 := b.2
  unfold Bit
  unfold mulQ at c1 c2 ⊢
  constructor <;> omega
theorem fillQ_num {B : Int} {l : Lot} (h : OkLot B l) : Num (fillQ l) := sumQ_num _ fun m hm => by
  obtain ⟨p, hp, rfl⟩ := List.mem_map.mp hm
  exact mulQ_num (h.size p hp).num (by have := h.many p hp; omega)
theorem rule_box (n : Nat) (hn : 1 ≤ n) (L : Lore) (st : Sto) : attrOf prog (sem prog n) (ruleV L) a_box st = .ok (.int L.box) st :=
  attr_prop (g := f_Rule_box) rfl rfl (by
    rw [sem_call (d := d_Rule_box) (by omega) rfl rfl]
    have : ∀ F s, attrOf prog F (ruleV L) a_own_box s = .ok (.int L.box) s := fun F s => attr_rcd rfl rfl
    simp [d_Rule_box, b_Rule_box]
    have t := this (sem prog (n - 1)) st
    unfold ruleV at t
    simp [t])
theorem rule_bound (n : Nat) (hn : 1 ≤ n) (L : Lore) (st : Sto) : attrOf prog (sem prog n) (ruleV L) a_bound st = .ok (.int L.bound) st :=
  attr_prop (g := f_Rule_bound) rfl rfl (by
    rw [sem_call (d := d_Rule_bound) (by omega) rfl rfl]
    have : ∀ F s, attrOf prog F (ruleV L) a_own_bound s = .ok (.int L.bound) s := fun F s => attr_rcd rfl rfl
    simp [d_Rule_bound, b_Rule_bound]
    have t := this (sem prog (n - 1)) st
    unfold ruleV at t
    simp [t])
theorem rule_steps (n : Nat) (hn : 1 ≤ n) (L : Lore) (st : Sto) : attrOf prog (sem prog n) (ruleV L) a_steps st = .ok (.tup (L.steps.map stepV)) st :=
  attr_prop (g := f_Rule_steps) rfl rfl (by
    rw [sem_call (d := d_Rule_steps) (by omega) rfl rfl]
    have : ∀ F s, attrOf prog F (ruleV L) a_own_steps s = .ok (.tup (L.steps.map stepV)) s := fun F s => attr_rcd rfl rfl
    simp [d_Rule_steps, b_Rule_steps]
    have t := this (sem prog (n - 1)) st
    unfold ruleV at t
    simp [t])
theorem rule_worths (F : Fns) (L : Lore) (st : Sto) : attrOf prog F (ruleV L) a_own_worths st = .ok (.tup (worthsL L)) st := attr_rcd rfl rfl
theorem rule_obox (F : Fns) (L : Lore) (st : Sto) : attrOf prog F (ruleV L) a_own_box st = .ok (.int L.box) st := attr_rcd rfl rfl
theorem rule_obound (F : Fns) (L : Lore) (st : Sto) : attrOf prog F (ruleV L) a_own_bound st = .ok (.int L.bound) st := attr_rcd rfl rfl
theorem reckoned_ok (n : Nat) (hn : 7 ≤ n) (L : Lore) (okL : OkLore L) (l : Lot) (h : OkLot L.box l) (st : Sto) : sem prog n f_Rule_reckoned [ruleV L, lotV l] st = .ok (.int (reck L l)) st := by
  rw [sem_call (d := d_Rule_reckoned) (by omega) rfl rfl]
  have c := check_lot_box (n - 1) (by omega) l L.box okL.b2 h st
  simp [d_Rule_reckoned, b_Rule_reckoned, rule_obox, c]
  simp [lotV]
  rw [compL_mapL partV (fun p => .int (p.2 * (wAt L p.1 : Int))) fun p hp => by
    have b := h.bit p hp
    have z := h.size p hp
    have e := fun s => space_of_eq (n - 1) (by omega) p.1 z.num (Nat.lt_of_lt_of_le b.1.2 (Nat.pow_le_pow_right (by decide) (by decide))) s
    have m : ∀ x : Int, mulOk p.2 x = true := fun x => mulOk_l (by omega) (by omega)
    simp [partV, rule_worths, e, atN, worths_at L (spc_le z), m]
    rfl]
  have hl := h.len
  simp [show l.length ≤ 16000000 by omega, reck]
end LW

set_option linter.all false
set_option maxRecDepth 100000
/-! Tables of spaces. -/
namespace LW
open MP
/-! the mathematics of tables -/
def restB (s o : Int) : Int := (s - o) + if o % 2 = 1 ∧ (s - o) % 2 = 0 then 1 else 0
theorem maxL_ge : ∀ (xs : List Int) (m : Int), m ≤ maxL m xs ∧ ∀ x ∈ xs, x ≤ maxL m xs
  | [], m => ⟨Int.le_refl _, fun x h => by cases h⟩
  | y :: r, m => by
    unfold maxL
    by_cases h : y > m
    · rw [if_pos h]
      obtain ⟨h1, h2⟩ := maxL_ge r y
      refine ⟨by omega, fun x hx => ?_⟩
      rcases List.mem_cons.mp hx with rfl | hx
      · exact h1
      · exact h2 x hx
    · rw [if_neg h]
      obtain ⟨h1, h2⟩ := maxL_ge r m
      refine ⟨h1, fun x hx => ?_⟩
      rcases List.mem_cons.mp hx with rfl | hx
      · omega
      · exact h2 x hx
theorem maxL_mem : ∀ (xs : List Int) (m : Int), maxL m xs = m ∨ maxL m xs ∈ xs
  | [], m => .inl rfl
  | y :: r, m => by
    unfold maxL
    rcases maxL_mem r (if y > m then y else m) with h | h
    · split at h
      · right; rename_i h1; rw [if_pos h1, h]; exact List.mem_cons_self ..
      · left; rename_i h1; rw [if_neg h1, h]
    · exact .inr (List.mem_cons_of_mem _ h)
abbrev TS := List (Nat × Nat)
def trueS (L : Lore) : TS := (L.steps.filter fun t => decide (0 < t.2.2)).map fun t => (spot t, t.2.2)
def cand (f : List Int) (s : Nat) (p : Nat × Nat) : Option Int := if 0 ≤ restB s p.1 then some (f.getD (restB s p.1).toNat 0 + p.2) else none
def nxt (ts : TS) (f : List Int) (s : Nat) : Int := maxL (f.getLastD 0) (ts.filterMap (cand f s))
def tabL (ts : TS) : Nat → List Int
  | 0 => [0]
  | s + 1 => tabL ts s ++ [nxt ts (tabL ts s) (s + 1)]
def tab (ts : TS) (s : Nat) : Int := (tabL ts s).getLastD 0
theorem tabL_len (ts : TS) : ∀ s, (tabL ts s).length = s + 1
  | 0 => rfl
  | s + 1 => by rw [tabL, List.length_append, tabL_len]; rfl
theorem tabL_eq (ts : TS) : ∀ s, tabL ts s = (List.range (s + 1)).map (tab ts)
  | 0 => rfl
  | s + 1 => by
    have h : tab ts (s + 1) = nxt ts (tabL ts s) (s + 1) := by unfold tab; rw [tabL]; simp
    rw [List.range_succ, List.map_append, ← tabL_eq ts s, tabL, ← h]
    rfl
theorem tab_zero (ts : TS) : tab ts 0 = 0 := rfl
theorem tab_succ (ts : TS) (s : Nat) : tab ts (s + 1) = maxL (tab ts s) (ts.filterMap (cand (tabL ts s) (s + 1))) := by
  have h : tab ts (s + 1) = nxt ts (tabL ts s) (s + 1) := by unfold tab; rw [tabL]; simp
  rw [h]
  rfl
theorem tab_mono1 (ts : TS) (s : Nat) : tab ts s ≤ tab ts (s + 1) := by rw [tab_succ]; exact (maxL_ge _ _).1
theorem tab_mono (ts : TS) {a b : Nat} (h : a ≤ b) : tab ts a ≤ tab ts b := by
  induction h with
  | refl => exact Int.le_refl _
  | step _ ih => exact Int.le_trans ih (tab_mono1 ts _)
theorem tab_nn (ts : TS) (s : Nat) : 0 ≤ tab ts s := by
  have := tab_mono ts (Nat.zero_le s)
  rwa [tab_zero] at this
theorem tabL_at (ts : TS) {s i : Nat} (h : i ≤ s) : (tabL ts s).getD i 0 = tab ts i := by
  rw [tabL_eq, List.getD_eq_getElem?_getD, List.getElem?_map, List.getElem?_range (by omega)]
  rfl
theorem restB_lt {s o : Int} (h : 2 ≤ o) : restB s o < s := by
  unfold restB
  split <;> omega
/-- a step that fits is reckoned -/
theorem tab_step (ts : TS) {s : Nat} {o w : Nat} (h : (o, w) ∈ ts) (ho : 2 ≤ o) (hr : 0 ≤ restB s o) : tab ts (restB s o).toNat + w ≤ tab ts s := by
  have l := restB_lt (s := s) (o := o) (by omega)
  cases s with
  | zero => omega
  | succ s =>
    rw [tab_succ]
    refine (maxL_ge _ _).2 _ (List.mem_filterMap.mpr ⟨(o, w), h, ?_⟩)
    show (if 0 ≤ restB (s + 1 : Nat) o then some ((tabL ts s).getD (restB (s + 1 : Nat) o).toNat 0 + (w : Int)) else none) = _
    rw [if_pos hr, tabL_at ts (by omega)]
/-- why a table grows -/
theorem tab_why (ts : TS) (hts : ∀ p ∈ ts, 2 ≤ p.1) (s : Nat) : tab ts (s + 1) = tab ts s ∨ ∃ p ∈ ts, 0 ≤ restB (s + 1 : Nat) p.1 ∧ tab ts (s + 1) = tab ts (restB (s + 1 : Nat) p.1).toNat + p.2 := by
  rw [tab_succ]
  rcases maxL_mem (ts.filterMap (cand (tabL ts s) (s + 1))) (tab ts s) with h | h
  · exact .inl h
  · right
    obtain ⟨p, hp, hc⟩ := List.mem_filterMap.mp h
    unfold cand at hc
    split at hc
    · rename_i hr
      have l := restB_lt (s := ((s + 1 : Nat) : Int)) (o := p.1) (by have := hts p hp; omega)
      rw [tabL_at ts (by omega)] at hc
      exact ⟨p, hp, hr, (Option.some.inj hc).symm⟩
    · cases hc
/-! the program -/
theorem rest_beside_ok (n : Nat) (hn : 1 ≤ n) (s o : Int) (st : Sto) : sem prog n f_rest_beside [.int s, .int o] st = .ok (.int (restB s o)) st := by
  rw [sem_call (d := d_rest_beside) (by omega) rfl rfl]
  simp [d_rest_beside, b_rest_beside, restB]
theorem endless_worth_ok (n : Nat) (hn : 1 ≤ n) (L : Lore) (ok : OkLore L) (st : Sto) : sem prog n f_endless_worth [ruleV L] st = .ok (.int (wRec L.steps 1)) st := by
  rw [sem_call (d := d_endless_worth) (by omega) rfl rfl]
  have := ok.b1
  simp [d_endless_worth, b_endless_worth, rule_worths, worths_at L (show 1 ≤ 2 * L.box by omega)]
def tsV (ts : TS) : List CV := ts.map fun p => .tup [.int p.1, .int p.2]
theorem true_steps_ok (n : Nat) (hn : 2 ≤ n) (L : Lore) (ok : OkLore L) (st : Sto) : sem prog n f_true_steps [ruleV L] st = .ok (.lst (tsV (trueS L))) st := by
  rw [sem_call (d := d_true_steps) (by omega) rfl rfl]
  have sl := steps_len ok
  simp [d_true_steps, b_true_steps, rule_steps (n - 1) (by omega)]
  rw [compL_fmL stepV (fun t => if 0 < t.2.2 then some (.tup [.int (spot t), .int t.2.2]) else none) fun t ht => by
    have e := fun s => space_at_ok (n - 1) (by omega) t s
    by_cases h : 0 < t.2.2
    · simp [e]
      simp [stepV, h]
    · simp [e]
      simp [stepV, show t.2.2 = 0 by omega]]
  simp [show L.steps.length ≤ 16000000 by omega]
  unfold tsV trueS
  congr 2
  rw [List.map_map]
  clear sl ok
  generalize L.steps = xs
  induction xs with
  | nil => rfl
  | cons t r ih =>
    rw [List.filterMap_cons, List.filter_cons]
    by_cases h : 0 < t.2.2
    · simp [h, ih]
    · simp [h, ih]
end LW

set_option linter.all false
set_option maxRecDepth 100000
/-! Tables made. -/
namespace LW
open MP
theorem look_mem {xs : List Step} (up : xs.Pairwise fun a b => spot a < spot b) {t : Step} (h : t ∈ xs) : look xs (spot t) = some t.2.2 := by
  unfold look
  induction xs with
  | nil => cases h
  | cons a r ih =>
    rw [List.pairwise_cons] at up
    rw [List.find?_cons]
    rcases List.mem_cons.mp h with rfl | h
    · simp
    · have := up.1 t h
      have : (spot a == spot t) = false := by simp; omega
      rw [this]
      exact ih up.2 h
theorem trueS_spot {L : Lore} (ok : OkLore L) (h0 : wRec L.steps 1 = 0) : ∀ p ∈ trueS L, 2 ≤ p.1 ∧ p.1 ≤ 2 * L.box ∧ p.2 ≤ 999999999 := by
  intro p hp
  unfold trueS at hp
  obtain ⟨t, ht, rfl⟩ := List.mem_map.mp hp
  obtain ⟨ht, hw⟩ := List.mem_filter.mp ht
  have hw := of_decide_eq_true hw
  obtain ⟨s1, s2⟩ := spot_le ok ht
  refine ⟨?_, by show spot t ≤ _; omega, (ok.st t ht).w⟩
  show 2 ≤ spot t
  by_cases h : spot t = 1
  · exfalso
    have := look_mem ok.up ht
    rw [h] at this
    have e : wRec L.steps 1 = t.2.2 := by show (look L.steps (0 + 1)).getD _ = _; rw [this]; rfl
    omega
  · omega
theorem trueS_len {L : Lore} (ok : OkLore L) : (trueS L).length ≤ 120 := by
  have := steps_len ok
  unfold trueS
  rw [List.length_map]
  exact Nat.le_trans (List.length_filter_le ..) this
theorem least_table_ok (n : Nat) (hn : 3 ≤ n) (L : Lore) (ok : OkLore L) (h0 : wRec L.steps 1 = 0) (st : Sto) : sem prog n f_least_table [ruleV L] st = .ok (.tup ((tabL (trueS L) (2 * L.box)).map CV.int)) st := by
  rw [sem_call (d := d_least_table) (by omega) rfl rfl]
  have b2 := ok.b2
  have tl := trueS_len ok
  have hsp := trueS_spot ok h0
  have m : ∀ x : Int, mulOk 2 x = true := fun x => mulOk_l (by omega) (by omega)
  have e0 := fun s => true_steps_ok (n - 1) (by omega) L ok s
  generalize trueS L = ts at *
  simp [d_least_table, b_least_table, e0, rule_box (n - 1) (by omega), m, rngR_ok (rngOk_of (show (-1000000 : Int) ≤ 1 by omega) (show (2 * (L.box : Int) + 1) ≤ 1000000 by omega) (by omega) (by omega))]
  refine for_then (fun x => fin st x = _) (fun i env s => ∃ v3 v4, env = [some (ruleV L), some (CV.loc st.length), some (CV.lst (tsV ts)), v3, v4, none, none, none] ∧ s = st ++ [.lst ((tabL ts i).map CV.int)]) ⟨none, none, rfl, rfl⟩ ?_ ?_
  · rintro i x env s hx ⟨v3, v4, rfl, rfl⟩
    rw [range_at] at hx
    split at hx
    · rename_i hi
      cases hx
      have hat : (st ++ [CO.lst ((tabL ts i).map CV.int)])[st.length]? = some (.lst ((tabL ts i).map CV.int)) := by simp
      have ec : (1 + (i : Int)) = ((i + 1 : Nat) : Int) := by omega
      have ln := tabL_len ts i
      have last : ((tabL ts i).map CV.int).getLast? = some (.int ((tabL ts i).getLastD 0)) := by
        rw [List.getLast?_map]
        cases h : tabL ts i with
        | nil => rw [h] at ln; simp at ln
        | cons a r => simp [List.getLast?_cons]
      rw [ec]
      refine ⟨[some (ruleV L), some (CV.loc st.length), some (CV.lst (tsV ts)), some (.int ((i + 1 : Nat) : Int)), some (.lst (ts.map fun p => .tup [.int (restB (i + 1 : Nat) p.1), .int p.2])), none, none, none], st ++ [.lst ((tabL ts (i + 1)).map CV.int)], ?_, _, _, rfl, rfl⟩
      simp [tsV]
      rw [compL_mapL (fun p : Nat × Nat => CV.tup [.int p.1, .int p.2]) (fun p => .tup [.int (restB (i + 1 : Nat) p.1), .int p.2]) fun p hp => by
        have e := fun s => rest_beside_ok (n - 1) (by omega) ((i : Int) + 1) p.1 s
        simp [e]]
      simp [show ts.length ≤ 16000000 by omega, l_loc hat, i_loc hat, last]
      rw [compL_fmL (fun p : Nat × Nat => CV.tup [.int (restB ((i : Int) + 1) p.1), .int p.2]) (fun p => (cand (tabL ts i) (i + 1) p).map CV.int) fun p hp => by
        obtain ⟨z1, z2, z3⟩ := hsp p hp
        have lt := restB_lt (s := (i : Int) + 1) (o := p.1) (by omega)
        by_cases hr : 0 ≤ restB ((i : Int) + 1) p.1
        · have at_ : ((tabL ts i).map CV.int)[(restB ((i : Int) + 1) p.1).toNat]? = some (.int ((tabL ts i).getD (restB ((i : Int) + 1) p.1).toNat 0)) := by
            rw [List.getElem?_map, List.getD_eq_getElem?_getD, List.getElem?_eq_getElem (by omega)]
            rfl
          have cd : cand (tabL ts i) (i + 1) p = some ((tabL ts i).getD (restB ((i : Int) + 1) p.1).toNat 0 + p.2) := by
            unfold cand
            exact if_pos hr
          rw [cd]
          simp [hr, i_loc hat, atP _ _ hr, at_]
        · have cd : cand (tabL ts i) (i + 1) p = none := by
            unfold cand
            exact if_neg hr
          rw [cd]
          simp [hr]]
      have fl : (ts.filterMap fun p => (cand (tabL ts i) (i + 1) p).map CV.int) = (ts.filterMap (cand (tabL ts i) (i + 1))).map CV.int := by rw [List.map_filterMap]
      rw [fl]
      have fln : (ts.filterMap (cand (tabL ts i) (i + 1))).length ≤ 120 := Nat.le_trans (List.length_filterMap_le ..) tl
      have mx := max_ints (st ++ [CO.lst ((tabL ts i).map CV.int)]) ((tabL ts i).getLastD 0) (ts.filterMap (cand (tabL ts i) (i + 1)))
      simp [List.getLastD_eq_getLast?] at mx ⊢
      simp [show (ts.filterMap (cand (tabL ts i) (i + 1))).length + 1 ≤ 16000000 by omega, mx, append_loc hat (by simp; omega)]
      rw [tabL, List.map_append]
      simp [nxt, List.getLastD_eq_getLast?]
    · cases hx
  · rintro env s ⟨v3, v4, rfl, rfl⟩
    have e : (rangeL 1 (2 * (L.box : Int) + 1)).length = 2 * L.box := by rw [range_len]; omega
    rw [e]
    have hat : (st ++ [CO.lst ((tabL ts (2 * L.box)).map CV.int)])[st.length]? = some (.lst ((tabL ts (2 * L.box)).map CV.int)) := by simp
    simp [tuple_loc hat]
    exact fin_app (.tup fun x hx => by
      obtain ⟨t, _, rfl⟩ := List.mem_map.mp hx
      exact .int _)
end LW

set_option linter.all false
set_option maxRecDepth 100000
/-! Things counted. -/
namespace LW
open MP
def addC (l : Lot) (q : Q2) : Lot := if q ∈ l.map (·.1) then l.map (fun p => if p.1 = q then (p.1, p.2 + 1) else p) else l ++ [(q, 1)]
def cntQ (qs : List Q2) : Lot := qs.foldl addC []
theorem addC_fst (l : Lot) (q : Q2) : (addC l q).map (·.1) = if q ∈ l.map (·.1) then l.map (·.1) else l.map (·.1) ++ [q] := by
  unfold addC
  split
  · rw [List.map_map]
    refine List.map_congr_left fun p _ => ?_
    simp only [Function.comp]
    split <;> rfl
  · simp
theorem addC_nd {l : Lot} {q : Q2} (h : (l.map (·.1)).Nodup) : ((addC l q).map (·.1)).Nodup := by
  rw [addC_fst]
  split
  · exact h
  · rename_i hq
    rw [List.nodup_append]
    exact ⟨h, by simp, fun a ha b hb e => hq (by rw [List.mem_singleton.mp hb] at e; rw [← e]; exact ha)⟩
theorem sum_map_one {l : Lot} (f : Q2 → Int) {q : Q2} (nd : (l.map (·.1)).Nodup) (hq : q ∈ l.map (·.1)) : ((l.map (fun p => if p.1 = q then (p.1, p.2 + 1) else p)).map fun p => p.2 * f p.1).sum = (l.map fun p => p.2 * f p.1).sum + f q := by
  induction l with
  | nil => simp at hq
  | cons a r ih =>
    rw [List.map_cons, List.nodup_cons] at nd
    simp only [List.map_cons, List.sum_cons]
    by_cases h : a.1 = q
    · have : (r.map (fun p => if p.1 = q then (p.1, p.2 + 1) else p)) = r := by
        conv => rhs; rw [← List.map_id r]
        refine List.map_congr_left fun p hp => ?_
        rw [if_neg fun e => nd.1 (by rw [h, ← e]; exact List.mem_map_of_mem hp)]
        rfl
      rw [this, if_pos h]
      simp only
      rw [h, Int.add_mul]
      omega
    · rw [if_neg h, ih nd.2 (by
        rcases List.mem_cons.mp hq with e | e
        · exact absurd e.symm h
        · exact e)]
      omega
theorem addC_sum (f : Q2 → Int) {l : Lot} {q : Q2} (nd : (l.map (·.1)).Nodup) : ((addC l q).map fun p => p.2 * f p.1).sum = (l.map fun p => p.2 * f p.1).sum + f q := by
  unfold addC
  split
  · rename_i hq
    exact sum_map_one f nd hq
  · simp
structure Cnt (qs : List Q2) (l : Lot) : Prop where
  nd : (l.map (·.1)).Nodup
  mem : ∀ p ∈ l, p.1 ∈ qs
  one : ∀ p ∈ l, 1 ≤ p.2
  le : ∀ p ∈ l, p.2 ≤ qs.length
  len : l.length ≤ qs.length
  sum : ∀ f : Q2 → Int, (l.map fun p => p.2 * f p.1).sum = (qs.map f).sum
theorem Cnt.snoc {qs : List Q2} {l : Lot} (h : Cnt qs l) (q : Q2) : Cnt (qs ++ [q]) (addC l q) := by
  refine ⟨addC_nd h.nd, fun p hp => ?_, fun p hp => ?_, fun p hp => ?_, ?_, fun f => ?_⟩
  · have : p.1 ∈ (addC l q).map (·.1) := List.mem_map_of_mem hp
    rw [addC_fst] at this
    split at this
    · obtain ⟨r, hr, e⟩ := List.mem_map.mp this
      rw [← e]
      exact List.mem_append_left _ (h.mem r hr)
    · rw [List.mem_append] at this
      rcases this with this | this
      · obtain ⟨r, hr, e⟩ := List.mem_map.mp this
        rw [← e]
        exact List.mem_append_left _ (h.mem r hr)
      · exact List.mem_append_right _ this
  · unfold addC at hp
    split at hp
    · obtain ⟨r, hr, rfl⟩ := List.mem_map.mp hp
      have := h.one r hr
      split
      · show 1 ≤ r.2 + 1; omega
      · exact this
    · rw [List.mem_append] at hp
      rcases hp with hp | hp
      · exact h.one p hp
      · rw [List.mem_singleton.mp hp]; exact Int.le_refl _
  · rw [List.length_append]
    unfold addC at hp
    split at hp
    · obtain ⟨r, hr, rfl⟩ := List.mem_map.mp hp
      have := h.le r hr
      split
      · show r.2 + 1 ≤ _; simp; omega
      · simp; omega
    · rw [List.mem_append] at hp
      rcases hp with hp | hp
      · have := h.le p hp; simp; omega
      · rw [List.mem_singleton.mp hp]; simp; omega
  · rw [List.length_append]
    have := h.len
    unfold addC
    split
    · rw [List.length_map]; omega
    · rw [List.length_append]; simp; omega
  · rw [addC_sum f h.nd, h.sum f]
    simp
theorem cnt_nil : Cnt [] [] := ⟨by simp, fun p h => (by cases h), fun p h => (by cases h), fun p h => (by cases h), by simp, fun f => by simp⟩
theorem cntQ_ok (qs : List Q2) : Cnt qs (cntQ qs) := by
  suffices h : ∀ (r p : List Q2) (l : Lot), Cnt p l → Cnt (p ++ r) (r.foldl addC l) by simpa [cntQ] using h qs [] [] cnt_nil
  intro r
  induction r with
  | nil => intro p l h; simpa using h
  | cons q r ih =>
    intro p l h
    have := ih (p ++ [q]) (addC l q) (h.snoc q)
    rwa [List.append_assoc] at this
theorem Cnt.okLot {qs : List Q2} {l : Lot} {B : Int} (h : Cnt qs l) (hq : ∀ q ∈ qs, OkSize B q) (hb : ∀ q ∈ qs, Bit 64 q) (hl : qs.length ≤ 1000) : OkLot B l :=
  ⟨fun p hp => hq _ (h.mem p hp), h.one, h.nd, Nat.le_trans h.len hl, fun p hp => ⟨hb _ (h.mem p hp), by
    have := h.one p hp
    have := h.le p hp
    omega⟩⟩
/-! counted by a dict -/
def dicL (l : Lot) : List (CV × CV) := l.map fun p => (nm p.1, CV.int p.2)
theorem key_nm (q : Q2) : keyOf (nm q) = some (.t [q.1, q.2]) := rfl
theorem key_nm_eq {a b : Q2} : keyOf (nm a) = keyOf (nm b) ↔ a = b := by
  rw [key_nm, key_nm]
  constructor
  · intro h
    simp at h
    exact Prod.ext h.1 h.2
  · rintro rfl; rfl
@[simp] theorem okK_nm (q : Q2) : okKey true (nm q) = true := rfl
theorem dget_dicL (l : Lot) (q : Q2) : dget (dicL l) (.t [q.1, q.2]) = (l.find? fun p => p.1 == q).map fun p => .int p.2 := by
  unfold dicL
  induction l with
  | nil => rfl
  | cons a r ih =>
    show (if keyOf (nm a.1) = some (.t [q.1, q.2]) then some (CV.int a.2) else dget (r.map _) _) = _
    rw [List.find?_cons]
    by_cases h : a.1 = q
    · rw [if_pos (by rw [h]; rfl)]
      have : (a.1 == q) = true := by simpa using h
      rw [this]
      rfl
    · rw [if_neg fun e => h (key_nm_eq.mp (e.trans (key_nm q).symm))]
      have : (a.1 == q) = false := by simpa using h
      rw [this]
      exact ih
theorem dput_dicL {l : Lot} (nd : (l.map (·.1)).Nodup) (q : Q2) : dput (dicL l) (nm q) (.int (((l.find? fun p => p.1 == q).map (·.2)).getD 0 + 1)) = dicL (addC l q) := by
  unfold dput addC
  have hany : ((dicL l).any fun p => decide (keyOf p.1 = keyOf (nm q))) = true ↔ q ∈ l.map (·.1) := by
    unfold dicL
    rw [List.any_map, List.any_eq_true]
    constructor
    · rintro ⟨p, hp, h⟩
      have := key_nm_eq.mp (of_decide_eq_true h)
      exact List.mem_map.mpr ⟨p, hp, this⟩
    · intro h
      obtain ⟨p, hp, e⟩ := List.mem_map.mp h
      exact ⟨p, hp, decide_eq_true (by show keyOf (nm p.1) = _; rw [e])⟩
  by_cases h : q ∈ l.map (·.1)
  · rw [if_pos (hany.mpr h), if_pos h]
    unfold dicL
    rw [List.map_map, List.map_map]
    refine List.map_congr_left fun p hp => ?_
    simp only [Function.comp]
    by_cases e : p.1 = q
    · have f : l.find? (fun p => p.1 == q) = some p := by
        clear hany h
        induction l with
        | nil => cases hp
        | cons a r ih =>
          rw [List.map_cons, List.nodup_cons] at nd
          rw [List.find?_cons]
          rcases List.mem_cons.mp hp with rfl | hp
          · have : (p.1 == q) = true := by simpa using e
            rw [this]
          · have : (a.1 == q) = false := by
              simp
              intro e2
              exact nd.1 (by rw [e2, ← e]; exact List.mem_map_of_mem hp)
            rw [this]
            exact ih nd.2 hp
      rw [if_pos (key_nm_eq.mpr e), if_pos e, f]
      rfl
    · rw [if_neg fun z => e (key_nm_eq.mp z), if_neg e]
  · rw [if_neg fun z => h (hany.mp z), if_neg h]
    have f : l.find? (fun p => p.1 == q) = none := by
      rw [List.find?_eq_none]
      intro p hp e
      exact h (List.mem_map.mpr ⟨p, hp, by simpa using e⟩)
    rw [f]
    unfold dicL
    rw [List.map_append]
    rfl
theorem titems_dicL (l : Lot) : (dicL l).map (fun p => CV.tup [p.1, p.2]) = l.map partV := by
  unfold dicL
  rw [List.map_map]
  rfl
/-- a turn that counts: d[q] = d.get(q, 0) + 1 -/
theorem count_put {st : Sto} {p : Nat} {l : Lot} (h : st[p]? = some (.dic true (dicL l))) (nd : (l.map (·.1)).Nodup) (hl : l.length ≤ 16000000) (q : Q2) :
    ∃ i : Int, mGet st (.loc p) (nm q) (.int 0) = some (.int i, st) ∧ setItem st (.loc p) (nm q) (.int (i + 1)) = some (st.set p (.dic true (dicL (addC l q)))) := by
  refine ⟨((l.find? fun p => p.1 == q).map (·.2)).getD 0, ?_, ?_⟩
  · rw [get_loc h (key_nm q) (okK_nm q), dget_dicL]
    cases l.find? fun p => p.1 == q <;> rfl
  · unfold setItem
    rw [a_locd h]
    dsimp only
    rw [da_loc h]
    dsimp only
    rw [dput_dicL nd]
    have : (dicL l).length = l.length := by unfold dicL; simp
    rw [if_pos (by rw [okK_nm, this, lenOk_le hl]; rfl)]
end LW

set_option linter.all false
set_option maxRecDepth 100000
/-! Lots of steps. -/
namespace LW
open MP
def beyonds (xs : List Step) : Nat := (xs.filter fun t => t.1).length
/-- the least size of a step, beyond ones by a small part -/
def leastQ (k : Nat) (t : Step) : Q2 := if t.1 then red (t.2.1 * k + 1) k else (t.2.1, 1)
def lotB (xs : List Step) : Lot := cntQ (xs.map (leastQ (beyonds xs + 1)))
theorem lot_by_ok (n : Nat) (hn : 3 ≤ n) (xs : List Step) (hl : xs.length ≤ 1000) (hp : ∀ t ∈ xs, t.2.1 ≤ 1000) (st : Sto) : sem prog n f_lot_by [.lst (xs.map stepV)] st = .ok (lotV (lotB xs)) st := by
  rw [sem_call (d := d_lot_by) (by omega) rfl rfl]
  have hk : beyonds xs ≤ 1000 := Nat.le_trans (List.length_filter_le ..) hl
  simp [d_lot_by, b_lot_by]
  rw [compL_fmL stepV (fun t => if t.1 then some (stepV t) else none) fun t ht => by
    obtain ⟨b, p, w⟩ := t
    cases b <;> simp [stepV, word, wBeyond, wFrom]]
  have fm : (xs.filterMap fun t => if t.1 then some (stepV t) else none).length = beyonds xs := by
    unfold beyonds
    clear hl hp hk
    induction xs with
    | nil => rfl
    | cons t r ih =>
      rw [List.filterMap_cons, List.filter_cons]
      cases t.1 <;> simp [ih]
  simp [show xs.length ≤ 16000000 by omega, fm]
  generalize hkk : beyonds xs = k at *
  refine for_then (fun x => fin st x = _) (fun i env s => ∃ v4 v5 v6 v7, env = [some (CV.lst (xs.map stepV)), some (.int (k + 1)), none, some (CV.loc st.length), v4, v5, v6, v7] ∧ s = st ++ [.dic true (dicL (cntQ ((xs.take i).map (leastQ (k + 1)))))]) ⟨none, none, none, none, rfl, rfl⟩ ?_ ?_
  · rintro i x env s hx ⟨v4, v5, v6, v7, rfl, rfl⟩
    rw [List.getElem?_map] at hx
    obtain ⟨t, ht, rfl⟩ := Option.map_eq_some_iff.mp hx
    have hm := List.mem_of_getElem? ht
    have hp := hp t hm
    have c := cntQ_ok ((xs.take i).map (leastQ (k + 1)))
    have hat : (st ++ [CO.dic true (dicL (cntQ ((xs.take i).map (leastQ (k + 1)))))])[st.length]? = some (.dic true (dicL (cntQ ((xs.take i).map (leastQ (k + 1)))))) := by simp
    have len : (cntQ ((xs.take i).map (leastQ (k + 1)))).length ≤ 16000000 := by
      have := c.len
      rw [List.length_map, List.length_take] at this
      omega
    obtain ⟨j, g1, g2⟩ := count_put hat c.nd len (leastQ (k + 1) t)
    have tk : cntQ ((xs.take (i + 1)).map (leastQ (k + 1))) = addC (cntQ ((xs.take i).map (leastQ (k + 1)))) (leastQ (k + 1) t) := by
      rw [List.take_succ, ht, List.map_append]
      unfold cntQ
      rw [List.foldl_append]
      rfl
    refine ⟨[some (CV.lst (xs.map stepV)), some (.int (k + 1)), none, some (CV.loc st.length), some (.str (word t.1)), some (.int t.2.1), some (.int t.2.2), some (nm (leastQ (k + 1) t))], st ++ [.dic true (dicL (cntQ ((xs.take (i + 1)).map (leastQ (k + 1)))))], ?_, _, _, _, _, rfl, rfl⟩
    have m : mulOk (t.2.1 : Int) ((k : Int) + 1) = true := mulOk_l (by omega) (by omega)
    have nu : ∀ s, sem prog (n - 1) f_number [.int (t.2.1 * (k + 1) + 1), .int (k + 1)] s = .ok (nm (red (t.2.1 * (k + 1) + 1) (k + 1))) s := fun s => number_ok (n - 1) (by omega) _ _ s (by
      have := Int.mul_nonneg (show (0 : Int) ≤ t.2.1 by omega) (show (0 : Int) ≤ k + 1 by omega)
      omega) (by omega) (Nat.lt_of_lt_of_le (show ((k : Int) + 1).natAbs < 2 ^ 10 by omega) (Nat.pow_le_pow_right (by decide) (by decide)))
    have dl : (dicOf (st ++ [CO.dic true (dicL (cntQ ((xs.take i).map (leastQ (k + 1)))))]) (.loc st.length)).isSome = true := by rw [di_loc hat]; rfl
    rw [tk]
    clear tk dl
    clear hx
    generalize cntQ ((xs.take i).map (leastQ (k + 1))) = C at *
    obtain ⟨b, p, w⟩ := t
    cases b with
    | true =>
      simp [leastQ] at g1 g2
      simp [stepV, word, wBeyond, m, nu, leastQ, di_loc hat, g1, g2]
    | false =>
      simp [leastQ] at g1 g2
      simp [stepV, word, wBeyond, wFrom, leastQ, di_loc hat]
      simp [nm] at g1 g2
      simp [g1, g2, nm]
  · rintro env s ⟨v4, v5, v6, v7, rfl, rfl⟩
    have hat : (st ++ [CO.dic true (dicL (cntQ (xs.map (leastQ (k + 1)))))])[st.length]? = some (.dic true (dicL (cntQ (xs.map (leastQ (k + 1)))))) := by simp
    simp [di_loc hat, titems_dicL]
    rw [fin_app]
    · unfold lotB lotV
      rw [hkk]
    · exact NoLoc_lot _
/-! the way back through a table -/
def cmb (xs : List Step) (r : Nat) : Nat := 2 * (xs.map fun t => t.2.1).sum + 2 * (r / 2) + if r % 2 = 1 ∨ beyonds xs ≠ 0 then 1 else 0
def come (i j : Nat) : Nat := i + j - if i % 2 = 1 ∧ j % 2 = 1 then 1 else 0
theorem beyonds_snoc (xs : List Step) (t : Step) : beyonds (xs ++ [t]) = beyonds xs + if t.1 then 1 else 0 := by
  unfold beyonds
  rw [List.filter_append, List.length_append]
  cases h : t.1 <;> simp [h]
theorem cmb_snoc (xs : List Step) (t : Step) (r : Nat) : cmb (xs ++ [t]) r = cmb xs (come r (spot t)) := by
  unfold cmb
  rw [beyonds_snoc, List.map_append, List.sum_append]
  obtain ⟨b, p, w⟩ := t
  cases b with
  | false =>
    have e : come r (spot (false, p, w)) = r + 2 * p := by
      unfold come spot
      simp
    rw [e]
    simp
    have : (r + 2 * p) % 2 = r % 2 := by omega
    have : (r + 2 * p) / 2 = r / 2 + p := by omega
    simp [*]
    omega
  | true =>
    have e : come r (spot (true, p, w)) = 2 * (r / 2) + 2 * p + 1 := by
      unfold come spot
      simp
      split <;> omega
    rw [e]
    simp
    have : (2 * (r / 2) + 2 * p + 1) % 2 = 1 := by omega
    have : (2 * (r / 2) + 2 * p + 1) / 2 = r / 2 + p := by omega
    simp [*]
    omega
theorem come_rest {s o r : Nat} (h : (r : Int) ≤ restB s o) : come r o ≤ s := by
  unfold restB at h
  unfold come
  split at h <;> split <;> omega
end LW

set_option linter.all false
set_option maxRecDepth 100000
/-! Rules judged. -/
namespace LW
open MP
theorem frozenL_vals {n : Nat} : ∀ {xs : List CV} {st : Sto}, (∀ x ∈ xs, NoLoc x) → frozen.frozenL (frozen (n + 1)) xs st = some (xs, st)
  | [], _, _ => rfl
  | x :: r, st, h => by
    have hx : frozen (n + 1) x st = some (x, st) := by
      have := h x (List.mem_cons_self ..)
      cases this <;> rfl
    show ((frozen (n + 1) x st).bind fun (y, s) => (frozen.frozenL (frozen (n + 1)) r s).map fun (ys, s2) => (y :: ys, s2)) = _
    rw [hx]
    show (frozen.frozenL (frozen (n + 1)) r st).map _ = _
    rw [frozenL_vals fun y hy => h y (List.mem_cons_of_mem _ hy)]
    rfl
theorem frozen_loc {l : Nat} {xs : List CV} {st : Sto} (h : st[l]? = some (.lst xs)) (hx : ∀ x ∈ xs, NoLoc x) : frozen 9 (.loc l) st = some (.lst xs, st.set l .gone) := by
  show frozen (8 + 1) (.loc l) st = _
  unfold frozen
  dsimp only
  rw [h]
  dsimp only
  rw [frozenL_vals (n := 7) hx]
  rfl
theorem frozen_dic {l : Nat} {t : Bool} {kvs : List (CV × CV)} {st : Sto} (h : st[l]? = some (.dic t kvs)) (hx : ∀ p ∈ kvs, NoLoc p.2) : frozen 9 (.loc l) st = some (.dic t kvs, st.set l .gone) := by
  show frozen (8 + 1) (.loc l) st = _
  unfold frozen
  dsimp only
  rw [h]
  dsimp only
  rw [frozenL_vals (n := 7) fun x hx2 => by
    obtain ⟨p, hp, rfl⟩ := List.mem_map.mp hx2
    exact hx p hp]
  simp only [Option.map_some]
  congr 3
  have : ∀ ks : List (CV × CV), (ks.map (·.1)).zip (ks.map (·.2)) = ks := fun ks => by
    induction ks with
    | nil => rfl
    | cons a r ih => simp [ih]
  exact this kvs
/-- what the way back has gathered -/
structure Back (L : Lore) (T : Nat → Int) (top : Nat) (s : Nat) (xs : List Step) : Prop where
  le : s ≤ top
  mem : ∀ t ∈ xs, t ∈ L.steps
  sum : T s + (xs.map fun t => (t.2.2 : Int)).sum = T top
  fit : ∀ r, r ≤ s → cmb xs r ≤ top
  len : xs.length + s ≤ top
theorem Back.start (L : Lore) (T : Nat → Int) (top : Nat) : Back L T top top [] :=
  ⟨Nat.le_refl _, fun t h => (by cases h), by simp, fun r hr => by
    have : beyonds [] = 0 := rfl
    unfold cmb
    rw [this]
    simp
    split <;> omega, by simp⟩
theorem Back.less {L : Lore} {T : Nat → Int} {top s : Nat} {xs : List Step} (h : Back L T top (s + 1) xs) (e : T (s + 1) = T s) : Back L T top s xs :=
  ⟨by have := h.le; omega, h.mem, by rw [← e]; exact h.sum, fun r hr => h.fit r (by omega), by have := h.len; omega⟩
theorem Back.step {L : Lore} {T : Nat → Int} {top s : Nat} {xs : List Step} {t : Step} (h : Back L T top s xs) (ht : t ∈ L.steps) (h2 : 2 ≤ spot t) (hr : 0 ≤ restB s (spot t)) (e : T (restB s (spot t)).toNat + t.2.2 = T s) : Back L T top (restB s (spot t)).toNat (xs ++ [t]) := by
  have lt := restB_lt (s := s) (o := spot t) (by omega)
  refine ⟨by have := h.le; omega, fun u hu => ?_, ?_, fun r hr2 => ?_, ?_⟩
  · rw [List.mem_append] at hu
    rcases hu with hu | hu
    · exact h.mem u hu
    · rw [List.mem_singleton.mp hu]; exact ht
  · have := h.sum
    rw [List.map_append, List.sum_append]
    simp
    omega
  · rw [cmb_snoc]
    exact h.fit _ (come_rest (by omega))
  · have := h.len
    rw [List.length_append]
    simp
    omega
theorem steps_within_ok (n : Nat) (hn : 2 ≤ n) (L : Lore) (ok : OkLore L) (h0 : wRec L.steps 1 = 0) (st : Sto) : ∃ xs : List Step, sem prog n f_steps_within [ruleV L, .tup ((tabL (trueS L) (2 * L.box)).map CV.int), .int (2 * L.box : Nat)] st = .ok (.lst (xs.map stepV)) st ∧
    ∃ s, Back L (tab (trueS L)) (2 * L.box) s xs ∧ tab (trueS L) s = 0 := by
  have b2 := ok.b2
  have sl := steps_len ok
  have hsp := trueS_spot ok h0
  have hat0 : ∀ s, s ≤ 2 * L.box → ((tabL (trueS L) (2 * L.box)).map CV.int)[s]? = some (.int (tab (trueS L) s)) := fun s hs => by
    rw [tabL_eq, List.map_map, List.getElem?_map, List.getElem?_range (by omega)]
    rfl
  rw [sem_call (d := d_steps_within) (by omega) rfl rfl]
  generalize hTV : (tabL (trueS L) (2 * L.box)).map CV.int = TV at *
  simp [d_steps_within, b_steps_within]
  obtain ⟨I, hI⟩ : ∃ I : Nat → Env → Sto → Prop, I = fun (m : Nat) env s => ∃ (xs : List Step) (junk : Sto) (v4 v5 v6 : Option CV), env = [some (ruleV L), some (.tup TV), some (.int (m : Int)), some (.loc st.length), v4, v5, v6] ∧ s = st ++ (.lst (xs.map stepV) :: junk) ∧ Back L (tab (trueS L)) (2 * L.box) m xs := ⟨_, rfl⟩
  refine while_N (fun x => ∃ xs : List Step, fin st x = .ok (.lst (xs.map stepV)) st ∧ ∃ s, Back L (tab (trueS L)) (2 * L.box) s xs ∧ tab (trueS L) s = 0) I
    (fun env s => ∃ (sp : Nat) (xs : List Step) (junk : Sto) (v4 v5 v6 : Option CV), env = [some (ruleV L), some (.tup TV), some (.int sp), some (.loc st.length), v4, v5, v6] ∧ s = st ++ (.lst (xs.map stepV) :: junk) ∧ Back L (tab (trueS L)) (2 * L.box) sp xs ∧ tab (trueS L) sp = 0)
    (2 * L.box) (by rw [hI]; exact ⟨[], [], none, none, none, by simp, rfl, .start ..⟩) ?_ ?_
  · intro m env s h
    rw [hI] at h
    obtain ⟨xs, junk, v4, v5, v6, rfl, rfl, bk⟩ := h
    have a1 := hat0 m bk.le
    by_cases hz : 0 < tab (trueS L) m
    · right
      cases m with
      | zero => rw [tab_zero] at hz; omega
      | succ k =>
        have a2 := hat0 k (by have := bk.le; omega)
        have ix : ((k + 1 : Nat) : Int) - 1 = (k : Int) := by omega
        by_cases he : tab (trueS L) (k + 1) = tab (trueS L) k
        · refine ⟨st ++ (.lst (xs.map stepV) :: junk), ?_, ?_⟩
          · have := atN TV (k + 1)
            simp at this
            simp [this, a1, hz]
          · have h1 := atN TV (k + 1)
            have h2 := atN TV k
            simp at h1
            simp [h1, h2, a1, a2, he]
            exact ⟨k, by omega, by rw [hI]; exact ⟨xs, junk, v4, v5, v6, rfl, rfl, bk.less he⟩⟩
        · obtain ⟨p, hp, hr, hw⟩ := (tab_why (trueS L) (fun p hp => (hsp p hp).1) k).resolve_left he
          -- the step found first
          let g : Step → Option CV := fun t => if 0 < t.2.2 ∧ 0 ≤ restB (k + 1 : Nat) (spot t) ∧ tab (trueS L) (restB (k + 1 : Nat) (spot t)).toNat + t.2.2 = tab (trueS L) (k + 1) then some (.tup [stepV t, .int (restB (k + 1 : Nat) (spot t))]) else none
          have hspot : ∀ t ∈ L.steps, 0 < t.2.2 → 2 ≤ spot t := fun t ht hw => (hsp (spot t, t.2.2) (List.mem_map.mpr ⟨t, List.mem_filter.mpr ⟨ht, decide_eq_true hw⟩, rfl⟩)).1
          have gi : ∀ t ∈ L.steps, 0 < t.2.2 → 0 ≤ restB (k + 1 : Nat) (spot t) → ∀ s, item s (.tup TV) (.int (restB (k + 1 : Nat) (spot t))) = some (.int (tab (trueS L) (restB (k + 1 : Nat) (spot t)).toNat)) := fun t ht hw hr s => by
            have lt := restB_lt (s := ((k + 1 : Nat) : Int)) (o := spot t) (by have := hspot t ht hw; omega)
            rw [i_tup, atP _ _ hr, hat0 _ (by have := bk.le; omega)]
          obtain ⟨t0, ht0, hg0⟩ : ∃ t ∈ L.steps, (g t).isSome = true := by
            unfold trueS at hp
            obtain ⟨t, ht, rfl⟩ := List.mem_map.mp hp
            obtain ⟨ht, hw2⟩ := List.mem_filter.mp ht
            refine ⟨t, ht, ?_⟩
            show (if _ then _ else _ : Option CV).isSome = true
            rw [if_pos ⟨of_decide_eq_true hw2, hr, hw.symm⟩]
            rfl
          obtain ⟨y, r, hf⟩ : ∃ y r, L.steps.filterMap g = y :: r := by
            cases hc : L.steps.filterMap g with
            | nil =>
              obtain ⟨y, hy⟩ := Option.isSome_iff_exists.mp hg0
              have : y ∈ L.steps.filterMap g := List.mem_filterMap.mpr ⟨t0, ht0, hy⟩
              rw [hc] at this
              cases this
            | cons y r => exact ⟨y, r, rfl⟩
          obtain ⟨t, ht, hgt⟩ := List.mem_filterMap.mp (show y ∈ L.steps.filterMap g by rw [hf]; exact List.mem_cons_self ..)
          have hgt : (if 0 < t.2.2 ∧ 0 ≤ restB (k + 1 : Nat) (spot t) ∧ tab (trueS L) (restB (k + 1 : Nat) (spot t)).toNat + t.2.2 = tab (trueS L) (k + 1) then some (.tup [stepV t, .int (restB (k + 1 : Nat) (spot t))]) else none) = some y := hgt
          split at hgt
          · rename_i cond
            obtain ⟨q1, q2, q3⟩ := cond
            cases hgt
            have lt := restB_lt (s := ((k + 1 : Nat) : Int)) (o := spot t) (by have := hspot t ht q1; omega)
            have en : ((restB (k + 1 : Nat) (spot t)).toNat : Int) = restB (k + 1 : Nat) (spot t) := Int.toNat_of_nonneg q2
            refine ⟨st ++ (.lst (xs.map stepV) :: junk), ?_, ?_⟩
            · have := atN TV (k + 1)
              simp at this
              simp [this, a1, hz]
            · have h1 := atN TV (k + 1)
              have h2 := atN TV k
              simp at h1
              obtain ⟨B, hB⟩ : ∃ B, B = st ++ (CO.lst (xs.map stepV) :: junk) := ⟨_, rfl⟩
              have hBat : B[st.length]? = some (.lst (xs.map stepV)) := by rw [hB]; simp
              have hset : ∀ o, B.set st.length o = st ++ (o :: junk) := fun o => by rw [hB]; simp
              rw [← hB]
              simp [h1, h2, a1, a2, he, rule_steps (n - 1) (by omega)]
              refine for_N (fun x => Nx x _) (fun i env s => ∃ v5 v6, env = [some (ruleV L), some (.tup TV), some (.int (k + 1)), some (.loc st.length), some (.loc B.length), v5, v6] ∧ s = B ++ [.lst ((L.steps.take i).filterMap g)]) ⟨v5, v6, rfl, rfl⟩ ?_ ?_
              · rintro i x env s hx ⟨v5, v6, rfl, rfl⟩
                rw [List.getElem?_map] at hx
                obtain ⟨u, hu, rfl⟩ := Option.map_eq_some_iff.mp hx
                have hm := List.mem_of_getElem? hu
                have hi := (List.getElem?_eq_some_iff.mp hu).1
                have tk : (L.steps.take (i + 1)).filterMap g = (L.steps.take i).filterMap g ++ (g u).toList := by
                  rw [List.take_succ, hu, List.filterMap_append]
                  cases hg : g u <;> simp [hg]
                have wl : ((L.steps.take i).filterMap g).length ≤ 120 := by
                  have := List.length_filterMap_le g (L.steps.take i)
                  rw [List.length_take] at this
                  omega
                rw [tk]
                have gu : g u = if 0 < u.2.2 ∧ 0 ≤ restB (k + 1 : Nat) (spot u) ∧ tab (trueS L) (restB (k + 1 : Nat) (spot u)).toNat + u.2.2 = tab (trueS L) (k + 1) then some (.tup [stepV u, .int (restB (k + 1 : Nat) (spot u))]) else none := rfl
                generalize (L.steps.take i).filterMap g = W at *
                have hat : (B ++ [CO.lst W])[B.length]? = some (.lst W) := by simp
                have e1 := fun s => space_at_ok (n - 1) (by omega) u s
                have e2 := fun s => rest_beside_ok (n - 1) (by omega) ((k : Int) + 1) (spot u) s
                have e3 := gi u hm
                have ek : ((k + 1 : Nat) : Int) = (k : Int) + 1 := by omega
                rw [ek] at e3 gu
                have last : ∀ s, item s (stepV u) (.int (-1)) = some (.int u.2.2) := fun s => rfl
                by_cases c1 : 0 < u.2.2
                · by_cases c2 : 0 ≤ restB ((k : Int) + 1) (spot u)
                  · have e4 := e3 c1 c2
                    by_cases c3 : tab (trueS L) (restB ((k : Int) + 1) (spot u)).toNat + u.2.2 = tab (trueS L) (k + 1)
                    · rw [gu, if_pos ⟨c1, c2, c3⟩]
                      simp [e1, e2, last, c1, c2, e4, h1, a1, c3, l_loc hat, append_loc hat (show W.length ≤ 16000000 by omega)]
                    · rw [gu, if_neg fun z => c3 z.2.2]
                      simp [e1, e2, last, c1, c2, e4, h1, a1, c3]
                  · rw [gu, if_neg fun z => c2 z.2.1]
                    simp [e1, e2, last, c1, c2]
                · rw [gu, if_neg fun z => c1 z.1]
                  simp [e1, e2, last, c1]
              · rintro env s ⟨v5, v6, rfl, rfl⟩
                have hl : (L.steps.map stepV).length = L.steps.length := by simp
                rw [hl, List.take_length, hf]
                have bk2 := bk.step ht (hspot t ht q1) q2 q3
                clear hgt hf hg0 gi
                generalize restB ((k + 1 : Nat) : Int) (spot t) = ρ at *
                have hat : (B ++ [CO.lst (CV.tup [stepV t, CV.int ρ] :: r)])[B.length]? = some (.lst (CV.tup [stepV t, CV.int ρ] :: r)) := by simp
                have lo := st_low (xs := [CO.lst (CV.tup [stepV t, CV.int ρ] :: r)]) hBat
                have xl : xs.length ≤ 16000000 := by have := bk.len; omega
                have hat2 : ∀ o, (B.set st.length o ++ [CO.lst (CV.tup [stepV t, CV.int ρ] :: r)])[B.length]? = some (.lst (CV.tup [stepV t, CV.int ρ] :: r)) := fun o => by
                  have := st_at0 (B.set st.length o) [CO.lst (CV.tup [stepV t, CV.int ρ] :: r)]
                  rw [List.length_set] at this
                  exact this
                simp [l_loc lo, i_loc hat, append_loc lo (by simpa using xl), st_lowput hBat, i_loc (hat2 _)]
                refine ⟨ρ.toNat, by omega, ?_⟩
                rw [hI]
                refine ⟨xs ++ [t], junk ++ [CO.lst (CV.tup [stepV t, CV.int ρ] :: r)], some (.loc B.length), v5, v6, ?_, ?_, bk2⟩
                · rw [en]
                · rw [hset]; simp
          · cases hgt
    · left
      have nn := tab_nn (trueS L) m
      refine ⟨_, ?_, m, xs, junk, v4, v5, v6, rfl, rfl, bk, by omega⟩
      have := atN TV m
      simp [this, a1, hz]
  · rintro env s ⟨sp, xs, junk, v4, v5, v6, rfl, rfl, bk, hz⟩
    refine ⟨xs, ?_, sp, bk, hz⟩
    have hat : (st ++ (CO.lst (xs.map stepV) :: junk))[st.length]? = some (.lst (xs.map stepV)) := by simp
    simp [frozen_loc hat fun x hx => by
      obtain ⟨t, _, rfl⟩ := List.mem_map.mp hx
      exact NoLoc_step t]
    exact fin_app (NoLoc_stepsL xs)
def endlessL (L : Lore) : Lot := [(red L.box (max (L.box : Int) (L.bound / wRec L.steps 1) + 1), max (L.box : Int) (L.bound / wRec L.steps 1) + 1)]
theorem endless_lot_ok (n : Nat) (hn : 3 ≤ n) (L : Lore) (ok : OkLore L) (h0 : 0 < wRec L.steps 1) (st : Sto) : sem prog n f_endless_lot [ruleV L] st = .ok (lotV (endlessL L)) st := by
  rw [sem_call (d := d_endless_lot) (by omega) rfl rfl]
  have b1 := ok.b1
  have b2 := ok.b2
  have c2 := ok.c2
  have wl : wRec L.steps 1 ≤ 999999999 := by
    rcases wRec_of L.steps 1 with h | ⟨t, ht, _, h⟩
    · omega
    · rw [h]; exact (ok.st t ht).w
  have dv : (L.bound : Int) / wRec L.steps 1 ≤ 999999999 := Int.le_trans (Int.ediv_le_self _ (by omega)) (by omega)
  have e1 := fun s => endless_worth_ok (n - 1) (by omega) L ok s
  have d : divOk (wRec L.steps 1 : Int) = true := divOk_small (by omega) (by omega)
  have mx : (if (L.bound : Int) / wRec L.steps 1 > L.box then (L.bound : Int) / wRec L.steps 1 else L.box) = max (L.box : Int) (L.bound / wRec L.steps 1) := by
    split <;> omega
  have nu := fun s => number_ok (n - 1) (by omega) L.box (max (L.box : Int) (L.bound / wRec L.steps 1) + 1) s (by omega) (by omega) (Nat.lt_of_lt_of_le (show _ < 2 ^ 64 by omega) (Nat.pow_le_pow_right (by decide) (by decide)))
  simp [d_endless_lot, b_endless_lot, rule_box (n - 1) (by omega), rule_bound (n - 1) (by omega), e1, d]
  simp at mx
  simp [mx, nu, lotV, endlessL, partV]
def wSound : List Nat := [115, 111, 117, 110, 100]
def wBroken : List Nat := [98, 114, 111, 107, 101, 110]
/-- what judged tells -/
inductive Judged (L : Lore) : CV → Prop
  | sound (h0 : wRec L.steps 1 = 0) (h : tab (trueS L) (2 * L.box) ≤ L.bound) : Judged L (.tup [.str wSound, .tup ((tabL (trueS L) (2 * L.box)).map CV.int)])
  | endless (h0 : 0 < wRec L.steps 1) : Judged L (.tup [.str wBroken, lotV (endlessL L)])
  | broken (h0 : wRec L.steps 1 = 0) (h : L.bound < tab (trueS L) (2 * L.box)) (xs : List Step) (s : Nat) (bk : Back L (tab (trueS L)) (2 * L.box) s xs) (hz : tab (trueS L) s = 0) : Judged L (.tup [.str wBroken, lotV (lotB xs)])
theorem judged_ok (n : Nat) (hn : 4 ≤ n) (L : Lore) (ok : OkLore L) (st : Sto) : ∃ v, sem prog n f_judged [ruleV L] st = .ok v st ∧ Judged L v := by
  rw [sem_call (d := d_judged) (by omega) rfl rfl]
  have e1 := fun s => endless_worth_ok (n - 1) (by omega) L ok s
  by_cases h0 : 0 < wRec L.steps 1
  · have e2 := fun s => endless_lot_ok (n - 1) (by omega) L ok h0 s
    refine ⟨_, ?_, .endless h0⟩
    simp [d_judged, b_judged, e1, e2, h0, wBroken]
  · have h0 : wRec L.steps 1 = 0 := by omega
    have e2 := fun s => least_table_ok (n - 1) (by omega) L ok h0 s
    obtain ⟨xs, e3, s, bk, hz⟩ := steps_within_ok (n - 1) (by omega) L ok h0 st
    have last : ((tabL (trueS L) (2 * L.box)).map CV.int).getLast? = some (.int (tab (trueS L) (2 * L.box))) := by
      rw [tabL_eq, List.map_map, List.range_succ, List.map_append]
      simp
    have len : ((tabL (trueS L) (2 * L.box)).map CV.int).length = 2 * L.box + 1 := by rw [List.length_map, tabL_len]
    by_cases h : tab (trueS L) (2 * L.box) ≤ L.bound
    · refine ⟨_, ?_, .sound h0 h⟩
      generalize (tabL (trueS L) (2 * L.box)).map CV.int = TV at *
      simp [d_judged, b_judged, e1, h0, e2, last, rule_bound (n - 1) (by omega), h, wSound]
    · refine ⟨_, ?_, .broken h0 (by omega) xs s bk hz⟩
      have bl := bk.len
      have b2 := ok.b2
      have e4 := lot_by_ok (n - 1) (by omega) xs (by omega) (fun t ht => by
        have := (ok.st t (bk.mem t ht)).hi
        have : low t ≤ 1 := by unfold low; split <;> omega
        omega) st
      generalize (tabL (trueS L) (2 * L.box)).map CV.int = TV at *
      simp at e3
      simp [d_judged, b_judged, e1, h0, e2, last, rule_bound (n - 1) (by omega), h, wBroken, len, e3, e4]
end LW

set_option linter.all false
set_option maxRecDepth 100000
/-! Draws. -/
namespace LW
open MP
structure Pot where
  own : Int
  mix : Int
  cnt : Int
def potO (w : Pot) : CO := .lst [.int w.own, .int w.mix, .int w.cnt]
structure OkPot (b : Nat) (w : Pot) : Prop where
  own : 0 ≤ w.own
  mix : 0 ≤ w.mix ∧ w.mix < 2305843009213693921
  cnt : 0 ≤ w.cnt ∧ w.cnt ≤ b
theorem OkPot.mono {a b : Nat} {w : Pot} (h : OkPot a w) (l : a ≤ b) : OkPot b w := ⟨h.own, h.mix, by have := h.cnt; omega⟩
theorem NoLoc_pot (w : Pot) : NoLocO (potO w) := fun x hx => by
  simp only [List.mem_cons, List.not_mem_nil, or_false] at hx
  rcases hx with rfl | rfl | rfl <;> exact .int _
theorem prime_at (k : Int) (h0 : 0 ≤ k) (h1 : k < 5) : ∃ q : Int, atI [CV.int 2147483647, .int 2147483629, .int 2147483587, .int 2147483579, .int 2147483563] k = some (.int q) ∧ 0 < q ∧ q < 2147483648 := by
  have : k = 0 ∨ k = 1 ∨ k = 2 ∨ k = 3 ∨ k = 4 := by omega
  rcases this with rfl | rfl | rfl | rfl | rfl
  · exact ⟨_, rfl, by decide, by decide⟩
  · exact ⟨_, rfl, by decide, by decide⟩
  · exact ⟨_, rfl, by decide, by decide⟩
  · exact ⟨_, rfl, by decide, by decide⟩
  · exact ⟨_, rfl, by decide, by decide⟩
/-- what a draw leaves -/
def Drawn {α : Type} (st : Sto) (p b : Nat) (x : R α) (Z : α → Prop) : Prop := ∃ v w, x = .ok v (st.set p (potO w)) ∧ OkPot b w ∧ Z v
theorem put_loc {st : Sto} {l : Nat} {xs : List CV} {k : Int} {j : Nat} {v : CV} (h : st[l]? = some (.lst xs)) (hk : ixOf xs.length k = some j) : setItem st (.loc l) (.int k) v = some (st.set l (.lst (xs.set j v))) := by
  unfold setItem
  rw [a_loc h]
  dsimp only
  rw [hk]
  rfl
theorem take_ok (n : Nat) (hn : 1 ≤ n) (st : Sto) (p b : Nat) (w : Pot) (hp : st[p]? = some (potO w)) (ok : OkPot b w) (hb : b < 2 ^ 50) (u : Int) (u0 : 0 < u) (u1 : u < 18446744073709551616) :
    Drawn st p (b + 1) (sem prog n f__law_take [.loc p, .int u] st) fun v => ∃ d, v = .int d ∧ 0 ≤ d ∧ d < u := by
  obtain ⟨own, mix, cnt⟩ := w
  obtain ⟨o1, ⟨m1, m2⟩, c1, c2⟩ := ok
  simp only at o1 m1 m2 c1 c2
  have hp : st[p]? = some (.lst [.int own, .int mix, .int cnt]) := hp
  have hlt := (List.getElem?_eq_some_iff.mp hp).1
  have du := divOk_small u0 u1
  by_cases h : 0 < own
  · refine ⟨.int (own % u), ⟨own / u, mix, cnt⟩, ?_, ⟨Int.ediv_nonneg o1 (by omega), ⟨m1, m2⟩, c1, by simp; omega⟩, own % u, rfl, Int.emod_nonneg _ (by omega), Int.emod_lt_of_pos _ u0⟩
    rw [sem_call (d := d__law_take) (by omega) rfl rfl]
    have pu : ∀ v, setItem st (.loc p) (.int 0) v = some (st.set p (.lst [v, .int mix, .int cnt])) := fun v => put_loc (j := 0) hp rfl
    simp [d__law_take, b__law_take, i_loc hp, h, u0, du, pu]
    exact fin_len (by simp)
  · have hs : ∀ o, (st.set p o)[p]? = some o := fun o => List.getElem?_set_self hlt
    obtain ⟨q, hq, q0, q1⟩ := prime_at ((cnt + 1) % 5) (Int.emod_nonneg _ (by decide)) (Int.emod_lt_of_pos _ (by decide))
    have hb' : (b : Int) < 2 ^ 50 := by omega
    have xb : (mix + 98897 * (cnt + 1) * (cnt + 1) + 101).natAbs < 2 ^ 200 := by
      have a1 : (98897 * (cnt + 1)).natAbs < 2 ^ 80 := by omega
      have a2 : (cnt + 1).natAbs < 2 ^ 51 := by omega
      have a3 : (98897 * (cnt + 1) * (cnt + 1)).natAbs < 2 ^ 131 := natAbs_mul_lt a1 a2
      omega
    have po : powOk (mix + 98897 * (cnt + 1) * (cnt + 1) + 101) 3 = true := by
      have := log2_lt (k := 200) (by decide) xb
      unfold powOk
      simp
      omega
    have k1 : mulOk 98897 (cnt + 1) = true := mulOk_l (by omega) (by omega)
    have k2 : mulOk (98897 * (cnt + 1)) (cnt + 1) = true := mulOk_r (by omega) (by omega)
    have k3 : mulOk 197 (cnt + 1) = true := mulOk_l (by omega) (by omega)
    have y0 : 0 ≤ (mix + 98897 * (cnt + 1) * (cnt + 1) + 101) ^ 3 % q := Int.emod_nonneg _ (by omega)
    have y1 : (mix + 98897 * (cnt + 1) * (cnt + 1) + 101) ^ 3 % q < q := Int.emod_lt_of_pos _ q0
    have k4 : ∀ z : Int, mulOk ((mix + 98897 * (cnt + 1) * (cnt + 1) + 101) ^ 3 % q) z = true := fun z => mulOk_l (by omega) (by omega)
    have d179 : divOk 179 = true := divOk_small (by decide) (by decide)
    refine ⟨_, ⟨own, mix, cnt + 1⟩, ?_, ⟨o1, ⟨m1, m2⟩, by simp; omega⟩, ((mix + 98897 * (cnt + 1) * (cnt + 1) + 101) ^ 3 % q * ((mix + 98897 * (cnt + 1) * (cnt + 1) + 101) ^ 3 % q % 10531 + 197 * (cnt + 1)) % 2305843009213693907 / 179) % u, rfl, Int.emod_nonneg _ (by omega), Int.emod_lt_of_pos _ u0⟩
    rw [sem_call (d := d__law_take) (by omega) rfl rfl]
    have pu : ∀ v, setItem st (.loc p) (.int 2) v = some (st.set p (.lst [.int own, .int mix, v])) := fun v => put_loc (j := 2) hp rfl
    simp only [d__law_take, b__law_take]
    iterate 6 (rw [y_cons]; simp [-y_cons, i_loc hp, h, pu, i_loc (hs _), hq, po, k1, k2, k3, k4, q0, u0, d179])
    exact fin_len (by simp)
theorem pop_at {st : Sto} {l : Nat} {xs : List CV} {d : Int} {y : CV} (h : st[l]? = some (.lst xs)) (d0 : 0 ≤ d) (d1 : d ≤ 1000000000) (hy : xs[d.toNat]? = some y) : mPopAt st (.loc l) (.int d) = some (y, st.set l (.lst (xs.eraseIdx d.toNat))) := by
  have hl := (List.getElem?_eq_some_iff.mp hy).1
  unfold mPopAt
  dsimp only
  rw [if_pos (by omega), a_loc h]
  simp only [Option.bind_some]
  have : ixOf xs.length d = some d.toNat := by
    unfold ixOf
    rw [if_pos d0, if_pos (by omega)]
  rw [this]
  simp [hy]
theorem perm_erase {α : Type} : ∀ {xs : List α} {i : Nat} {y : α}, xs[i]? = some y → (y :: xs.eraseIdx i).Perm xs
  | [], _, _, h => by simp at h
  | x :: r, 0, y, h => by simp at h; subst h; simp
  | x :: r, i + 1, y, h => by
    have := perm_erase (xs := r) (i := i) (y := y) (by simpa using h)
    simp only [List.eraseIdx_cons_succ]
    exact (List.Perm.swap x y _).trans (this.cons x)
theorem some_ok (n : Nat) (hn : 2 ≤ n) (st : Sto) (p b : Nat) (w : Pot) (hp : st[p]? = some (potO w)) (ok : OkPot b w) (xs : List CV) (hx : ∀ x ∈ xs, NoLoc x) (h1 : xs.length ≤ 1000000) (k : Nat) (hk : k ≤ xs.length) (hb : b + k < 2 ^ 50) :
    Drawn st p (b + k) (sem prog n f__law_some [.loc p, .lst xs, .int k] st) fun v => ∃ ys zs, v = .lst ys ∧ ys.length = k ∧ (ys ++ zs).Perm xs := by
  have hlt := (List.getElem?_eq_some_iff.mp hp).1
  rw [sem_call (d := d__law_some) (by omega) rfl rfl]
  simp [d__law_some, b__law_some, rngR_ok (rngOk_of (show (-1000000 : Int) ≤ 0 by omega) (show (k : Int) ≤ 1000000 by omega) (by omega) (by omega)), show xs.length ≤ 16000000 by omega]
  refine for_N (fun x => Drawn st p (b + k) (fin st x) _) (fun i env s => ∃ v5 w left found, env = [some (.loc p), some (.lst xs), some (.int k), some (.loc st.length), some (.loc (st.length + 1)), v5] ∧ s = st.set p (potO w) ++ [.lst left, .lst found] ∧ OkPot (b + i) w ∧ found.length = i ∧ (found ++ left).Perm xs) ?_ ?_ ?_
  · refine ⟨none, w, xs, [], rfl, ?_, ok, rfl, by simp⟩
    have : st.set p (potO w) = st := by
      apply List.ext_getElem?
      intro j
      by_cases e : p = j
      · subst e; rw [List.getElem?_set_self hlt, hp]
      · rw [List.getElem?_set_ne e]
    rw [this]
  · rintro i x env s hxx ⟨v5, w, left, found, rfl, rfl, okw, fl, pm⟩
    rw [range_at] at hxx
    split at hxx
    · rename_i hi
      cases hxx
      have ln := pm.length_eq
      rw [List.length_append] at ln
      have S1 : (st.set p (potO w) ++ [CO.lst left, .lst found])[p]? = some (potO w) := st_low (List.getElem?_set_self hlt)
      have len1 : (st.set p (potO w)).length = st.length := List.length_set
      have S2 : (st.set p (potO w) ++ [CO.lst left, .lst found])[st.length]? = some (.lst left) := by rw [← len1]; simp
      have S3 : (st.set p (potO w) ++ [CO.lst left, .lst found])[st.length + 1]? = some (.lst found) := by rw [← len1]; simp
      obtain ⟨v, w2, e, ok2, d, rfl, d0, d1⟩ := take_ok (n - 1) (by omega) _ p (b + i) w S1 okw (by omega) left.length (by omega) (by omega)
      obtain ⟨y, hy⟩ : ∃ y, left[d.toNat]? = some y := ⟨_, List.getElem?_eq_getElem (by omega)⟩
      have es : (st.set p (potO w) ++ [CO.lst left, .lst found]).set p (potO w2) = st.set p (potO w2) ++ [CO.lst left, .lst found] := by
        rw [st_lowput (List.getElem?_set_self hlt), List.set_set]
      rw [es] at e
      have len2 : (st.set p (potO w2)).length = st.length := List.length_set
      have T2 : (st.set p (potO w2) ++ [CO.lst left, .lst found])[st.length]? = some (.lst left) := by rw [← len2]; simp
      have pa := pop_at T2 d0 (by omega) hy
      have es2 : (st.set p (potO w2) ++ [CO.lst left, .lst found]).set st.length (.lst (left.eraseIdx d.toNat)) = st.set p (potO w2) ++ [CO.lst (left.eraseIdx d.toNat), .lst found] := by
        rw [← len2]; simp
      rw [es2] at pa
      have U3 : (st.set p (potO w2) ++ [CO.lst (left.eraseIdx d.toNat), .lst found])[st.length + 1]? = some (.lst found) := by rw [← len2]; simp
      have ap := append_loc (x := y) U3 (by omega)
      have es3 : (st.set p (potO w2) ++ [CO.lst (left.eraseIdx d.toNat), .lst found]).set (st.length + 1) (.lst (found ++ [y])) = st.set p (potO w2) ++ [CO.lst (left.eraseIdx d.toNat), .lst (found ++ [y])] := by
        rw [← len2]; simp
      rw [es3] at ap
      refine ⟨[some (.loc p), some (.lst xs), some (.int k), some (.loc st.length), some (.loc (st.length + 1)), some (.int (0 + (i : Int)))], st.set p (potO w2) ++ [CO.lst (left.eraseIdx d.toNat), .lst (found ++ [y])], ?_, _, w2, left.eraseIdx d.toNat, found ++ [y], rfl, rfl, ok2, by simp [fl], ?_⟩
      · simp [l_loc S3, l_loc S2, len_loc S2, e, pa, ap]
      · rw [List.append_assoc]
        refine (List.Perm.append_left found ?_).trans pm
        exact perm_erase hy
    · cases hxx
  · rintro env s ⟨v5, w, left, found, rfl, rfl, okw, fl, pm⟩
    have rl : (rangeL 0 (k : Int)).length = k := by simp
    rw [rl] at okw fl
    have len2 : (st.set p (potO w)).length = st.length := List.length_set
    have S3 : (st.set p (potO w) ++ [CO.lst left, .lst found])[st.length + 1]? = some (.lst found) := by rw [← len2]; simp
    have nf : ∀ x ∈ found, NoLoc x := fun x h => hx x (pm.subset (List.mem_append_left _ h))
    refine ⟨.lst found, w, ?_, okw, found, rfl, fl, left, pm⟩
    simp [frozen_loc S3 nf]
    exact fin_set (.lst nf) (NoLoc_pot w)
end LW

set_option linter.all false
set_option maxRecDepth 100000
/-! The law's own words. -/
namespace LW
open MP
theorem law_number_ok (n : Nat) (hn : 1 ≤ n) (o u : Int) (st : Sto) (ho : 0 ≤ o) (hu : 0 < u) (hs : u.natAbs < 2 ^ 9000) : sem prog n f__law_number [.int o, .int u] st = .ok (nm (red o u)) st := by
  rw [sem_call (d := d__law_number) (by omega) rfl rfl]
  have g := gcd_pos (o := o) hu
  have g2 := gcd_le (o := o) hu
  have d : divOk (Int.gcd o u : Int) = true := divOk_of g (by omega)
  simp [d__law_number, b__law_number]
  refine while_then (fun x => fin st x = _) (fun m env s => ∃ x y : Int, env = [some (.int o), some (.int u), some (.int x), some (.int y)] ∧ s = st ∧ 0 ≤ x ∧ 0 ≤ y ∧ m = y.toNat ∧ Int.gcd x y = Int.gcd o u) (fun env s => env = [some (.int o), some (.int u), some (.int (Int.gcd o u)), some (.int 0)] ∧ s = st) _ ⟨o, u, rfl, rfl, ho, by omega, rfl, rfl⟩ ?_ ?_
  · rintro m env s ⟨x, y, rfl, rfl, hx, hy, rfl, hg⟩
    by_cases h : 0 < y
    · right
      have h1 : x % y < y := Int.emod_lt_of_pos _ h
      have h2 : 0 ≤ x % y := Int.emod_nonneg _ (by omega)
      exact ⟨s, [some (.int o), some (.int u), some (.int y), some (.int (x % y))], s, (x % y).toNat, by simp [h], by simp [h], by omega, y, x % y, rfl, rfl, hy, h2, rfl, by rw [← hg, gcd_step x y hx h]⟩
    · left
      have : y = 0 := by omega
      subst this
      refine ⟨s, by simp, ?_, rfl⟩
      have : x = Int.gcd o u := by rw [← hg]; simp; omega
      rw [this]
  · rintro env s ⟨rfl, rfl⟩
    simp [d]
    rfl
theorem law_spot_ok (n : Nat) (hn : 1 ≤ n) (t : Step) (st : Sto) : sem prog n f__law_spot [stepV t] st = .ok (.int (spot t)) st := by
  rw [sem_call (d := d__law_spot) (by omega) rfl rfl]
  have m : ∀ x : Int, mulOk 2 x = true := fun x => mulOk_l (by omega) (by omega)
  obtain ⟨b, p, w⟩ := t
  cases b <;> simp [d__law_spot, b__law_spot, stepV, m, word, wBeyond, wFrom, spot]
theorem law_join_ok (n : Nat) (hn : 1 ≤ n) (i j : Int) (st : Sto) : sem prog n f__law_join [.int i, .int j] st = .ok (.int (i + j - if i % 2 = 1 ∧ j % 2 = 1 then 1 else 0)) st := by
  rw [sem_call (d := d__law_join) (by omega) rfl rfl]
  simp [d__law_join, b__law_join]
theorem law_cells_ok (n : Nat) (hn : 1 ≤ n) (ns : List Int) (k : Int) (h1 : 1 ≤ k) (hk : k ≤ 1000) (hl : ns.length ≤ 63) (st : Sto) : ∃ m : Nat, 1 ≤ m ∧ (m : Int) ≤ k ∧ sem prog n f__law_cells [.scr ns, .int k] st = .ok (.lst (rangeL 0 m)) st := by
  obtain ⟨m, hm⟩ : ∃ m : Nat, (m : Int) = if 1 < (if (ns.length : Int) < k then (ns.length : Int) else k) then (if (ns.length : Int) < k then (ns.length : Int) else k) else 1 := ⟨(if 1 < (if (ns.length : Int) < k then (ns.length : Int) else k) then (if (ns.length : Int) < k then (ns.length : Int) else k) else 1).toNat, by split <;> split <;> omega⟩
  have hm2 := hm
  refine ⟨m, by split at hm2 <;> omega, by split at hm2 <;> (try split at hm2) <;> omega, ?_⟩
  rw [sem_call (d := d__law_cells) (by omega) rfl rfl]
  have r : rngOk 0 (m : Int) = true := rngOk_of (by omega) (by split at hm2 <;> (try split at hm2) <;> omega) (by omega) (by omega)
  simp [d__law_cells, b__law_cells]
  rw [← hm]
  simp [r]
def wSteps : List Nat := [115, 116, 101, 112, 115]
def loreV (L : Lore) : CV := .dic false [(.str wBox, .int L.box), (.str wBound, .int L.bound), (.str wSteps, .lst (L.steps.map stepV))]
theorem NoLoc_lore (L : Lore) : NoLoc (loreV L) := by
  refine .dic (fun p hp => ?_) fun p hp => ?_
  · simp only [List.mem_cons, List.not_mem_nil, or_false] at hp
    rcases hp with rfl | rfl | rfl <;> exact .str _
  · simp only [List.mem_cons, List.not_mem_nil, or_false] at hp
    rcases hp with rfl | rfl | rfl
    · exact .int _
    · exact .int _
    · exact NoLoc_stepsL _
theorem lore_box (L : Lore) (st : Sto) : item st (loreV L) (.str wBox) = some (.int L.box) := by
  unfold loreV
  rw [i_dic]
  rfl
theorem lore_bound (L : Lore) (st : Sto) : item st (loreV L) (.str wBound) = some (.int L.bound) := by
  unfold loreV
  rw [i_dic]
  rfl
theorem lore_steps (L : Lore) (st : Sto) : item st (loreV L) (.str wSteps) = some (.lst (L.steps.map stepV)) := by
  unfold loreV
  rw [i_dic]
  rfl
theorem str_nat (k : Nat) (h : k < 2 ^ 1000) : bStr (.int k) = some (.str (digitsOf k)) := by
  have : (k : Int).natAbs.log2 < 1000 := log2_lt (by decide) (by simpa using h)
  rw [str_int, if_pos (by omega), intStr_nat]
theorem join_strs (st : Sto) (sep : List Nat) (xs : List (List Nat)) (h : (xs.map (·.length)).sum + xs.length * sep.length ≤ 16000000) : mJoin st (.str sep) (.lst (xs.map CV.str)) = some (.str (joinL sep xs), st) := by
  unfold mJoin
  dsimp only
  rw [s_lst, Option.bind_some, strs_map, Option.bind_some, if_pos (lenOk_le h)]
theorem sum_len : ∀ (xs : List (List Nat)) (m : Nat), (∀ x ∈ xs, x.length ≤ m) → (xs.map (·.length)).sum ≤ xs.length * m
  | [], _, _ => by simp
  | x :: r, m, h => by
    have := sum_len r m fun y hy => h y (List.mem_cons_of_mem _ hy)
    have := h x (List.mem_cons_self ..)
    rw [List.map_cons, List.sum_cons, List.length_cons, Nat.succ_mul]
    omega
theorem line_len {L : Lore} (h : OkLore L) : ∀ x ∈ linesL L, x.length ≤ 30 := fun x hx => by
  unfold linesL at hx
  simp only [List.mem_cons, List.mem_map] at hx
  have h2 : L.box ≤ 999999999 := by have := h.b2; omega
  have l1 := len9 h2
  have l2 := len9 h.c2
  rcases hx with rfl | rfl | ⟨t, ht, rfl⟩
  · simp [lineN, wBox]; omega
  · simp [lineN, wBound]; omega
  · exact lineS_len h ht
theorem law_text_ok (n : Nat) (hn : 1 ≤ n) (L : Lore) (ok : OkLore L) (st : Sto) : sem prog n f__law_text [loreV L] st = .ok (.str (textL L)) st := by
  rw [sem_call (d := d__law_text) (by omega) rfl rfl]
  have tl := text_len ok
  have sl := steps_len ok
  have c2 := ok.c2
  have b2 := ok.b2
  have e1 := lore_box L
  have e2 := lore_bound L
  have e3 := lore_steps L
  have s1 := str_nat L.box (Nat.lt_of_lt_of_le (show L.box < 2 ^ 10 by omega) (Nat.pow_le_pow_right (by decide) (by decide)))
  have s2 := str_nat L.bound (Nat.lt_of_lt_of_le (show L.bound < 2 ^ 30 by omega) (Nat.pow_le_pow_right (by decide) (by decide)))
  have l1 := len9 (show L.box ≤ 999999999 by omega)
  have l2 := len9 c2
  simp only [wBox, wBound, wSteps] at e1 e2 e3
  simp only [d__law_text, b__law_text]
  rw [y_cons]
  simp [-y_cons, -str_int, e1, e2, s1, s2, show 4 + (digitsOf L.box).length ≤ 16000000 by omega, show 6 + (digitsOf L.bound).length ≤ 16000000 by omega]
  rw [y_cons]
  simp [-y_cons, -str_int, e3]
  rw [compL_mapL stepV (fun t => .str (lineS t)) fun t ht => by
    have o := ok.st t ht
    have p9 : t.2.1 ≤ 999999999 := by
      have := o.hi
      have : low t ≤ 1 := by unfold low; split <;> omega
      omega
    have l3 := len9 p9
    have l4 := len9 o.w
    have l5 := word_len t.1
    have s3 := str_nat t.2.1 (Nat.lt_of_lt_of_le (show t.2.1 < 2 ^ 30 by omega) (Nat.pow_le_pow_right (by decide) (by decide)))
    have s4 := str_nat t.2.2 (Nat.lt_of_lt_of_le (show t.2.2 < 2 ^ 30 by have := o.w; omega) (Nat.pow_le_pow_right (by decide) (by decide)))
    have ad : ∀ (x y : List Nat) s, x.length ≤ 1000 → y.length ≤ 1000 → binop s .add (.str x) (.str y) = some (.str (x ++ y)) := fun x y s hx hy => by
      rw [o_adds, if_pos (lenOk_le (by omega))]
    have a1 := fun s => ad (word t.1) [32] s (by omega) (by decide)
    have a2 := fun s => ad (word t.1 ++ [32]) (digitsOf t.2.1) s (by simp; omega) (by omega)
    have a3 := fun s => ad (word t.1 ++ [32] ++ digitsOf t.2.1) [32] s (by simp; omega) (by decide)
    have a4 := fun s => ad (word t.1 ++ [32] ++ digitsOf t.2.1 ++ [32]) (digitsOf t.2.2) s (by simp; omega) (by omega)
    simp [-o_adds] at a2 a3 a4
    simp [-str_int, -o_adds, stepV, s3, s4, a1, a2, a3, a4, lineS]]
  have el : (CV.str (98 :: 111 :: 120 :: 32 :: digitsOf L.box) :: CV.str (98 :: 111 :: 117 :: 110 :: 100 :: 32 :: digitsOf L.bound) :: L.steps.map fun t => CV.str (lineS t)) = (linesL L).map CV.str := by
    simp [linesL, lineN, wBox, wBound]
  have J := join_strs st [10] (linesL L) (by
    have sum := sum_len (linesL L) 30 (fun x hx => line_len ok x hx)
    have : (linesL L).length = L.steps.length + 2 := by simp [linesL]
    simp
    omega)
  rw [← el] at J
  simp [show L.steps.length ≤ 16000000 by omega, show 2 + L.steps.length ≤ 16000000 by omega, J]
  rfl
theorem law_rule_ok (n : Nat) (hn : 5 ≤ n) (L : Lore) (ok : OkLore L) (st : Sto) : sem prog n f__law_rule [loreV L] st = .ok (ruleV L) st := by
  rw [sem_call (d := d__law_rule) (by omega) rfl rfl]
  simp [d__law_rule, b__law_rule, law_text_ok (n - 1) (by omega) L ok, Rule_new (n - 1) (by omega) L ok]
theorem dict_lore (L : Lore) (st : Sto) : bDict st (.lst [.tup [.str wBox, .int L.box], .tup [.str wBound, .int L.bound], .tup [.str wSteps, .lst (L.steps.map stepV)]]) = some (loreV L) := rfl
end LW

set_option linter.all false
set_option maxRecDepth 100000
/-! The law's table. -/
namespace LW
open MP
/-- a table that holds is no less than the least one -/
theorem tab_least (ts : TS) (hts : ∀ p ∈ ts, 2 ≤ p.1) (V : Nat → Int) (top : Nat) (h0 : 0 ≤ V 0) (hm : ∀ s, s + 1 ≤ top → V s ≤ V (s + 1))
    (hs : ∀ p ∈ ts, ∀ s : Nat, s ≤ top → 0 ≤ restB s p.1 → V (restB s p.1).toNat + p.2 ≤ V s) : ∀ s, s ≤ top → tab ts s ≤ V s := by
  intro s
  induction s using Nat.strongRecOn with
  | _ s ih =>
    intro hle
    cases s with
    | zero => rw [tab_zero]; exact h0
    | succ k =>
      rcases tab_why ts hts k with h | ⟨p, hp, hr, h⟩
      · rw [h]
        exact Int.le_trans (ih k (by omega) (by omega)) (hm k hle)
      · rw [h]
        have lt := restB_lt (s := ((k + 1 : Nat) : Int)) (o := p.1) (by have := hts p hp; omega)
        have := ih (restB (k + 1 : Nat) p.1).toNat (by omega) (by omega)
        have := hs p hp (k + 1) hle hr
        omega
/-- the law's table: it gathers no less -/
structure Tab2 (L : Lore) (W : Int) (F : List Int) (k : Nat) : Prop where
  len : F.length = 2 * L.box + 1
  zero : F[0]? = some 0
  le : ∀ s x, s ≤ k → F[s]? = some x → x ≤ s * W
  mono : ∀ s x y, s + 1 ≤ k → F[s]? = some x → F[s + 1]? = some y → x ≤ y
  step : ∀ t ∈ L.steps, ∀ (s r : Nat) (x y : Int), s ≤ k → r < s → come r (spot t) = s → F[r]? = some x → F[s]? = some y → x + t.2.2 ≤ y
theorem Tab2.ge {L : Lore} {W : Int} {F : List Int} (h : Tab2 L W F (2 * L.box)) (h1 : ∀ p ∈ trueS L, 2 ≤ p.1) : ∀ s x, s ≤ 2 * L.box → F[s]? = some x → tab (trueS L) s ≤ x := by
  intro s x hs hx
  have at_ : ∀ s, s ≤ 2 * L.box → F[s]? = some (F.getD s 0) := fun s hs => by
    rw [List.getD_eq_getElem?_getD, List.getElem?_eq_getElem (by rw [h.len]; omega)]
    rfl
  have mono1 : ∀ s, s + 1 ≤ 2 * L.box → F.getD s 0 ≤ F.getD (s + 1) 0 := fun s hs => h.mono s _ _ hs (at_ s (by omega)) (at_ (s + 1) hs)
  have z : F.getD 0 0 = 0 := Option.some.inj ((at_ 0 (by omega)).symm.trans h.zero)
  have := tab_least (trueS L) h1 (fun s => F.getD s 0) (2 * L.box) (by simp only [z]; omega) mono1 (fun p hp s hs hr => ?_) s hs
  · rw [at_ s hs] at hx
    rw [← Option.some.inj hx]
    exact this
  · obtain ⟨t, ht, rfl⟩ := List.mem_map.mp hp
    have ht := (List.mem_filter.mp ht).1
    have h2 := h1 _ hp
    simp only at hr h2 ⊢
    have lt := restB_lt (s := (s : Int)) (o := spot t) (by omega)
    -- the space that it comes to, or the one ahead
    obtain ⟨r, hr2⟩ : ∃ r : Nat, restB s (spot t) = r := ⟨_, (Int.toNat_of_nonneg hr).symm⟩
    rw [hr2] at lt ⊢
    have hc : come r (spot t) = s ∨ (come r (spot t) + 1 = s ∧ r < s - 1) := by
      unfold restB at hr2
      unfold come
      split at hr2 <;> split <;> omega
    rcases hc with hc | ⟨hc, hr3⟩
    · exact h.step t ht s r _ _ hs (by omega) hc (at_ r (by omega)) (at_ s hs)
    · have a := h.step t ht (s - 1) r _ _ (by omega) hr3 (by omega) (at_ r (by omega)) (at_ (s - 1) (by omega))
      have b := mono1 (s - 1) (by omega)
      rw [show s - 1 + 1 = s by omega] at b
      exact Int.le_trans a b
theorem Tab2.start (L : Lore) {W : Int} : Tab2 L W (List.replicate (2 * L.box + 1) 0) 0 :=
  ⟨by simp, by simp, fun s x hs hx => by
    have : s = 0 := by omega
    subst this
    simp at hx
    omega, fun s x y hs => by omega, fun t ht s r x y hs hr => by omega⟩
theorem Tab2.put {L : Lore} {W : Int} {F : List Int} {k : Nat} {h : Int} (T : Tab2 L W F k) (hk : k + 1 ≤ 2 * L.box) (h1 : ∀ x, F[k]? = some x → x ≤ h) (h2 : h ≤ (k + 1 : Nat) * W)
    (h3 : ∀ t ∈ L.steps, ∀ (r : Nat) (x : Int), r < k + 1 → come r (spot t) = k + 1 → F[r]? = some x → x + t.2.2 ≤ h) : Tab2 L W (F.set (k + 1) h) (k + 1) := by
  have lo : ∀ j, j ≤ k → (F.set (k + 1) h)[j]? = F[j]? := fun j hj => List.getElem?_set_ne (by omega)
  have hi : (F.set (k + 1) h)[k + 1]? = some h := List.getElem?_set_self (by rw [T.len]; omega)
  refine ⟨by rw [List.length_set]; exact T.len, by rw [lo 0 (by omega)]; exact T.zero, fun s x hs hx => ?_, fun s x y hs hx hy => ?_, fun t ht s r x y hs hr hc hx hy => ?_⟩
  · by_cases e : s = k + 1
    · subst e
      rw [hi] at hx
      cases hx
      exact h2
    · rw [lo s (by omega)] at hx
      exact T.le s x (by omega) hx
  · rw [lo s (by omega)] at hx
    by_cases e : s = k
    · subst e
      rw [hi] at hy
      cases hy
      exact h1 x hx
    · rw [lo (s + 1) (by omega)] at hy
      exact T.mono s x y (by omega) hx hy
  · rw [lo r (by omega)] at hx
    by_cases e : s = k + 1
    · subst e
      rw [hi] at hy
      cases hy
      exact h3 t ht r x hr hc hx
    · rw [lo s (by omega)] at hy
      exact T.step t ht s r x y (by omega) hr hc hx hy
end LW

set_option linter.all false
set_option maxRecDepth 100000
/-! Rounding; drawn sizes. -/
namespace LW
open MP
def roundS : Nat → Nat → List Step
  | _, 0 => []
  | k, i + 1 => roundS k i ++ [(false, i + 1, (i + 1) * k), (true, i + 1, (i + 1) * (k + 1))]
def roundL (k : Nat) : Lore := ⟨k + 1, k * (k + 1), roundS k k⟩
theorem roundS_mem {k : Nat} : ∀ {i : Nat} {t : Step}, t ∈ roundS k i → 1 ≤ t.2.1 ∧ t.2.1 ≤ i ∧ t.2.2 = if t.1 then t.2.1 * (k + 1) else t.2.1 * k
  | 0, _, h => by cases h
  | i + 1, t, h => by
    unfold roundS at h
    rw [List.mem_append] at h
    rcases h with h | h
    · have := roundS_mem h
      exact ⟨this.1, by omega, this.2.2⟩
    · simp only [List.mem_cons, List.not_mem_nil, or_false] at h
      rcases h with rfl | rfl
      · exact ⟨by simp, by simp, rfl⟩
      · exact ⟨by simp, by simp, rfl⟩
theorem roundS_up (k : Nat) : ∀ i, (roundS k i).Pairwise fun a b => spot a < spot b
  | 0 => .nil
  | i + 1 => by
    unfold roundS
    rw [List.pairwise_append]
    refine ⟨roundS_up k i, by simp [spot], fun a ha b hb => ?_⟩
    have := (roundS_mem ha).2.1
    simp only [List.mem_cons, List.not_mem_nil, or_false] at hb
    have : spot a ≤ 2 * i + 1 := by unfold spot; split <;> omega
    rcases hb with rfl | rfl
    · show spot a < 2 * (i + 1) + 0; omega
    · show spot a < 2 * (i + 1) + 1; omega
theorem roundL_ok {k : Nat} (h1 : 1 ≤ k) (h2 : k ≤ 59) : OkLore (roundL k) := by
  have kk : k * (k + 1) ≤ 59 * 60 := Nat.mul_le_mul h2 (by omega)
  have kp : 1 ≤ k * (k + 1) := Nat.mul_pos h1 (by omega)
  refine ⟨by simp [roundL], by simp [roundL]; omega, kp, by show k * (k + 1) ≤ _; omega, fun t ht => ?_, roundS_up k k⟩
  obtain ⟨a, b, c⟩ := roundS_mem ht
  have m1 : t.2.1 * (k + 1) ≤ 59 * 60 := Nat.mul_le_mul (by omega) (by omega)
  have m2 : t.2.1 * k ≤ 59 * 60 := Nat.mul_le_mul (by omega) (by omega)
  refine ⟨?_, ?_, ?_⟩
  · unfold low; split <;> omega
  · show t.2.1 < k + 1 + low t; omega
  · rw [c]; split <;> omega
/-- what the rounding table tells at the most -/
def roundV (k s : Nat) : Int := if s % 2 = 0 then (k : Int) * (s / 2 : Nat) else (k + 1 : Int) * (s / 2 : Nat)
theorem roundL_sound {k : Nat} (h1 : 1 ≤ k) (h2 : k ≤ 59) : wRec (roundL k).steps 1 = 0 ∧ tab (trueS (roundL k)) (2 * (roundL k).box) ≤ (roundL k).bound := by
  have h0 : wRec (roundL k).steps 1 = 0 := by
    rcases wRec_of (roundL k).steps 1 with h | ⟨t, ht, hs, _⟩
    · exact h
    · have := (roundS_mem ht).1
      unfold spot at hs
      split at hs <;> omega
  refine ⟨h0, ?_⟩
  have hsp := trueS_spot (roundL_ok h1 h2) h0
  have e : ((roundL k).bound : Int) = roundV k (2 * (k + 1)) := by
    unfold roundV
    rw [if_pos (by omega)]
    have : 2 * (k + 1) / 2 = k + 1 := by omega
    rw [this]
    simp [roundL]
  rw [e]
  refine tab_least _ (fun p hp => (hsp p hp).1) (roundV k) (2 * (k + 1)) (by simp [roundV]) (fun s hs => ?_) (fun p hp s hs hr => ?_) _ (Nat.le_refl _)
  · -- monotone
    unfold roundV
    obtain ⟨M, hM⟩ : ∃ M, M = s / 2 := ⟨_, rfl⟩
    by_cases he : s % 2 = 0
    · rw [if_pos he, if_neg (by omega)]
      have : (s + 1) / 2 = M := by omega
      rw [this, ← hM, Int.add_mul]
      omega
    · rw [if_neg he, if_pos (by omega)]
      have : (s + 1) / 2 = M + 1 := by omega
      rw [this, ← hM, Int.add_mul, show ((M + 1 : Nat) : Int) = (M : Int) + 1 by omega, Int.mul_add]
      omega
  · obtain ⟨t, ht, rfl⟩ := List.mem_map.mp hp
    obtain ⟨a, b, c⟩ := roundS_mem (List.mem_filter.mp ht).1
    simp only at hr ⊢
    obtain ⟨B, N, w⟩ := t
    simp only at a b c
    obtain ⟨r, hr2⟩ : ∃ r : Nat, restB s (spot (B, N, w)) = r := ⟨_, (Int.toNat_of_nonneg hr).symm⟩
    rw [hr2]
    simp only [Int.toNat_natCast]
    obtain ⟨M, hM⟩ : ∃ M, M = s / 2 := ⟨_, rfl⟩
    have kM : (M : Int) ≤ k + 1 := by omega
    cases B with
    | false =>
      simp [spot, restB] at hr2
      simp at c
      subst c
      have hrM : r / 2 + N = M := by omega
      have par : r % 2 = s % 2 := by omega
      have e1 : ((r / 2 : Nat) : Int) = (M : Int) - N := by omega
      unfold roundV
      rw [par, ← hM]
      by_cases he : s % 2 = 0
      · rw [if_pos he, if_pos he, e1, Int.mul_sub, Int.natCast_mul, Int.mul_comm (N : Int)]
        omega
      · rw [if_neg he, if_neg he, e1, Int.mul_sub, Int.natCast_mul, Int.mul_comm (N : Int), Int.add_mul, Int.add_mul]
        omega
    | true =>
      simp [spot, restB] at hr2
      simp at c
      subst c
      unfold roundV
      rw [← hM]
      have rodd : ¬ r % 2 = 0 := by split at hr2 <;> omega
      rw [if_neg rodd]
      by_cases he : s % 2 = 0
      · have e1 : ((r / 2 : Nat) : Int) = (M : Int) - N - 1 := by split at hr2 <;> omega
        rw [if_pos he, e1, Int.natCast_mul, show ((k + 1 : Nat) : Int) = (k : Int) + 1 by omega, Int.mul_comm (N : Int), ← Int.mul_add]
        rw [show (M : Int) - N - 1 + N = M - 1 by omega, Int.mul_sub, Int.add_mul]
        omega
      · have e1 : ((r / 2 : Nat) : Int) = (M : Int) - N := by split at hr2 <;> omega
        rw [if_neg he, e1, Int.natCast_mul, show ((k + 1 : Nat) : Int) = (k : Int) + 1 by omega, Int.mul_comm (N : Int), ← Int.mul_add]
        rw [show (M : Int) - N + N = M by omega]
        exact Int.le_refl _
end LW

set_option linter.all false
set_option maxRecDepth 100000
/-! Drawn sizes and rules. -/
namespace LW
open MP
theorem pot_self {st : Sto} {p : Nat} {o : CO} (h : st[p]? = some o) : st.set p o = st := by
  apply List.ext_getElem?
  intro j
  by_cases e : p = j
  · subst e; rw [List.getElem?_set_self (List.getElem?_eq_some_iff.mp h).1, h]
  · rw [List.getElem?_set_ne e]
theorem set_app {st xs : Sto} {p : Nat} {o : CO} (h : p < st.length) : (st ++ xs).set p o = st.set p o ++ xs := List.set_append_left _ _ h
theorem Drawn.set {α : Type} {st : Sto} {p b : Nat} {o : CO} {x : R α} {Z : α → Prop} (h : Drawn (st.set p o) p b x Z) : Drawn st p b x Z := by
  obtain ⟨v, w, e, k, z⟩ := h
  rw [List.set_set] at e
  exact ⟨v, w, e, k, z⟩
theorem Drawn.mono {α : Type} {st : Sto} {p a b : Nat} {x : R α} {Y Z : α → Prop} (h : Drawn st p a x Y) (l : a ≤ b) (k : ∀ v, Y v → Z v) : Drawn st p b x Z := by
  obtain ⟨v, w, e, ok, z⟩ := h
  exact ⟨v, w, e, ok.mono l, k v z⟩
theorem take_d (n : Nat) (hn : 1 ≤ n) {st : Sto} {p b : Nat} {w : Pot} (hlt : p < st.length) (ok : OkPot b w) (hb : b < 2 ^ 50) (u : Int) (u0 : 0 < u) (u1 : u < 18446744073709551616) :
    Drawn st p (b + 1) (sem prog n f__law_take [.loc p, .int u] (st.set p (potO w))) fun v => ∃ d, v = .int d ∧ 0 ≤ d ∧ d < u :=
  (take_ok n hn _ p b w (List.getElem?_set_self hlt) ok hb u u0 u1).set
theorem some_d (n : Nat) (hn : 2 ≤ n) {st : Sto} {p b : Nat} {w : Pot} (hlt : p < st.length) (ok : OkPot b w) (xs : List CV) (hx : ∀ x ∈ xs, NoLoc x) (h1 : xs.length ≤ 1000000) (k : Nat) (hk : k ≤ xs.length) (hb : b + k < 2 ^ 50) :
    Drawn st p (b + k) (sem prog n f__law_some [.loc p, .lst xs, .int k] (st.set p (potO w))) fun v => ∃ ys zs, v = .lst ys ∧ ys.length = k ∧ (ys ++ zs).Perm xs :=
  (some_ok n hn _ p b w (List.getElem?_set_self hlt) ok xs hx h1 k hk hb).set
/-- a draw with things of one's own behind -/
def DrawnA {α : Type} (st xs : Sto) (p b : Nat) (x : R α) (Z : α → Prop) : Prop := ∃ v w, x = .ok v (st.set p (potO w) ++ xs) ∧ OkPot b w ∧ Z v
theorem take_a (n : Nat) (hn : 1 ≤ n) {st : Sto} (xs : Sto) {p b : Nat} {w : Pot} (hlt : p < st.length) (ok : OkPot b w) (hb : b < 2 ^ 50) (u : Int) (u0 : 0 < u) (u1 : u < 18446744073709551616) :
    DrawnA st xs p (b + 1) (sem prog n f__law_take [.loc p, .int u] (st.set p (potO w) ++ xs)) fun v => ∃ d, v = .int d ∧ 0 ≤ d ∧ d < u := by
  have := take_d n hn (st := st ++ xs) (p := p) (b := b) (w := w) (by simp; omega) ok hb u u0 u1
  rw [set_app hlt] at this
  obtain ⟨v, w2, e, k, z⟩ := this
  rw [set_app hlt] at e
  exact ⟨v, w2, e, k, z⟩
theorem red_size {o u B : Int} (h0 : 0 < o) (hu : 0 < u) (h : o ≤ B * u) : OkSize B (red o u) := by
  have n := red_num (by omega : 0 ≤ o) hu
  have e := red_mul (o := o) hu
  have p1 : 0 < (red o u).1 := by
    rcases Int.lt_or_eq_of_le n.nn with h1 | h1
    · exact h1
    · rw [← h1, Int.zero_mul] at e
      have := Int.mul_pos h0 n.up
      omega
  refine ⟨n, p1, ?_⟩
  have a : (red o u).1 * u ≤ (B * (red o u).2) * u := by
    rw [e, Int.mul_right_comm]
    exact Int.mul_le_mul_of_nonneg_right h (Int.le_of_lt n.up)
  exact Int.le_of_mul_le_mul_right a hu
theorem int_size {B a : Int} (h1 : 1 ≤ a) (h2 : a ≤ B) : OkSize B (a, 1) := ⟨⟨by simp; omega, by simp, by simp⟩, by simp; omega, by simp; omega⟩
end LW

set_option linter.all false
set_option maxRecDepth 100000
/-! Drawn rules. -/
namespace LW
open MP
theorem range_ints (a b : Int) : rangeL a b = ((List.range (b - a).toNat).map fun (i : Nat) => a + (i : Int)).map CV.int := by
  unfold rangeL
  rw [List.map_map]
  rfl
theorem ints_perm {ys zs : List CV} {ns : List Int} (h : (ys ++ zs).Perm (ns.map CV.int)) : ∃ ms : List Int, ys = ms.map CV.int ∧ ms.Sublist ms ∧ (∀ x ∈ ms, x ∈ ns) ∧ (ns.Nodup → ms.Nodup) := by
  have all : ∀ y ∈ ys, ∃ i, y = CV.int i ∧ i ∈ ns := fun y hy => by
    have := h.subset (List.mem_append_left _ hy)
    obtain ⟨i, hi, e⟩ := List.mem_map.mp this
    exact ⟨i, e.symm, hi⟩
  obtain ⟨ms, hms⟩ : ∃ ms : List Int, ys = ms.map CV.int := by
    clear h
    induction ys with
    | nil => exact ⟨[], rfl⟩
    | cons y r ih =>
      obtain ⟨i, rfl, _⟩ := all y (List.mem_cons_self ..)
      obtain ⟨ms, rfl⟩ := ih fun z hz => all z (List.mem_cons_of_mem _ hz)
      exact ⟨i :: ms, rfl⟩
  subst hms
  refine ⟨ms, rfl, List.Sublist.refl _, fun x hx => ?_, fun nd => ?_⟩
  · obtain ⟨i, e, hi⟩ := all (.int x) (List.mem_map_of_mem hx)
    cases e
    exact hi
  · have n1 : (ns.map CV.int).Nodup := by
      rw [List.Nodup, List.pairwise_map]
      exact nd.imp fun {a b} hab e => hab (by cases e; rfl)
    have n2 := (h.nodup_iff.mpr n1)
    rw [List.nodup_append] at n2
    have n3 := n2.1
    rw [List.Nodup, List.pairwise_map] at n3
    exact n3.imp fun {a b} hab e => hab (by rw [e])
theorem sorted_up {ms : List Int} (nd : ms.Nodup) : (ms.mergeSort fun a b => decide (a ≤ b)).Pairwise (· < ·) := by
  have s := List.pairwise_mergeSort (le := fun a b : Int => decide (a ≤ b)) (fun a b c h1 h2 => by simp at *; omega) (fun a b => by simp; omega) ms
  have n2 : (ms.mergeSort fun a b => decide (a ≤ b)).Nodup := (List.mergeSort_perm ms _).nodup_iff.mpr nd
  have := s.and n2
  exact this.imp fun {a b} ⟨h1, h2⟩ => by simp at h1; omega
/-- the step at a space -/
def stepAt (s : Nat) (w : Nat) : Step := (decide (s % 2 = 1), s / 2, w)
theorem spot_at (s w : Nat) : spot (stepAt s w) = s := by
  unfold spot stepAt
  by_cases h : s % 2 = 1 <;> simp [h] <;> omega
theorem ok_at {s w B : Nat} (h1 : 1 ≤ s) (h2 : s ≤ 2 * B) (hw : w ≤ 999999999) : OkStep B (stepAt s w) := by
  refine ⟨?_, ?_, hw⟩ <;> unfold low stepAt <;> by_cases h : s % 2 = 1 <;> simp [h] <;> omega
end LW

set_option linter.all false
set_option maxRecDepth 100000
/-! What lots fill; no lot outgrows a table. -/
namespace LW
open MP
/-! spaces of sums -/
theorem spcI_red {o u : Int} (ho : 0 ≤ o) (hu : 0 < u) : spcI (red o u) = spcI (o, u) := by
  have g := gcd_pos (o := o) hu
  obtain ⟨a, ha⟩ := Int.gcd_dvd_left (a := o) (b := u)
  obtain ⟨b, hb⟩ := Int.gcd_dvd_right (a := o) (b := u)
  have e1 : (red o u).1 = a := Int.ediv_eq_of_eq_mul_right (by omega) ha
  have e2 : (red o u).2 = b := Int.ediv_eq_of_eq_mul_right (by omega) hb
  generalize (Int.gcd o u : Int) = d at *
  have d1 : o / u = a / b := by rw [ha, hb]; exact Int.mul_ediv_mul_of_pos _ _ g
  have d2 : o % u = d * (a % b) := by rw [ha, hb]; exact Int.mul_emod_mul_of_pos _ _ g
  unfold spcI
  simp only [e1, e2]
  rw [d1, d2]
  congr 1
  by_cases h : 0 < a % b
  · rw [if_pos h, if_pos (Int.mul_pos g h)]
  · have : a % b ≤ 0 := by omega
    rw [if_neg h, if_neg fun q => by
      have := Int.mul_nonpos_of_nonneg_of_nonpos (Int.le_of_lt g) this
      omega]
theorem spc_add {a m : Q2} (h1 : Num a) (h2 : Num m) : come (spc a) (spc m) ≤ spc (addQ a m) := by
  have n := addQ_num h1 h2
  have o0 : 0 ≤ a.1 * m.2 + m.1 * a.2 := Int.add_nonneg (Int.mul_nonneg h1.nn (Int.le_of_lt h2.up)) (Int.mul_nonneg h2.nn (Int.le_of_lt h1.up))
  have u0 : 0 < a.2 * m.2 := Int.mul_pos h1.up h2.up
  have e := spcI_red o0 u0
  have s0 := spc_eq n
  have s1 := spc_eq h1
  have s2 := spc_eq h2
  unfold addQ at s0 ⊢
  rw [e] at s0
  have r1 := Int.emod_nonneg a.1 (show a.2 ≠ 0 by have := h1.up; omega)
  have r2 := Int.emod_nonneg m.1 (show m.2 ≠ 0 by have := h2.up; omega)
  have q1 := Int.ediv_nonneg h1.nn (Int.le_of_lt h1.up)
  have q2 := Int.ediv_nonneg h2.nn (Int.le_of_lt h2.up)
  have x1 : 0 ≤ a.1 % a.2 * m.2 := Int.mul_nonneg r1 (Int.le_of_lt h2.up)
  have x2 : 0 ≤ m.1 % m.2 * a.2 := Int.mul_nonneg r2 (Int.le_of_lt h1.up)
  have eo : a.1 * m.2 + m.1 * a.2 = (a.1 % a.2 * m.2 + m.1 % m.2 * a.2) + (a.1 / a.2 + m.1 / m.2) * (a.2 * m.2) := by
    have z1 := Int.ediv_mul_add_emod a.1 a.2
    have z2 := Int.ediv_mul_add_emod m.1 m.2
    conv => lhs; rw [← z1, ← z2]
    grind
  have X0 : 0 ≤ a.1 % a.2 * m.2 + m.1 % m.2 * a.2 := by omega
  have d1 : (a.1 * m.2 + m.1 * a.2) / (a.2 * m.2) = (a.1 % a.2 * m.2 + m.1 % m.2 * a.2) / (a.2 * m.2) + (a.1 / a.2 + m.1 / m.2) := by
    conv => lhs; rw [eo]
    exact Int.add_mul_ediv_right _ _ (by omega)
  have d2 : (a.1 * m.2 + m.1 * a.2) % (a.2 * m.2) = (a.1 % a.2 * m.2 + m.1 % m.2 * a.2) % (a.2 * m.2) := by
    conv => lhs; rw [eo]
    exact Int.add_mul_emod_self_right _ _ _
  have pos : (0 < a.1 % a.2 ∨ 0 < m.1 % m.2) → 0 < a.1 % a.2 * m.2 + m.1 % m.2 * a.2 := by
    rintro (h | h)
    · have := Int.mul_pos h h2.up; omega
    · have := Int.mul_pos h h1.up; omega
  have k0 := Int.ediv_nonneg X0 (Int.le_of_lt u0)
  have kr := Int.ediv_mul_add_emod (a.1 % a.2 * m.2 + m.1 % m.2 * a.2) (a.2 * m.2)
  have rr := Int.emod_nonneg (a.1 % a.2 * m.2 + m.1 % m.2 * a.2) (show a.2 * m.2 ≠ 0 by omega)
  unfold spcI at s0 s1 s2
  simp only at s0
  rw [d1, d2] at s0
  generalize (a.1 % a.2 * m.2 + m.1 % m.2 * a.2) = X at *
  generalize a.2 * m.2 = u at *
  generalize hk : X / u = k at *
  generalize hr : X % u = r at *
  have kz : (0 < a.1 % a.2 ∨ 0 < m.1 % m.2) → 1 ≤ k ∨ 0 < r := fun h => by
    have := pos h
    by_cases hk0 : k = 0
    · right; rw [hk0] at kr; omega
    · left; omega
  generalize spc (red _ _) = S at *
  unfold come
  by_cases p1 : 0 < a.1 % a.2
  · rw [if_pos p1] at s1
    have kz := kz (.inl p1)
    by_cases p2 : 0 < m.1 % m.2
    · rw [if_pos p2] at s2
      rw [if_pos ⟨by omega, by omega⟩]
      split at s0 <;> omega
    · rw [if_neg p2] at s2
      rw [if_neg (by omega)]
      split at s0 <;> omega
  · rw [if_neg p1] at s1
    by_cases p2 : 0 < m.1 % m.2
    · rw [if_pos p2] at s2
      have kz := kz (.inr p2)
      rw [if_neg (by omega)]
      split at s0 <;> omega
    · rw [if_neg p2] at s2
      rw [if_neg (by omega)]
      split at s0 <;> omega
theorem come_mono {i j k : Nat} (h : j ≤ k) : come i j ≤ come i k := by
  unfold come
  split <;> split <;> omega
theorem come_left (i j : Nat) : i ≤ come i j := by
  unfold come
  split <;> omega
theorem rest_come {s o r : Nat} (h : come r o ≤ s) : (r : Int) ≤ restB s o := by
  unfold come at h
  unfold restB
  split at h <;> split <;> omega
def wsum (L : Lore) (qs : List Q2) : Int := (qs.map fun q => (wAt L q : Int)).sum
/-- no lot outgrows the table -/
theorem table_lot {L : Lore} (ok : OkLore L) (h0 : wRec L.steps 1 = 0) : ∀ (qs : List Q2) (a : Q2) (W : Int), Num a → (∀ q ∈ qs, Num q) → W ≤ tab (trueS L) (spc a) → W + wsum L qs ≤ tab (trueS L) (spc (qs.foldl addQ a))
  | [], a, W, _, _, h => by simpa [wsum] using h
  | q :: r, a, W, na, nq, h => by
    have nq1 := nq q (List.mem_cons_self ..)
    have n2 := addQ_num na nq1
    have ca := spc_add na nq1
    have key : W + wAt L q ≤ tab (trueS L) (spc (addQ a q)) := by
      have m1 := tab_mono (trueS L) (Nat.le_trans (come_left (spc a) (spc q)) ca)
      rcases wRec_of L.steps (spc q) with hw | ⟨t, ht, hs, hw⟩
      · have : wAt L q = 0 := hw
        rw [this]
        simp
        omega
      · have hw : wAt L q = t.2.2 := hw
        by_cases hz : 0 < t.2.2
        · have mem : (spot t, t.2.2) ∈ trueS L := List.mem_map.mpr ⟨t, List.mem_filter.mpr ⟨ht, decide_eq_true hz⟩, rfl⟩
          have s2 := (trueS_spot ok h0 _ mem).1
          have c2 := Nat.le_trans (come_mono (i := spc a) hs) ca
          have rc := rest_come c2
          have st := tab_step (trueS L) mem s2 (s := spc (addQ a q)) (by omega)
          have mo := tab_mono (trueS L) (show spc a ≤ (restB (spc (addQ a q)) (spot t)).toNat by omega)
          rw [hw]
          omega
        · rw [hw, show t.2.2 = 0 by omega]
          simp
          omega
    have := table_lot ok h0 r (addQ a q) (W + wAt L q) n2 (fun x hx => nq x (List.mem_cons_of_mem _ hx)) key
    unfold wsum at this ⊢
    rw [List.map_cons, List.sum_cons]
    rw [← Int.add_assoc]
    exact this
theorem sound_lot {L : Lore} (ok : OkLore L) (h0 : wRec L.steps 1 = 0) (hs : tab (trueS L) (2 * L.box) ≤ L.bound) {qs : List Q2} (nq : ∀ q ∈ qs, Num q) (fit : (sumQ qs).1 ≤ L.box * (sumQ qs).2) : wsum L qs ≤ L.bound := by
  have := table_lot ok h0 qs (0, 1) 0 num0 nq (by
    have : spc ((0, 1) : Q2) = 0 := by decide
    rw [this, tab_zero]; exact Int.le_refl _)
  have n := sumQ_num qs nq
  have l := spcI_le n.up fit
  have e := spc_eq n
  have m := tab_mono (trueS L) (show spc (sumQ qs) ≤ 2 * L.box by omega)
  unfold sumQ at m
  omega
end LW

set_option linter.all false
set_option maxRecDepth 100000
/-! Sound rules drawn; lots counted; boxes packed. -/
namespace LW
open MP
@[simp] theorem dictOf_nil (t : Bool) (acc : List (CV × CV)) : dictOf t acc [] = some acc := rfl
structure Sound (L : Lore) : Prop where
  ok : OkLore L
  h0 : wRec L.steps 1 = 0
  le : tab (trueS L) (2 * L.box) ≤ L.bound
end LW

set_option linter.all false
set_option maxRecDepth 100000
/-! Boxes packed. -/
namespace LW
open MP
theorem enumL_map {α : Type} (f : α → CV) (l : List α) : enumL (l.map f) = l.zipIdx.map fun p => CV.tup [.int p.2, f p.1] := by
  apply List.ext_getElem?
  intro i
  rw [enum_at, List.getElem?_map, List.getElem?_map, List.getElem?_zipIdx]
  cases l[i]? <;> simp
/-- places frozen one behind the other -/
theorem frozenL_locs {n : Nat} : ∀ (js : List (Nat × List CV)) (s : Sto), (js.map (·.1)).Nodup → (∀ p ∈ js, s[p.1]? = some (.lst p.2) ∧ ∀ x ∈ p.2, NoLoc x) →
    ∃ s', frozen.frozenL (frozen (n + 2)) (js.map fun p => .loc p.1) s = some (js.map fun p => .lst p.2, s') ∧ s'.length = s.length ∧ ∀ i, i ∉ js.map (·.1) → s'[i]? = s[i]?
  | [], s, _, _ => ⟨s, rfl, rfl, fun _ _ => rfl⟩
  | (l, xs) :: r, s, nd, h => by
    rw [List.map_cons, List.nodup_cons] at nd
    obtain ⟨h1, h2⟩ := h (l, xs) (List.mem_cons_self ..)
    have fr : frozen (n + 2) (.loc l) s = some (.lst xs, s.set l .gone) := by
      show frozen ((n + 1) + 1) (.loc l) s = _
      unfold frozen
      dsimp only
      rw [h1]
      dsimp only
      rw [frozenL_vals (n := n) h2]
      rfl
    obtain ⟨s', e, len, keep⟩ := frozenL_locs r (s.set l .gone) nd.2 fun p hp => by
      have hne : l ≠ p.1 := fun e => nd.1 (List.mem_map.mpr ⟨p, hp, e.symm⟩)
      rw [List.getElem?_set_ne hne]
      exact h p (List.mem_cons_of_mem _ hp)
    refine ⟨s', ?_, by rw [len, List.length_set], fun i hi => ?_⟩
    · show ((frozen (n + 2) (.loc l) s).bind fun (y, s) => (frozen.frozenL (frozen (n + 2)) (r.map fun p => .loc p.1) s).map fun (ys, s2) => (y :: ys, s2)) = _
      rw [fr]
      show (frozen.frozenL (frozen (n + 2)) (r.map fun p => .loc p.1) (s.set l .gone)).map _ = _
      rw [e]
      rfl
    · rw [List.map_cons, List.mem_cons, not_or] at hi
      rw [keep i hi.2, List.getElem?_set_ne fun e => hi.1 e.symm]
theorem frozen_locs {l : Nat} {s : Sto} {js : List (Nat × List CV)} (h : s[l]? = some (.lst (js.map fun p => .loc p.1))) (nd : (l :: js.map (·.1)).Nodup) (hj : ∀ p ∈ js, s[p.1]? = some (.lst p.2) ∧ ∀ x ∈ p.2, NoLoc x) :
    ∃ s', frozen 9 (.loc l) s = some (.lst (js.map fun p => .lst p.2), s') ∧ s'.length = s.length ∧ ∀ i, i ≠ l → i ∉ js.map (·.1) → s'[i]? = s[i]? := by
  rw [List.nodup_cons] at nd
  obtain ⟨s', e, len, keep⟩ := frozenL_locs (n := 6) js (s.set l .gone) nd.2 fun p hp => by
    have hne : l ≠ p.1 := fun e => nd.1 (List.mem_map.mpr ⟨p, hp, e.symm⟩)
    rw [List.getElem?_set_ne hne]
    exact hj p hp
  refine ⟨s', ?_, by rw [len, List.length_set], fun i h1 h2 => by rw [keep i h2, List.getElem?_set_ne fun e => h1 e.symm]⟩
  show frozen (8 + 1) (.loc l) s = _
  unfold frozen
  dsimp only
  rw [h]
  dsimp only
  rw [e]
  rfl
/-- boxes packed so far: each one's things, and what they fill -/
structure Packs (B : Nat) (bs : List (List Q2)) (qs : List Q2) : Prop where
  perm : bs.flatten.Perm qs
  fit : ∀ b ∈ bs, (sumQ b).1 ≤ B * (sumQ b).2
  ne : ∀ b ∈ bs, b ≠ []
theorem sumQ_snoc (b : List Q2) (q : Q2) : sumQ (b ++ [q]) = addQ (sumQ b) q := by unfold sumQ; rw [List.foldl_append]; rfl
theorem addQ_zero {q : Q2} (h : Num q) : addQ (0, 1) q = q := by
  unfold addQ
  simp only [Int.zero_mul, Int.mul_one, Int.zero_add, Int.one_mul]
  exact red_self h
theorem sumQ_one {q : Q2} (h : Num q) : sumQ [q] = q := addQ_zero h
theorem sumQ_two {r q : Q2} (h : Num r) : sumQ [r, q] = addQ r q := by
  show addQ (addQ (0, 1) r) q = _
  rw [addQ_zero h]
theorem sumQ_bit : ∀ (l : List Q2), (∀ m ∈ l, Num m ∧ Bit 30 m) → Bit (31 * l.length + 1) (sumQ l) := fun l => by
  suffices h : ∀ (l : List Q2) (a : Q2) (k : Nat), Num a → Bit k a → (∀ m ∈ l, Num m ∧ Bit 30 m) → Bit (31 * l.length + k) (l.foldl addQ a) by
    intro hm
    have := h l (0, 1) 1 num0 (by unfold Bit; simp) hm
    exact this
  intro l
  induction l with
  | nil => intro a k _ h _; simpa using h
  | cons q r ih =>
    intro a k na ba h
    obtain ⟨nq, bq⟩ := h q (List.mem_cons_self ..)
    have := ih (addQ a q) (k + 30 + 1) (addQ_num na nq) (addQ_bit na nq ba bq) fun m hm => h m (List.mem_cons_of_mem _ hm)
    rw [List.length_cons]
    exact this.mono (by omega)
theorem flatten_set (q : Q2) : ∀ (bs : List (List Q2)) (j : Nat) (b : List Q2), bs[j]? = some b → ((bs.set j (b ++ [q])).flatten).Perm (bs.flatten ++ [q])
  | [], _, _, h => by simp at h
  | x :: r, 0, b, h => by
    simp at h
    subst h
    simp only [List.set_cons_zero, List.flatten_cons, List.append_assoc]
    exact List.Perm.append_left x List.perm_append_comm
  | x :: r, j + 1, b, h => by
    simp only [List.set_cons_succ, List.flatten_cons, List.append_assoc]
    exact List.Perm.append_left x (flatten_set q r j b (by simpa using h))
theorem Packs.new {B : Nat} {bs : List (List Q2)} {qs : List Q2} (h : Packs B bs qs) {q : Q2} (hq : OkSize B q) : Packs B (bs ++ [[q]]) (qs ++ [q]) := by
  refine ⟨?_, fun b hb => ?_, fun b hb => ?_⟩
  · rw [List.flatten_append]
    exact h.perm.append_right _
  · rw [List.mem_append] at hb
    rcases hb with hb | hb
    · exact h.fit b hb
    · rw [List.mem_singleton.mp hb, sumQ_one hq.num]
      exact hq.le
  · rw [List.mem_append] at hb
    rcases hb with hb | hb
    · exact h.ne b hb
    · rw [List.mem_singleton.mp hb]
      simp
theorem Packs.put {B : Nat} {bs : List (List Q2)} {qs : List Q2} (h : Packs B bs qs) {q : Q2} {j : Nat} {b : List Q2} (hj : bs[j]? = some b) (hf : (addQ (sumQ b) q).1 ≤ B * (addQ (sumQ b) q).2) : Packs B (bs.set j (b ++ [q])) (qs ++ [q]) := by
  refine ⟨(flatten_set q bs j b hj).trans (h.perm.append_right _), fun c hc => ?_, fun c hc => ?_⟩
  · rcases List.mem_or_eq_of_mem_set hc with hc | rfl
    · exact h.fit c hc
    · rw [sumQ_snoc]
      exact hf
  · rcases List.mem_or_eq_of_mem_set hc with hc | rfl
    · exact h.ne c hc
    · simp
theorem len_flatten {α : Type} : ∀ (bs : List (List α)), (∀ b ∈ bs, b ≠ []) → bs.length ≤ bs.flatten.length
  | [], _ => by simp
  | b :: r, h => by
    have h1 := List.length_pos_iff.mpr (h b (List.mem_cons_self ..))
    have h2 := len_flatten r fun c hc => h c (List.mem_cons_of_mem _ hc)
    simp only [List.length_cons, List.flatten_cons, List.length_append]
    omega
end LW

set_option linter.all false
set_option maxRecDepth 100000
/-! The law's packing. -/
namespace LW
open MP
def boxesV (bs : List (List Q2)) : List CV := bs.map fun b => CV.lst (b.map nm)
def PS (st : Sto) (bs : List (List Q2)) : Sto := st ++ (.lst ((List.range bs.length).map fun j => CV.loc (st.length + (2 + j))) :: .lst (bs.map fun b => nm (sumQ b)) :: bs.map fun b => .lst (b.map nm))
theorem PS0 (st : Sto) (bs : List (List Q2)) : (PS st bs)[st.length]? = some (.lst ((List.range bs.length).map fun j => CV.loc (st.length + (2 + j)))) := by unfold PS; simp
theorem PS1 (st : Sto) (bs : List (List Q2)) : (PS st bs)[st.length + 1]? = some (.lst (bs.map fun b => nm (sumQ b))) := by unfold PS; simp
theorem PS2 (st : Sto) (bs : List (List Q2)) (j : Nat) (b : List Q2) (h : bs[j]? = some b) : (PS st bs)[st.length + (2 + j)]? = some (.lst (b.map nm)) := by
  unfold PS
  rw [st_at, show 2 + j = j + 2 by omega]
  simp [h]
theorem PS_len (st : Sto) (bs : List (List Q2)) : (PS st bs).length = st.length + (2 + bs.length) := by unfold PS; simp; omega
theorem PS_new (st : Sto) (bs : List (List Q2)) {q : Q2} (h : Num q) :
    ((PS st bs ++ [CO.lst [nm q]]).set st.length (CO.lst (((List.range bs.length).map fun j => CV.loc (st.length + (2 + j))) ++ [CV.loc (st.length + (2 + bs.length))]))).set (st.length + 1) (.lst ((bs.map fun b => nm (sumQ b)) ++ [nm q])) = PS st (bs ++ [[q]]) := by
  unfold PS
  rw [List.append_assoc, st_put0, st_put]
  simp [List.range_succ, sumQ_one h]
theorem PS_put (st : Sto) (bs : List (List Q2)) {q : Q2} {b : List Q2} {j : Nat} (h : bs[j]? = some b) :
    ((PS st bs).set (st.length + (2 + j)) (.lst (b.map nm ++ [nm q]))).set (st.length + 1) (.lst ((bs.map fun b => nm (sumQ b)).set j (nm (addQ (sumQ b) q)))) = PS st (bs.set j (b ++ [q])) := by
  unfold PS
  rw [st_put, st_put]
  rw [show 2 + j = j + 1 + 1 by omega]
  simp [List.map_set, sumQ_snoc]
def fitsQ (B : Nat) (q : Q2) (p : List Q2 × Nat) : Option CV := if (addQ (sumQ p.1) q).1 ≤ B * (addQ (sumQ p.1) q).2 then some (.int p.2) else none
end LW

set_option linter.all false
set_option maxRecDepth 100000
/-! Packing: what sums are. -/
namespace LW
open MP
/-- a number that is so many parts of a whole cut in D -/
def Is (q : Q2) (N D : Int) : Prop := q.1 * D = N * q.2
theorem Is.cut {o u N D : Int} (hu : 0 < u) (h : o * D = N * u) : Is (red o u) N D := by
  have g := gcd_pos (o := o) hu
  obtain ⟨a, ha⟩ := Int.gcd_dvd_left (a := o) (b := u)
  obtain ⟨b, hb⟩ := Int.gcd_dvd_right (a := o) (b := u)
  have e1 : (red o u).1 = a := Int.ediv_eq_of_eq_mul_right (by omega) ha
  have e2 : (red o u).2 = b := Int.ediv_eq_of_eq_mul_right (by omega) hb
  unfold Is
  rw [e1, e2]
  generalize (Int.gcd o u : Int) = d at *
  rw [ha, hb] at h
  refine Int.eq_of_mul_eq_mul_left (show d ≠ 0 by omega) ?_
  rw [← Int.mul_assoc, h]
  grind
theorem Is.add {a m : Q2} {N M D : Int} (h1 : Num a) (h2 : Num m) (i1 : Is a N D) (i2 : Is m M D) : Is (addQ a m) (N + M) D := by
  refine Is.cut (Int.mul_pos h1.up h2.up) ?_
  unfold Is at i1 i2
  have e1 : a.1 * m.2 * D = N * a.2 * m.2 := by rw [Int.mul_right_comm, i1]
  have e2 : m.1 * a.2 * D = M * m.2 * a.2 := by rw [Int.mul_right_comm, i2]
  grind
theorem Is.mul {q : Q2} {N D m : Int} (h : Num q) (i : Is q N D) : Is (mulQ q m) (m * N) D := by
  refine Is.cut h.up ?_
  unfold Is at i
  have e1 : q.1 * m * D = m * (q.1 * D) := by grind
  rw [e1, i]
  grind
theorem Is.fold {D : Int} {α : Type} (g : α → Q2) (f : α → Int) : ∀ (l : List α) (a : Q2) (N : Int), Num a → Is a N D → (∀ x ∈ l, Num (g x) ∧ Is (g x) (f x) D) → Is ((l.map g).foldl addQ a) (N + (l.map f).sum) D
  | [], a, N, _, h, _ => by simpa using h
  | x :: r, a, N, na, h, hm => by
    obtain ⟨n1, i1⟩ := hm x (List.mem_cons_self ..)
    have := Is.fold g f r (addQ a (g x)) (N + f x) (addQ_num na n1) (h.add na n1 i1) fun y hy => hm y (List.mem_cons_of_mem _ hy)
    simp only [List.map_cons, List.foldl_cons, List.sum_cons]
    rwa [Int.add_assoc] at this
theorem Is.sum {D : Int} {α : Type} (g : α → Q2) (f : α → Int) (l : List α) (hm : ∀ x ∈ l, Num (g x) ∧ Is (g x) (f x) D) : Is (sumQ (l.map g)) ((l.map f).sum) D := by
  have := Is.fold g f l (0, 1) 0 num0 (by unfold Is; simp) hm
  rwa [Int.zero_add] at this
theorem Is.le {q : Q2} {N D m : Int} (h : Num q) (hD : 0 < D) (i : Is q N D) : q.1 ≤ m * q.2 ↔ N ≤ m * D := by
  unfold Is at i
  have up := h.up
  constructor
  · intro k
    refine Int.le_of_mul_le_mul_right (a := q.2) ?_ up
    have := Int.mul_le_mul_of_nonneg_right k (Int.le_of_lt hD)
    rw [i] at this
    calc N * q.2 ≤ m * q.2 * D := this
      _ = m * D * q.2 := by grind
  · intro k
    refine Int.le_of_mul_le_mul_right (a := D) ?_ hD
    have := Int.mul_le_mul_of_nonneg_right k (Int.le_of_lt up)
    rw [i]
    calc N * q.2 ≤ m * D * q.2 := this
      _ = m * q.2 * D := by grind
/-- all unders fit into one -/
def dens (qs : List Q2) : Int := (qs.map (·.2)).foldr (· * ·) 1
theorem dens_pos : ∀ {qs : List Q2}, (∀ q ∈ qs, Num q) → 0 < dens qs
  | [], _ => by decide
  | q :: r, h => Int.mul_pos (h q (List.mem_cons_self ..)).up (dens_pos fun x hx => h x (List.mem_cons_of_mem _ hx))
theorem dens_dvd : ∀ {qs : List Q2} {q : Q2}, q ∈ qs → q.2 ∣ dens qs
  | q :: r, x, h => by
    rcases List.mem_cons.mp h with rfl | h
    · exact ⟨_, rfl⟩
    · obtain ⟨c, hc⟩ := dens_dvd h
      refine ⟨q.2 * c, ?_⟩
      show q.2 * dens r = _
      rw [hc]
      grind
def share (D : Int) (q : Q2) : Int := q.1 * (D / q.2)
theorem share_is {D : Int} {q : Q2} (h : q.2 ∣ D) : Is q (share D q) D := by
  unfold Is share
  rw [Int.mul_assoc, Int.ediv_mul_cancel h]
theorem sum_perm {a b : List Int} (h : a.Perm b) : a.sum = b.sum := by
  induction h with
  | nil => rfl
  | cons x _ ih => simp only [List.sum_cons, ih]
  | swap x y l => simp only [List.sum_cons]; omega
  | trans _ _ i j => rw [i, j]
theorem sum_flatten_le (f : Q2 → Int) (c : Int) : ∀ (bs : List (List Q2)), (∀ b ∈ bs, (b.map f).sum ≤ c) → (bs.flatten.map f).sum ≤ bs.length * c
  | [], _ => by simp
  | b :: r, h => by
    have h1 := h b (List.mem_cons_self ..)
    have h2 := sum_flatten_le f c r fun x hx => h x (List.mem_cons_of_mem _ hx)
    simp only [List.flatten_cons, List.map_append, List.sum_append, List.length_cons]
    rw [show ((r.length + 1 : Nat) : Int) * c = r.length * c + c by grind]
    omega
/-- no packing has less boxes than the lot fills -/
theorem fill_le {B : Nat} {qs ps : List Q2} {bs : List (List Q2)} {l : Lot} (nq : ∀ q ∈ qs, Num q) (C : Cnt qs l) (hp : ps.Perm qs) (P : Packs B bs ps) : (fillQ l).1 ≤ (bs.length * B : Int) * (fillQ l).2 := by
  have D0 := dens_pos nq
  have dv : ∀ q ∈ qs, Is q (share (dens qs) q) (dens qs) := fun q hq => share_is (dens_dvd hq)
  have i1 : Is (fillQ l) ((l.map fun p => p.2 * share (dens qs) p.1).sum) (dens qs) := by
    unfold fillQ
    refine Is.sum (fun p : Q2 × Int => mulQ p.1 p.2) (fun p => p.2 * share (dens qs) p.1) l fun p hpl => ?_
    have n1 := nq _ (C.mem p hpl)
    exact ⟨mulQ_num n1 (by have := C.one p hpl; omega), (dv _ (C.mem p hpl)).mul n1⟩
  rw [C.sum (share (dens qs))] at i1
  have nf : Num (fillQ l) := sumQ_num _ fun m hm => by
    obtain ⟨p, hpl, rfl⟩ := List.mem_map.mp hm
    exact mulQ_num (nq _ (C.mem p hpl)) (by have := C.one p hpl; omega)
  rw [i1.le nf D0, ← sum_perm (hp.map _), ← sum_perm (P.perm.map _), Int.mul_assoc]
  refine sum_flatten_le _ _ bs fun b hb => ?_
  have mem : ∀ q ∈ b, q ∈ qs := fun q hq => hp.subset (P.perm.subset (List.mem_flatten.mpr ⟨b, hb, hq⟩))
  have i2 := Is.sum (D := dens qs) (fun q : Q2 => q) (share (dens qs)) b fun q hq => ⟨nq q (mem q hq), dv q (mem q hq)⟩
  simp only [List.map_id'] at i2
  exact (i2.le (sumQ_num b fun q hq => nq q (mem q hq)) D0).mp (P.fit b hb)
theorem reck_cnt (L : Lore) {qs : List Q2} {l : Lot} (C : Cnt qs l) : reck L l = wsum L qs := C.sum fun q => (wAt L q : Int)
theorem wsum_perm (L : Lore) {a b : List Q2} (h : a.Perm b) : wsum L a = wsum L b := sum_perm (h.map _)
theorem reck_le {L : Lore} (S : Sound L) {qs ps : List Q2} {bs : List (List Q2)} {l : Lot} (nq : ∀ q ∈ qs, Num q) (C : Cnt qs l) (hp : ps.Perm qs) (P : Packs L.box bs ps) : reck L l ≤ bs.length * L.bound := by
  rw [reck_cnt L C, ← wsum_perm L hp, ← wsum_perm L P.perm]
  refine sum_flatten_le _ _ bs fun b hb => ?_
  exact sound_lot S.ok S.h0 S.le (fun q hq => nq q (hp.subset (P.perm.subset (List.mem_flatten.mpr ⟨b, hb, hq⟩)))) (P.fit b hb)
theorem up_le {r c m : Int} (hc : 0 < c) (h : r ≤ m * c) : -(-r / c) ≤ m := by
  have : -m ≤ -r / c := Int.le_ediv_of_mul_le hc (by rw [Int.neg_mul]; omega)
  omega
theorem up_le2 {r c m : Int} (hc : 0 < c) (h : r ≤ m * c) : (r + c - 1) / c ≤ m := by
  have : (r + c - 1) / c < m + 1 := Int.ediv_lt_of_lt_mul hc (by rw [Int.add_mul]; omega)
  omega
theorem sumQ_bitk (k : Nat) : ∀ (l : List Q2), (∀ m ∈ l, Num m ∧ Bit k m) → Bit ((k + 1) * l.length + 1) (sumQ l) := fun l => by
  suffices h : ∀ (l : List Q2) (a : Q2) (j : Nat), Num a → Bit j a → (∀ m ∈ l, Num m ∧ Bit k m) → Bit ((k + 1) * l.length + j) (l.foldl addQ a) by
    intro hm
    exact h l (0, 1) 1 num0 (by unfold Bit; simp) hm
  intro l
  induction l with
  | nil => intro a j _ h _; simpa using h
  | cons q r ih =>
    intro a j na ba h
    obtain ⟨nq, bq⟩ := h q (List.mem_cons_self ..)
    have := ih (addQ a q) (j + k + 1) (addQ_num na nq) (addQ_bit na nq ba bq) fun m hm => h m (List.mem_cons_of_mem _ hm)
    rw [List.length_cons]
    refine this.mono ?_
    rw [Nat.mul_succ]
    omega
theorem fillQ_bit {B : Int} {l : Lot} (h : OkLot B l) (hl : l.length ≤ 30) : Bit 3900 (fillQ l) := by
  have key := sumQ_bitk (64 + 64) (l.map fun p => mulQ p.1 p.2) fun m hm => ?_
  · rw [List.length_map] at key
    exact key.mono (by omega)
  obtain ⟨p, hp, rfl⟩ := List.mem_map.mp hm
  have m0 := h.many p hp
  exact ⟨mulQ_num (h.size p hp).num (by omega), mulQ_bit (h.size p hp).num (by omega) (h.bit p hp).1 (h.bit p hp).2⟩
end LW

set_option linter.all false
set_option maxRecDepth 100000
/-! Is a packing right? -/
namespace LW
open MP
end LW

set_option linter.all false
set_option maxRecDepth 100000
/-! Rules that are broken: their lots fit and tell too much. -/
namespace LW
open MP
theorem nodup_le {α : Type} [DecidableEq α] : ∀ (xs ys : List α), xs.Nodup → (∀ x ∈ xs, x ∈ ys) → xs.length ≤ ys.length
  | [], _, _, _ => Nat.zero_le _
  | x :: r, ys, nd, h => by
    rw [List.nodup_cons] at nd
    have hx := h x (List.mem_cons_self ..)
    have := nodup_le r (ys.erase x) nd.2 fun y hy => (List.mem_erase_of_ne fun e => nd.1 (by rw [← e]; exact hy)).mpr (h y (List.mem_cons_of_mem _ hy))
    rw [List.length_erase_of_mem hx] at this
    have := List.length_pos_of_mem hx
    rw [List.length_cons]
    omega
/-- a lot that fills no more than a box and is told more than the bound -/
structure BadLot (L : Lore) (l : Lot) : Prop where
  ok : OkLot L.box l
  len : l.length ≤ 30
  more : (L.bound : Int) < reck L l
  fit : (fillQ l).1 ≤ L.box * (fillQ l).2
theorem share_of {q : Q2} {N D : Int} (h : Num q) (i : Is q N D) (d : q.2 ∣ D) : share D q = N := by
  have j := share_is d
  unfold Is at i j
  refine Int.eq_of_mul_eq_mul_right (show q.2 ≠ 0 by have := h.up; omega) ?_
  rw [← i, ← j]
theorem red_dvd {o u : Int} (hu : 0 < u) : (red o u).2 ∣ u := by
  refine ⟨Int.gcd o u, ?_⟩
  show u = u / Int.gcd o u * Int.gcd o u
  exact (Int.ediv_mul_cancel (Int.gcd_dvd_right ..)).symm
theorem endless_bad {L : Lore} (ok : OkLore L) (h0 : 0 < wRec L.steps 1) : BadLot L (endlessL L) := by
  have b1 := ok.b1
  have b2 := ok.b2
  have c1 := ok.c1
  have c2 := ok.c2
  have dv : (L.bound : Int) / wRec L.steps 1 ≤ 999999999 := Int.le_trans (Int.ediv_le_self _ (by omega)) (by omega)
  have dn : 0 ≤ (L.bound : Int) / wRec L.steps 1 := Int.ediv_nonneg (by omega) (by omega)
  have lt := Int.lt_ediv_add_one_mul_self (L.bound : Int) (show (0 : Int) < wRec L.steps 1 by omega)
  obtain ⟨k, hk⟩ : ∃ k : Int, k = max (L.box : Int) (L.bound / wRec L.steps 1) + 1 := ⟨_, rfl⟩
  have k1 : (L.box : Int) < k := by omega
  have k2 : (L.bound : Int) / wRec L.steps 1 + 1 ≤ k := by omega
  have k3 : k ≤ 1000000000 := by omega
  have e : endlessL L = [(red L.box k, k)] := by unfold endlessL; rw [hk]
  rw [e]
  have kk : (L.box : Int) * 1 ≤ L.box * k := Int.mul_le_mul_of_nonneg_left (by omega) (by omega)
  have sz : OkSize L.box (red L.box k) := red_size (by omega) (by omega) (by omega)
  have rl1 := red_le1 (o := L.box) (u := k) (by omega) (by omega)
  have rl2 := red_le2 (o := L.box) (u := k) (by omega)
  have p1 := sz.pos
  have p2 := sz.num.up
  refine ⟨⟨fun p hp => ?_, fun p hp => ?_, by simp, by simp, fun p hp => ?_⟩, by simp, ?_, ?_⟩
  · rw [List.mem_singleton.mp hp]; exact sz
  · rw [List.mem_singleton.mp hp]; simp only; omega
  · rw [List.mem_singleton.mp hp]
    unfold Bit
    simp only
    omega
  · unfold reck wAt
    have s1 : spcI ((L.box : Int), k) = 1 := by
      unfold spcI
      simp only
      rw [Int.ediv_eq_zero_of_lt (by omega) k1, Int.emod_eq_of_lt (by omega) k1, if_pos (by omega)]
      rfl
    have s2 : spc (red L.box k) = 1 := by
      have := spc_eq sz.num
      rw [spcI_red (by omega) (by omega), s1] at this
      omega
    simp only [List.map_cons, List.map_nil, List.sum_cons, List.sum_nil, s2]
    have := Int.mul_le_mul_of_nonneg_right k2 (show (0 : Int) ≤ wRec L.steps 1 by omega)
    omega
  · have i1 : Is (red L.box k) L.box k := Is.cut (by omega) rfl
    have i2 : Is (mulQ (red L.box k) k) (k * L.box) k := i1.mul sz.num
    have nm := mulQ_num sz.num (show 0 ≤ k by omega)
    have : fillQ [(red L.box k, k)] = mulQ (red L.box k) k := by
      show sumQ [mulQ (red L.box k) k] = _
      exact sumQ_one nm
    rw [this]
    exact (i2.le nm (by omega)).mpr (by rw [Int.mul_comm]; exact Int.le_refl _)
theorem least_facts {L : Lore} (ok : OkLore L) {K : Nat} (hK : 1 ≤ K) (hK2 : K ≤ 121) {t : Step} (ht : t ∈ L.steps) (hb : t.1 = true → 2 ≤ K) :
    OkSize L.box (leastQ K t) ∧ Bit 64 (leastQ K t) ∧ spc (leastQ K t) = spot t ∧ Is (leastQ K t) (t.2.1 * K + if t.1 then 1 else 0) K ∧ (leastQ K t).2 ∣ (K : Int) := by
  obtain ⟨lo, hi, _⟩ := ok.st t ht
  have b2 := ok.b2
  obtain ⟨b, p, w⟩ := t
  cases b with
  | false =>
    simp only [low] at lo hi
    have e : leastQ K (false, p, w) = ((p : Int), 1) := rfl
    rw [e]
    have sz : OkSize L.box ((p : Int), 1) := int_size (by simp at lo; omega) (by simp at hi; omega)
    refine ⟨sz, ?_, ?_, ?_, ⟨K, by simp⟩⟩
    · unfold Bit
      simp at lo hi ⊢
      omega
    · have := spc_eq sz.num
      unfold spcI at this
      simp at this
      unfold spot
      simp
      omega
    · unfold Is
      simp
  | true =>
    simp only [low] at lo hi
    have hb := hb rfl
    have hp : p < L.box := by simpa using hi
    have e : leastQ K (true, p, w) = red (p * K + 1) K := rfl
    rw [e]
    have pk0 : (0 : Int) ≤ p * K := Int.mul_nonneg (by omega) (by omega)
    have pk : (p + 1 : Int) * K ≤ L.box * K := Int.mul_le_mul_of_nonneg_right (by omega) (by omega)
    have pk2 : (p : Int) * K ≤ 60 * K := Int.mul_le_mul_of_nonneg_right (by omega) (by omega)
    rw [Int.add_mul] at pk
    have sz : OkSize L.box (red (p * K + 1) K) := red_size (by omega) (by omega) (by omega)
    have rl1 := red_le1 (o := p * K + 1) (u := K) (by omega) (by omega)
    have rl2 := red_le2 (o := p * K + 1) (u := K) (by omega)
    have p1 := sz.pos
    have p2 := sz.num.up
    refine ⟨sz, ?_, ?_, Is.cut (by omega) (by simp), red_dvd (by omega)⟩
    · unfold Bit
      omega
    · have := spc_eq sz.num
      rw [spcI_red (by omega) (by omega)] at this
      unfold spcI at this
      simp only at this
      have d1 : ((p : Int) * K + 1) / K = p := by
        rw [Int.add_comm, Int.add_mul_ediv_right _ _ (by omega), Int.ediv_eq_zero_of_lt (by omega) (by omega)]
        omega
      have d2 : ((p : Int) * K + 1) % K = 1 := by
        rw [Int.add_comm, Int.add_mul_emod_self_right, Int.emod_eq_of_lt (by omega) (by omega)]
      rw [d1, d2] at this
      unfold spot
      simp at this ⊢
      omega
theorem beyonds_sum (xs : List Step) : (xs.map fun t => if t.1 = true then (1 : Int) else 0).sum = beyonds xs := by
  unfold beyonds
  induction xs with
  | nil => rfl
  | cons t r ih =>
    rw [List.map_cons, List.sum_cons, ih, List.filter_cons]
    split <;> simp <;> omega
theorem beyonds_pos {xs : List Step} {t : Step} (h : t ∈ xs) (hb : t.1 = true) : 1 ≤ beyonds xs := by
  have : t ∈ xs.filter fun t => t.1 := List.mem_filter.mpr ⟨h, hb⟩
  exact List.length_pos_of_mem this
theorem lotB_bad {L : Lore} (ok : OkLore L) (hl : L.steps.length ≤ 30) (hm : (L.bound : Int) < tab (trueS L) (2 * L.box)) {xs : List Step} {s : Nat} (bk : Back L (tab (trueS L)) (2 * L.box) s xs) (hz : tab (trueS L) s = 0) : BadLot L (lotB xs) := by
  have b2 := ok.b2
  have xl := bk.len
  obtain ⟨K, hK⟩ : ∃ K, K = beyonds xs + 1 := ⟨_, rfl⟩
  have bx : beyonds xs ≤ xs.length := List.length_filter_le ..
  have F := fun t (ht : t ∈ xs) => least_facts ok (K := K) (by omega) (by omega) (bk.mem t ht) (fun hb => by have := beyonds_pos ht hb; omega)
  have C := cntQ_ok (xs.map (leastQ K))
  have e : lotB xs = cntQ (xs.map (leastQ K)) := by unfold lotB; rw [hK]
  rw [e]
  generalize cntQ (xs.map (leastQ K)) = l at C
  have hq : ∀ q ∈ xs.map (leastQ K), OkSize L.box q ∧ Bit 64 q := fun q h => by
    obtain ⟨t, ht, rfl⟩ := List.mem_map.mp h
    exact ⟨(F t ht).1, (F t ht).2.1⟩
  have ol : OkLot L.box l := C.okLot (fun q h => (hq q h).1) (fun q h => (hq q h).2) (by rw [List.length_map]; omega)
  refine ⟨ol, ?_, ?_, ?_⟩
  · have := nodup_le (l.map (·.1)) (L.steps.map (leastQ K)) C.nd fun q h => by
      obtain ⟨p, hp, rfl⟩ := List.mem_map.mp h
      obtain ⟨t, ht, e⟩ := List.mem_map.mp (C.mem p hp)
      rw [← e]
      exact List.mem_map_of_mem (bk.mem t ht)
    rw [List.length_map, List.length_map] at this
    omega
  · have r : reck L l = ((xs.map (leastQ K)).map fun q => (wAt L q : Int)).sum := C.sum fun q => (wAt L q : Int)
    rw [r, List.map_map]
    have : (xs.map ((fun q => (wAt L q : Int)) ∘ leastQ K)) = xs.map fun t => (t.2.2 : Int) := by
      apply List.map_congr_left
      intro t ht
      show ((wRec L.steps (spc (leastQ K t)) : Nat) : Int) = _
      rw [(F t ht).2.2.1]
      have lm := look_mem ok.up (bk.mem t ht)
      cases hs : spot t with
      | zero =>
        have st := ok.st t (bk.mem t ht)
        have lo := st.lo
        unfold spot at hs
        unfold low at lo
        split at hs <;> simp_all <;> omega
      | succ i =>
        rw [hs] at lm
        show ((look L.steps (i + 1)).getD _ : Nat) = ((t.2.2 : Nat) : Int)
        rw [lm]
        rfl
    rw [this]
    have := bk.sum
    omega
  · have nf : Num (fillQ l) := fillQ_num ol
    have i1 : Is (fillQ l) ((l.map fun p => p.2 * share K p.1).sum) K := by
      unfold fillQ
      refine Is.sum (fun p : Q2 × Int => mulQ p.1 p.2) (fun p => p.2 * share K p.1) l fun p hpl => ?_
      have n1 := (ol.size p hpl).num
      obtain ⟨t, ht, e⟩ := List.mem_map.mp (C.mem p hpl)
      refine ⟨mulQ_num n1 (by have := C.one p hpl; omega), Is.mul n1 (share_is ?_)⟩
      rw [← e]
      exact (F t ht).2.2.2.2
    rw [C.sum (share K), List.map_map] at i1
    have : xs.map (share K ∘ leastQ K) = xs.map fun t => (t.2.1 : Int) * K + if t.1 = true then 1 else 0 := by
      apply List.map_congr_left
      intro t ht
      obtain ⟨f1, _, _, f2, f3⟩ := F t ht
      exact share_of f1.num f2 f3
    rw [this] at i1
    have sum2 : ∀ ys : List Step, (ys.map fun t => (t.2.1 : Int) * K + if t.1 = true then 1 else 0).sum = ((ys.map fun t => t.2.1).sum : Nat) * K + (ys.map fun t => if t.1 = true then (1 : Int) else 0).sum := fun ys => by
      induction ys with
      | nil => simp
      | cons t r ih =>
        simp only [List.map_cons, List.sum_cons, ih]
        rw [Int.natCast_add, Int.add_mul]
        omega
    rw [sum2, beyonds_sum] at i1
    rw [i1.le nf (by omega)]
    have ft := bk.fit 0 (by omega)
    unfold cmb at ft
    generalize (xs.map fun t => t.2.1).sum = S at *
    by_cases hb : beyonds xs = 0
    · rw [hb] at hK ft ⊢
      simp at ft
      rw [hK]
      simp
      omega
    · rw [if_pos (.inr hb)] at ft
      have h1 : (S + 1 : Int) * K ≤ L.box * K := Int.mul_le_mul_of_nonneg_right (by omega) (by omega)
      rw [Int.add_mul] at h1
      omega
end LW

set_option linter.all false
set_option maxRecDepth 100000
/-! The law's pot. -/
namespace LW
open MP
theorem fin_new {st : Sto} {l : Nat} {s : Sto} : fin st (.ret (.loc l) s) = .ok (.loc l) s := by
  show exitR st (.loc l) s = _
  unfold exitR
  rw [if_neg]
  rintro ⟨h, _⟩
  cases h
theorem law_pot_ok (n : Nat) (hn : 1 ≤ n) (ns : List Int) (c : Nat) (hc : c < 4) (st : Sto) :
    ∃ w, sem prog n f__law_pot [.scr ns, .int c] st = .ok (.loc st.length) (st ++ [potO w]) ∧ OkPot 0 w := by
  have p1 : ∀ s : Sto, binop s .pow (.int 10) (.int 60) = some (.int ((10 : Int) ^ 60)) := fun s => by rw [o_pow, if_pos (by decide)]; rfl
  obtain ⟨X, hX⟩ : ∃ X : Int, X = (10 : Int) ^ 60 := ⟨_, rfl⟩
  have X0 : 0 < X := by rw [hX]; decide
  have p2 : ∀ s : Sto, binop s .pow (.int X) (.int 5) = some (.int (X ^ 5)) := fun s => by rw [o_pow, if_pos (by rw [hX]; decide)]; rfl
  have Y0 : 0 < X ^ 5 := Int.pow_pos X0
  have p3 : ∀ s : Sto, binop s .pow (.int 10) (.int 18) = some (.int 1000000000000000000) := fun s => by rw [o_pow, if_pos (by decide)]; rfl
  rw [← hX] at p1
  generalize X ^ 5 = Y at *
  -- the cell
  obtain ⟨x, hx⟩ : ∃ x : Int, evE prog (sem prog (n - 1)) (.ite (.cmp .lt (.var 1) (.bfn .len (.cons false (.var 0) .nil))) (.idx (.var 0) (.var 1)) (.bin .add (.bin .mul (.int 293) (.var 1)) (.int 139))) [some (.scr ns), some (.int c), none, none, none] st = .ok (.int x) st := by
    by_cases h : c < ns.length
    · refine ⟨ns[c], ?_⟩
      simp [h, atN]
    · refine ⟨293 * c + 139, ?_⟩
      have m : mulOk 293 (c : Int) = true := mulOk_l (by omega) (by omega)
      simp [h, m]
  rw [sem_call (d := d__law_pot) (by omega) rfl rfl]
  simp only [d__law_pot, b__law_pot]
  rw [y_cons, y_asg]
  have env0 : List.map some ([CV.scr ns, CV.int c] ++ List.drop ([CV.scr ns, CV.int c].length + ([] : List CV).length - 2) []) ++ List.replicate (5 - 2) none = [some (.scr ns), some (.int c), none, none, none] := rfl
  rw [env0, hx]
  simp [-y_cons]
  obtain ⟨a, ha, a0⟩ : ∃ a : Int, (if x < 0 then -x else x) = a ∧ 0 ≤ a := ⟨_, rfl, by split <;> omega⟩
  obtain ⟨z, hz, z0, z1⟩ : ∃ z : Int, (if 1000000000000000000 ≤ a then (1 : Int) else 0) = z ∧ 0 ≤ z ∧ z ≤ 1 := ⟨_, rfl, by split <;> omega, by split <;> omega⟩
  have m1 : mulOk (a % Y) z = true := mulOk_r (by omega) (by omega)
  rw [y_cons]
  simp [-y_cons, p1, p2, p3, Y0, ha, hz, m1]
  rw [y_cons]
  simp [-y_cons]
  obtain ⟨d, hd⟩ : ∃ d, x % 2305843009213693951 = d := ⟨_, rfl⟩
  have m2 : mulOk d 74561 = true := mulOk_r (by omega) (by omega)
  have m3 : mulOk 7841 (c : Int) = true := mulOk_l (by omega) (by omega)
  have m4 : mulOk (7841 * (c : Int)) c = true := mulOk_r (by omega) (by omega)
  rw [y_cons]
  simp [-y_cons, hd, m2, m3, m4, fin_new]
  have q0 : (0 : Int) < 2305843009213693921 := by decide
  generalize (d * 74561 + 7841 * (c : Int) * c + 211) = g at *
  refine ⟨⟨a % Y * z, g % 2305843009213693921, 0⟩, rfl, Int.mul_nonneg (Int.emod_nonneg _ (by omega)) z0, ⟨Int.emod_nonneg _ (by omega), Int.emod_lt_of_pos _ q0⟩, ⟨Int.le_refl _, Int.le_refl _⟩⟩
end LW

set_option linter.all false
set_option maxRecDepth 100000
/-! Is the law right? -/
namespace LW
open MP
/-- draws in a comprehension -/
theorem compL_draw {f : CV → Sto → R (Option CV)} {xs : List CV} {st : Sto} {p b d : Nat} {w : Pot} {Z : Q2 → Prop} (ok : OkPot b w)
    (h : ∀ x ∈ xs, ∀ b' w, OkPot b' w → b' ≤ b + d * xs.length → ∃ q w2, f x (st.set p (potO w)) = .ok (some (nm q)) (st.set p (potO w2)) ∧ OkPot (b' + d) w2 ∧ Z q) :
    ∃ (qs : List Q2) (w' : Pot), compL f xs (st.set p (potO w)) = .ok (qs.map nm) (st.set p (potO w')) ∧ OkPot (b + d * xs.length) w' ∧ qs.length = xs.length ∧ ∀ q ∈ qs, Z q := by
  obtain ⟨ys, s', e, qs, w', rfl, rfl, ok', l, z⟩ := compL_inv (f := f) (xs := xs) (st := st.set p (potO w)) (fun i acc s => ∃ (qs : List Q2) (w : Pot), acc = qs.map nm ∧ s = st.set p (potO w) ∧ OkPot (b + d * i) w ∧ qs.length = i ∧ ∀ q ∈ qs, Z q)
    ⟨[], w, rfl, rfl, by simpa using ok, rfl, fun q h => by cases h⟩ fun i x acc s hx hi => by
      obtain ⟨qs, w, rfl, rfl, ok, l, z⟩ := hi
      have il := (List.getElem?_eq_some_iff.mp hx).1
      have dl : d * i ≤ d * xs.length := Nat.mul_le_mul_left d (by omega)
      obtain ⟨q, w2, e, ok2, zq⟩ := h x (List.mem_of_getElem? hx) (b + d * i) w ok (by omega)
      refine ⟨_, _, e, qs ++ [q], w2, by simp, rfl, ok2.mono (by rw [Nat.mul_succ]; omega), by simp [l], fun r hr => ?_⟩
      rw [List.mem_append] at hr
      rcases hr with hr | hr
      · exact z r hr
      · rw [List.mem_singleton.mp hr]; exact zq
  exact ⟨qs, w', e, ok', l, z⟩
theorem pairs_nm (qs : List Q2) : pairsI (qs.map nm) = some qs := by
  induction qs with
  | nil => rfl
  | cons q r ih =>
    rw [List.map_cons]
    show (pairsI (r.map nm)).map _ = _
    rw [ih]
    rfl
theorem sorted_nm (st : Sto) (qs : List Q2) : ∃ ps : List Q2, bSorted st (.lst (qs.map nm)) = some (.lst (ps.map nm)) ∧ ps.Perm qs := by
  cases qs with
  | nil => exact ⟨[], by unfold bSorted; simp, .nil⟩
  | cons q r =>
    refine ⟨(q :: r).mergeSort lexLe, ?_, List.mergeSort_perm ..⟩
    show (match intsOf ((q :: r).map nm) with
      | some ns => some (CV.lst ((ns.mergeSort fun a b => decide (a ≤ b)).map .int))
      | none => (pairsI ((q :: r).map nm)).map fun (ps : List (Int × Int)) => CV.lst ((ps.mergeSort lexLe).map fun (p : Int × Int) => CV.tup [.int p.1, .int p.2])) = _
    rw [pairs_nm]
    rfl
theorem some_perm {ys zs : List CV} {qs : List Q2} (h : (ys ++ zs).Perm (qs.map nm)) (l : ys.length = qs.length) : ∃ ps : List Q2, ys = ps.map nm ∧ ps.Perm qs := by
  have hz : zs = [] := by
    have := h.length_eq
    rw [List.length_append, List.length_map] at this
    exact List.length_eq_zero_iff.mp (by omega)
  subst hz
  rw [List.append_nil] at h
  have inj : ∀ a b : Q2, nm a = nm b → a = b := fun a b e => by
    simp [nm] at e
    exact Prod.ext e.1 e.2
  have back : ∀ q : Q2, (match nm q with | .tup [.int o, .int u] => (o, u) | _ => (0, 0)) = q := fun q => rfl
  refine ⟨ys.map fun v => match v with | .tup [.int o, .int u] => (o, u) | _ => (0, 0), ?_, ?_⟩
  · rw [List.map_map]
    refine (List.map_id' ys).symm.trans (List.map_congr_left fun v hv => ?_)
    obtain ⟨q, _, rfl⟩ := List.mem_map.mp (h.subset hv)
    rfl
  · have := h.map fun v => match v with | .tup [.int o, .int u] => (o, u) | _ => (0, 0)
    rw [List.map_map] at this
    refine this.trans (List.Perm.of_eq ?_)
    refine (List.map_congr_left fun q _ => ?_).trans (List.map_id' qs)
    rfl
/-- what judged tells, for the law -/
theorem judged_say {L : Lore} (ok : OkLore L) (hl : L.steps.length ≤ 30) {v : CV} (J : Judged L v) : (∃ t, v = .tup [.str wSound, t] ∧ Sound L) ∨ ∃ l, v = .tup [.str wBroken, lotV l] ∧ BadLot L l := by
  cases J with
  | sound h0 h => exact .inl ⟨_, rfl, ok, h0, h⟩
  | endless h0 => exact .inr ⟨_, rfl, endless_bad ok h0⟩
  | broken h0 h xs s bk hz => exact .inr ⟨_, rfl, lotB_bad ok hl h bk hz⟩
theorem judged_sound {L : Lore} (S : Sound L) {v : CV} (J : Judged L v) : ∃ t, v = .tup [.str wSound, t] := by
  cases J with
  | sound h0 h => exact ⟨_, rfl⟩
  | endless h0 => have := S.h0; omega
  | broken h0 h => have := S.le; omega
end LW

set_option linter.all false
set_option maxRecDepth 100000
/-! The law is right. -/
namespace LW
open MP
end LW
end V1_text

section V2_text
set_option linter.all false
set_option maxRecDepth 100000
/-! The law's own worths. -/
namespace LW
open MP
-- BLOCK
theorem law_space_ok (n : Nat) (hn : 1 ≤ n) (q : Q2) (h : Num q) (hs : q.2.natAbs < 2 ^ 64) (st : Sto) : sem prog n f__law_space [nm q] st = .ok (.int (spc q)) st := by
  rw [sem_call (d := d__law_space) (by omega) rfl rfl]
  have e := spc_eq h
  have dv : divOk q.2 = true := divOk_small h.up (by have := h.up; omega)
  have z := Int.ediv_mul_add_emod q.1 q.2
  have r0 := Int.emod_nonneg q.1 (show q.2 ≠ 0 by have := h.up; omega)
  have key : (2 * (q.1 / q.2) + if q.1 / q.2 * q.2 < q.1 then 1 else 0) = (spc q : Int) := by
    rw [e]
    unfold spcI
    congr 1
    by_cases hp : 0 < q.1 % q.2
    · rw [if_pos hp, if_pos (by omega)]
    · rw [if_neg hp, if_neg (by omega)]
  have i0 : ∀ s, item s (nm q) (.int 0) = some (.int q.1) := fun s => rfl
  have i1 : ∀ s, item s (nm q) (.int 1) = some (.int q.2) := fun s => rfl
  have m1 : mulOk 2 (q.1 / q.2) = true := mulOk_l (by omega) (by omega)
  have m2 : mulOk (q.1 / q.2) q.2 = true := mulOk_r (by have := h.up; omega) (by have := h.up; omega)
  simp [d__law_space, b__law_space, i0, i1, dv, m1, m2, key]
/-- the last step within -/
def lastW (xs : List Step) (s : Nat) : Option Nat := ((xs.filter fun t => decide (spot t ≤ s)).map fun t => t.2.2).getLast?
theorem lastW_cons {a : Step} {r : List Step} {s : Nat} (h : spot a ≤ s) : lastW (a :: r) s = some ((lastW r s).getD a.2.2) := by
  unfold lastW
  rw [List.filter_cons, if_pos (by simpa using h), List.map_cons, List.getLast?_cons]
theorem lastW_skip {a : Step} {r : List Step} {s : Nat} (h : s < spot a) : lastW (a :: r) s = lastW r s := by
  unfold lastW
  rw [List.filter_cons, if_neg (by simp; omega)]
theorem lastW_none {r : List Step} {s : Nat} (h : ∀ t ∈ r, s < spot t) : lastW r s = none := by
  unfold lastW
  rw [List.filter_eq_nil_iff.mpr fun t ht => by have := h t ht; simp; omega]
  rfl
theorem look_cons {a : Step} {r : List Step} {s : Nat} : look (a :: r) s = if spot a = s then some a.2.2 else look r s := by
  unfold look
  rw [List.find?_cons]
  by_cases h : spot a = s
  · have e : (spot a == s) = true := by simpa using h
    rw [if_pos h, e]
    rfl
  · have e : (spot a == s) = false := by simpa using h
    rw [if_neg h, e]
theorem lastW_step : ∀ {xs : List Step} (up : xs.Pairwise fun a b => spot a < spot b) (s : Nat), lastW xs (s + 1) = (look xs (s + 1)).or (lastW xs s)
  | [], _, s => rfl
  | a :: r, up, s => by
    rw [List.pairwise_cons] at up
    have ih := lastW_step up.2 s
    rw [look_cons]
    by_cases h1 : spot a ≤ s
    · rw [lastW_cons (by omega), lastW_cons h1, if_neg (by omega), ih]
      cases look r (s + 1) <;> simp
    · by_cases h2 : spot a = s + 1
      · rw [if_pos h2, lastW_cons (by omega), lastW_none fun t ht => by have := up.1 t ht; omega]
        rfl
      · rw [if_neg h2, lastW_skip (by omega), lastW_skip (by omega), ih]
theorem lastW_rec {xs : List Step} (up : xs.Pairwise fun a b => spot a < spot b) (h1 : ∀ t ∈ xs, 1 ≤ spot t) : ∀ s, (lastW xs s).getD 0 = wRec xs s
  | 0 => by
    rw [lastW_none fun t ht => by have := h1 t ht; omega]
    rfl
  | s + 1 => by
    rw [lastW_step up s]
    show _ = (look xs (s + 1)).getD (wRec xs s)
    rw [← lastW_rec up h1 s]
    cases look xs (s + 1) <;> rfl
theorem spot_pos {L : Lore} (ok : OkLore L) {t : Step} (h : t ∈ L.steps) : 1 ≤ spot t := by
  have lo := (ok.st t h).lo
  unfold low at lo
  unfold spot
  split at lo <;> simp_all <;> omega
-- BLOCK
theorem law_at_ok (n : Nat) (hn : 2 ≤ n) (L : Lore) (ok : OkLore L) (hl : L.steps.length ≤ 1000) (s : Nat) (st : Sto) : sem prog n f__law_at [loreV L, .int s] st = .ok (.int (wRec L.steps s)) st := by
  rw [sem_call (d := d__law_at) (by omega) rfl rfl]
  have e1 := lore_steps L
  have e2 := fun t s => law_spot_ok (n - 1) (by omega) t s
  have r := lastW_rec ok.up (fun t ht => spot_pos ok ht) s
  simp only [wSteps] at e1
  simp only [d__law_at, b__law_at]
  rw [y_cons]
  simp [-y_cons, e1]
  rw [compL_fmL stepV (fun t => if spot t ≤ s then some (.int t.2.2) else none) fun t ht => by
    have i2 : ∀ st, item st (stepV t) (.int 2) = some (.int t.2.2) := fun st => rfl
    by_cases h : spot t ≤ s
    · have h' : (spot t : Int) ≤ s := by omega
      simp [e2, i2, h, h']
    · have h' : ¬ (spot t : Int) ≤ s := by omega
      simp [e2, i2, h, h']]
  have fe : (L.steps.filterMap fun t => if spot t ≤ s then some (CV.int t.2.2) else none) = ((L.steps.filter fun t => decide (spot t ≤ s)).map fun t => CV.int t.2.2) := by
    induction L.steps with
    | nil => rfl
    | cons a r ih =>
      rw [List.filterMap_cons, List.filter_cons]
      by_cases h : spot a ≤ s
      · simp [h, ih]
      · simp [h, ih]
  rw [fe]
  simp [-y_cons, show L.steps.length ≤ 16000000 by omega]
  unfold lastW at r
  generalize hF : L.steps.filter (fun t => decide (spot t ≤ s)) = F at *
  rcases List.eq_nil_or_concat F with rfl | ⟨G, z, rfl⟩
  · have r : 0 = wRec L.steps s := r
    rw [y_cons]
    simp [-y_cons, ← r, eqv]
  · have r : z.2.2 = wRec L.steps s := by simpa using r
    have s0 : 0 < s := by
      have : z ∈ L.steps.filter fun t => decide (spot t ≤ s) := by rw [hF]; simp
      have h2 := List.mem_filter.mp this
      have h3 := spot_pos ok h2.1
      have := of_decide_eq_true h2.2
      omega
    have s0' : (0 : Int) < s := by omega
    rw [y_cons]
    simp [-y_cons, s0, s0', eqv]
    rw [r]
-- BLOCK
theorem law_worth_ok (n : Nat) (hn : 3 ≤ n) (L : Lore) (ok : OkLore L) (hl : L.steps.length ≤ 1000) (q : Q2) (h : Num q) (hs : q.2.natAbs < 2 ^ 64) (st : Sto) : sem prog n f__law_worth [loreV L, nm q] st = .ok (.int (wAt L q)) st := by
  rw [sem_call (d := d__law_worth) (by omega) rfl rfl]
  have e1 := fun s => law_space_ok (n - 1) (by omega) q h hs s
  have e2 := fun s => law_at_ok (n - 1) (by omega) L ok hl (spc q) s
  simp [d__law_worth, b__law_worth, e1, e2, wAt]
-- BLOCK
theorem law_is_endless_ok (n : Nat) (hn : 3 ≤ n) (L : Lore) (ok : OkLore L) (hl : L.steps.length ≤ 1000) (st : Sto) : sem prog n f__law_is_endless [loreV L] st = .ok (.bl (decide (0 < wRec L.steps 1))) st := by
  rw [sem_call (d := d__law_is_endless) (by omega) rfl rfl]
  have e2 := fun s => law_at_ok (n - 1) (by omega) L ok hl 1 s
  simp at e2
  simp [d__law_is_endless, b__law_is_endless, e2]
-- BLOCK
theorem law_worths_ok (n : Nat) (hn : 3 ≤ n) (L : Lore) (ok : OkLore L) (hl : L.steps.length ≤ 1000) (st : Sto) : sem prog n f__law_worths [loreV L] st = .ok (.lst (worthsL L)) st := by
  rw [sem_call (d := d__law_worths) (by omega) rfl rfl]
  have e0 := lore_box L
  simp only [wBox] at e0
  have b2 := ok.b2
  have e2 := fun k s => law_at_ok (n - 1) (by omega) L ok hl k s
  have m1 : mulOk 2 (L.box : Int) = true := mulOk_l (by omega) (by omega)
  have rg : ∀ s, rngR (.int 0) (.int (2 * (L.box : Int) + 1)) s = .ok ⟨rangeL 0 (2 * L.box + 1), none⟩ s := fun s => rngR_ok (rngOk_of (by omega) (by omega) (by omega) (by omega))
  simp [d__law_worths, b__law_worths, e0, m1, rg]
  have rr : rangeL 0 (2 * (L.box : Int) + 1) = (List.range (2 * L.box + 1)).map fun (i : Nat) => CV.int i := by
    rw [range_ints, List.map_map, show (2 * (L.box : Int) + 1 - 0).toNat = 2 * L.box + 1 by omega]
    apply List.map_congr_left
    intro i _
    simp
  rw [rr, compL_mapL (fun (i : Nat) => CV.int i) (fun (i : Nat) => CV.int (wRec L.steps i)) fun i hi => by simp [e2 i]]
  have lo : lenOk (2 * (L.box : Int) + 1).toNat = true := lenOk_le (by omega)
  simp [lo, worthsL]
end LW
end V2_text

section V3_text
set_option linter.all false
set_option maxRecDepth 100000
/-! Rooms filled by parts. -/
namespace LW
open MP
/-- the most that so many parts are worth, by all ways to cut them up -/
def fl (w : Nat → Int) : Nat → List Int
  | 0 => [0]
  | f + 1 => fl w f ++ [match (List.range (f + 1)).map fun i => (fl w f).getD (f - i) 0 + w (i + 1) with
    | [] => 0
    | x :: xs => maxL x xs]
theorem fl_len (w : Nat → Int) : ∀ f, (fl w f).length = f + 1
  | 0 => rfl
  | f + 1 => by unfold fl; rw [List.length_append, fl_len w f]; rfl
/-- the last of them -/
def fw (w : Nat → Int) (f : Nat) : Int := (fl w f).getD f 0
theorem fl_at (w : Nat → Int) : ∀ {f i : Nat}, i ≤ f → (fl w f).getD i 0 = fw w i
  | 0, i, h => by
    have : i = 0 := by omega
    subst this
    rfl
  | f + 1, i, h => by
    by_cases e : i = f + 1
    · subst e; rfl
    · have ih := fl_at w (f := f) (i := i) (by omega)
      rw [← ih]
      have l := fl_len w f
      conv => lhs; unfold fl
      rw [List.getD_eq_getElem?_getD, List.getElem?_append_left (by omega), List.getD_eq_getElem?_getD]
theorem fw_zero (w : Nat → Int) : fw w 0 = 0 := rfl
theorem fw_succ (w : Nat → Int) (f : Nat) : ∃ x xs, ((List.range (f + 1)).map fun i => fw w (f - i) + w (i + 1)) = x :: xs ∧ fw w (f + 1) = maxL x xs := by
  have e : ((List.range (f + 1)).map fun i => (fl w f).getD (f - i) 0 + w (i + 1)) = (List.range (f + 1)).map fun i => fw w (f - i) + w (i + 1) := List.map_congr_left fun i _ => by rw [fl_at w (by omega)]
  have l := fl_len w f
  have h : fw w (f + 1) = match (List.range (f + 1)).map fun i => fw w (f - i) + w (i + 1) with
    | [] => 0
    | x :: xs => maxL x xs := by
    rw [← e]
    unfold fw
    conv => lhs; unfold fl
    rw [List.getD_eq_getElem?_getD, List.getElem?_append_right (by omega), l, Nat.sub_self]
    rfl
  cases hl : (List.range (f + 1)).map fun i => fw w (f - i) + w (i + 1) with
  | nil =>
    have := congrArg List.length hl
    simp at this
  | cons x xs =>
    rw [hl] at h
    exact ⟨x, xs, rfl, h⟩
theorem fw_ge (w : Nat → Int) {f i : Nat} (h : i ≤ f) : fw w (f - i) + w (i + 1) ≤ fw w (f + 1) := by
  obtain ⟨x, xs, e, k⟩ := fw_succ w f
  have hm : fw w (f - i) + w (i + 1) ∈ x :: xs := by
    rw [← e]
    exact List.mem_map.mpr ⟨i, List.mem_range.mpr (by omega), rfl⟩
  have g := maxL_ge xs x
  rw [k]
  rcases List.mem_cons.mp hm with e | hm
  · rw [e]; exact g.1
  · exact g.2 _ hm
theorem fw_why (w : Nat → Int) (f : Nat) : ∃ i, i ≤ f ∧ fw w (f + 1) = fw w (f - i) + w (i + 1) := by
  obtain ⟨x, xs, e, k⟩ := fw_succ w f
  have hm : maxL x xs ∈ x :: xs := by
    rcases maxL_mem xs x with h | h
    · rw [h]; exact List.mem_cons_self ..
    · exact List.mem_cons_of_mem _ h
  rw [← e] at hm
  obtain ⟨i, hi, q⟩ := List.mem_map.mp hm
  have := List.mem_range.mp hi
  exact ⟨i, by omega, by rw [k, ← q]⟩
theorem fw_nn {w : Nat → Int} (hw : ∀ i, 0 ≤ w i) : ∀ f, 0 ≤ fw w f
  | 0 => Int.le_refl _
  | f + 1 => by
    obtain ⟨i, hi, e⟩ := fw_why w f
    have := fw_nn hw (f - i)
    have := hw (i + 1)
    omega
theorem fw_mono {w : Nat → Int} (hw : ∀ i, 0 ≤ w i) {a b : Nat} (h : a ≤ b) : fw w a ≤ fw w b := by
  by_cases e : a = b
  · subst e; exact Int.le_refl _
  · obtain ⟨f, rfl⟩ : ∃ f, b = f + 1 := ⟨b - 1, by omega⟩
    have := fw_ge w (f := f) (i := f - a) (by omega)
    rw [show f - (f - a) = a by omega] at this
    have := hw (f - a + 1)
    omega
/-- cut into any parts it is worth no more -/
theorem fw_sum {w : Nat → Int} (hw : ∀ i, 0 ≤ w i) : ∀ (ps : List Nat), (∀ p ∈ ps, 1 ≤ p) → (ps.map w).sum ≤ fw w ps.sum
  | [], _ => Int.le_refl _
  | p :: r, h => by
    have ih := fw_sum hw r fun q hq => h q (List.mem_cons_of_mem _ hq)
    have p1 := h p (List.mem_cons_self ..)
    rw [List.map_cons, List.sum_cons, List.sum_cons]
    have := fw_ge w (f := p + r.sum - 1) (i := p - 1) (by omega)
    rw [show p + r.sum - 1 - (p - 1) = r.sum by omega, show p - 1 + 1 = p by omega, show p + r.sum - 1 + 1 = p + r.sum by omega] at this
    omega
/-- and by some parts it is worth that -/
theorem fw_cut (w : Nat → Int) : ∀ (f : Nat), ∃ ps : List Nat, (∀ p ∈ ps, 1 ≤ p) ∧ ps.sum = f ∧ (ps.map w).sum = fw w f := by
  intro f
  induction f using Nat.strongRecOn with
  | _ f ih =>
    cases f with
    | zero => exact ⟨[], fun p h => (by cases h), rfl, rfl⟩
    | succ f =>
      obtain ⟨i, hi, e⟩ := fw_why w f
      obtain ⟨ps, h1, h2, h3⟩ := ih (f - i) (by omega)
      refine ⟨(i + 1) :: ps, fun p hp => ?_, ?_, ?_⟩
      · rcases List.mem_cons.mp hp with rfl | hp
        · omega
        · exact h1 p hp
      · rw [List.sum_cons, h2]; omega
      · rw [List.map_cons, List.sum_cons, h3, e]; omega
theorem spcI_is {q : Q2} {N D : Int} (h : 0 < q.2) (hD : 0 < D) (i : Is q N D) : spcI q = spcI (N, D) := by
  unfold Is at i
  have d1 : q.1 * D / (q.2 * D) = q.1 / q.2 := Int.mul_ediv_mul_of_pos_left _ _ hD
  have d2 : N * q.2 / (D * q.2) = N / D := Int.mul_ediv_mul_of_pos_left _ _ h
  have e : q.2 * D = D * q.2 := Int.mul_comm ..
  have dd : q.1 / q.2 = N / D := by rw [← d1, ← d2, i, e]
  have m1 := Int.ediv_mul_add_emod q.1 q.2
  have m2 := Int.ediv_mul_add_emod N D
  have r : q.1 % q.2 * D = N % D * q.2 := by
    have a1 : q.1 % q.2 = q.1 - q.1 / q.2 * q.2 := by omega
    have a2 : N % D = N - N / D * D := by omega
    rw [a1, a2, Int.sub_mul, Int.sub_mul, i, dd, Int.mul_assoc, Int.mul_assoc, e]
  unfold spcI
  simp only
  rw [dd]
  congr 1
  by_cases hp : 0 < q.1 % q.2
  · have := Int.mul_pos hp hD
    rw [r] at this
    rw [if_pos hp, if_pos (Int.pos_of_mul_pos_left this (by omega))]
  · have n1 := Int.emod_nonneg q.1 (show q.2 ≠ 0 by omega)
    have z : q.1 % q.2 = 0 := by omega
    rw [z, Int.zero_mul] at r
    have : N % D = 0 := by
      rcases Int.mul_eq_zero.mp r.symm with h1 | h1
      · exact h1
      · omega
    rw [if_neg hp, if_neg (by omega)]
def part24 (p : Nat) : Q2 := red p 24
theorem part24_is (p : Nat) : Is (part24 p) p 24 := Is.cut (by decide) rfl
theorem part24_num (p : Nat) : Num (part24 p) := red_num (by omega) (by decide)
/-- what a part is worth -/
def w24 (L : Lore) (p : Nat) : Int := wAt L (part24 p)
theorem sum_cast (ps : List Nat) : (ps.map fun (p : Nat) => (p : Int)).sum = (ps.sum : Nat) := by
  induction ps with
  | nil => rfl
  | cons p r ih => rw [List.map_cons, List.sum_cons, List.sum_cons, ih]; omega
theorem fw_le_tab {L : Lore} (ok : OkLore L) (h0 : wRec L.steps 1 = 0) (f : Nat) : fw (w24 L) f ≤ tab (trueS L) (spc (part24 f)) := by
  obtain ⟨ps, h1, h2, h3⟩ := fw_cut (w24 L) f
  have i := Is.sum (D := 24) part24 (fun (p : Nat) => (p : Int)) ps fun p _ => ⟨part24_num p, part24_is p⟩
  rw [sum_cast, h2] at i
  have n1 := sumQ_num (ps.map part24) fun q hq => by
    obtain ⟨p, _, rfl⟩ := List.mem_map.mp hq
    exact part24_num p
  have e : spc (sumQ (ps.map part24)) = spc (part24 f) := by
    unfold spc
    rw [spcI_is n1.up (by decide) i, spcI_is (part24_num f).up (by decide) (part24_is f)]
  have := table_lot ok h0 (ps.map part24) (0, 1) 0 num0 (fun q hq => by
    obtain ⟨p, _, rfl⟩ := List.mem_map.mp hq
    exact part24_num p) (by
    have : spc ((0, 1) : Q2) = 0 := by decide
    rw [this, tab_zero]; exact Int.le_refl _)
  have ws : wsum L (ps.map part24) = (ps.map (w24 L)).sum := by unfold wsum w24; rw [List.map_map]; rfl
  rw [ws, h3] at this
  unfold sumQ at e
  rw [e] at this
  omega
theorem back_end {L : Lore} (ok : OkLore L) (h0 : wRec L.steps 1 = 0) (top : Nat) : ∀ (s : Nat) (xs : List Step), Back L (tab (trueS L)) top s xs → ∃ s' xs', Back L (tab (trueS L)) top s' xs' ∧ tab (trueS L) s' = 0 := by
  intro s
  induction s using Nat.strongRecOn with
  | _ s ih =>
    intro xs bk
    cases s with
    | zero => exact ⟨0, xs, bk, rfl⟩
    | succ s =>
      have sp := trueS_spot ok h0
      rcases tab_why (trueS L) (fun p hp => (sp p hp).1) s with e | ⟨p, hp, hr, e⟩
      · exact ih s (by omega) xs (bk.less e)
      · obtain ⟨t, ht, rfl⟩ := List.mem_map.mp hp
        have hm := (List.mem_filter.mp ht).1
        have h2 := (sp _ hp).1
        have lt := restB_lt (s := ((s + 1 : Nat) : Int)) (o := spot t) (by simp only at h2; omega)
        exact ih _ (by simp only at hr; omega) _ (bk.step hm h2 hr e.symm)
/-- the table's worth, by steps -/
theorem tab_cut {L : Lore} (ok : OkLore L) (h0 : wRec L.steps 1 = 0) (top : Nat) : ∃ xs : List Step, (∀ t ∈ xs, t ∈ L.steps) ∧ (xs.map fun t => (t.2.2 : Int)).sum = tab (trueS L) top ∧ cmb xs 0 ≤ top := by
  obtain ⟨s, xs, bk, z⟩ := back_end ok h0 top top [] (Back.start L _ top)
  have := bk.sum
  exact ⟨xs, bk.mem, by omega, bk.fit 0 (by omega)⟩
end LW
end V3_text

section V4_text
set_option linter.all false
set_option maxRecDepth 100000
/-! Texts written; a worth exchanged. -/
namespace LW
open MP
theorem part_str {x : List Nat} (h : x.length ≤ 16000000) : partTxt (.str x) = some x := by
  unfold partTxt
  simp [h]
theorem part_nat (k : Nat) (h : k ≤ 999999999) : partTxt (.int k) = some (digitsOf k) := by
  have s := str_nat k (Nat.lt_of_le_of_lt h (Nat.lt_of_lt_of_le (show 999999999 < 2 ^ 30 by decide) (Nat.pow_le_pow_right (by decide) (by decide))))
  unfold bStr at s
  unfold partTxt
  dsimp only at s ⊢
  split at s
  · rename_i hh
    rw [if_pos hh]
    cases s
    rfl
  · cases s
theorem concat_cons {v : CV} {r : List CV} {acc x : List Nat} (h : partTxt v = some x) (hl : acc.length + x.length ≤ 16000000) : concat (v :: r) acc = concat r (acc ++ x) := by
  show (partTxt v).bind _ = _
  rw [h]
  simp [hl]
theorem concat_two (w : List Nat) (hw : w.length ≤ 100) (k : Nat) (hk : k ≤ 999999999) : concat [.str w, .str [32], .int k] [] = some (lineN w k) := by
  have l := len9 hk
  rw [concat_cons (part_str (by omega)) (by simp; omega), concat_cons (part_str (by simp)) (by simp; omega), concat_cons (part_nat k hk) (by simp; omega)]
  simp [concat, lineN]
theorem concat_step (w : List Nat) (hw : w.length ≤ 100) (k j : Nat) (hk : k ≤ 999999999) (hj : j ≤ 999999999) : concat [.str w, .str [32], .int k, .str [32], .int j] [] = some (w ++ [32] ++ digitsOf k ++ [32] ++ digitsOf j) := by
  have l := len9 hk
  have l2 := len9 hj
  rw [concat_cons (part_str (by omega)) (by simp; omega), concat_cons (part_str (by simp)) (by simp; omega), concat_cons (part_nat k hk) (by simp; omega), concat_cons (part_str (by simp)) (by simp; omega), concat_cons (part_nat j hj) (by simp; omega)]
  simp [concat]
theorem step_p9 {L : Lore} (ok : OkLore L) {t : Step} (ht : t ∈ L.steps) : t.2.1 ≤ 999999999 := by
  have := (ok.st t ht).hi
  have : low t ≤ 1 := by unfold low; split <;> omega
  have := ok.b2
  omega
-- BLOCK
theorem text_by_ok (n : Nat) (hn : 1 ≤ n) (L : Lore) (ok : OkLore L) (st : Sto) : sem prog n f_text_by [.int L.box, .int L.bound, .lst (L.steps.map stepV)] st = .ok (.str (textL L)) st := by
  rw [sem_call (d := d_text_by) (by omega) rfl rfl]
  have sl := steps_len ok
  have c2 := ok.c2
  have b2 := ok.b2
  have k1 := concat_two wBox (by decide) L.box (by omega)
  have k2 := concat_two wBound (by decide) L.bound (by omega)
  simp only [wBox, wBound] at k1 k2
  simp only [d_text_by, b_text_by]
  rw [y_cons]
  simp [-y_cons, k1, k2]
  rw [y_cons]
  simp [-y_cons]
  rw [compL_mapL stepV (fun t => .str (lineS t)) fun t ht => by
    have k3 := concat_step (word t.1) (by have := word_len t.1; omega) t.2.1 t.2.2 (step_p9 ok ht) (ok.st t ht).w
    simp [stepV, k3, lineS]]
  have el : (CV.str (lineN [98, 111, 120] L.box) :: CV.str (lineN [98, 111, 117, 110, 100] L.bound) :: L.steps.map fun t => CV.str (lineS t)) = (linesL L).map CV.str := by
    simp [linesL, wBox, wBound]
  have J := join_strs st [10] (linesL L) (by
    have sum := sum_len (linesL L) 30 (fun x hx => line_len ok x hx)
    have : (linesL L).length = L.steps.length + 2 := by simp [linesL]
    simp
    omega)
  rw [← el] at J
  simp [show L.steps.length ≤ 16000000 by omega, show L.steps.length + 1 + 1 ≤ 16000000 by omega, J]
  rfl
/-- a step with another worth -/
def putW (L : Lore) (i w : Nat) : Lore := ⟨L.box, L.bound, L.steps.take i ++ (match L.steps[i]? with
  | some t => (t.1, t.2.1, w) :: L.steps.drop (i + 1)
  | none => [])⟩
theorem putW_steps {L : Lore} {i : Nat} {t : Step} (h : L.steps[i]? = some t) (w : Nat) : (putW L i w).steps = L.steps.take i ++ (t.1, t.2.1, w) :: L.steps.drop (i + 1) := by
  unfold putW
  dsimp only
  rw [h]
theorem steps_at {L : Lore} {i : Nat} {t : Step} (h : L.steps[i]? = some t) : L.steps = L.steps.take i ++ t :: L.steps.drop (i + 1) := by
  obtain ⟨hi, e⟩ := List.getElem?_eq_some_iff.mp h
  rw [← e, List.getElem_cons_drop, List.take_append_drop]
theorem putW_mem {L : Lore} {i : Nat} {t : Step} (h : L.steps[i]? = some t) (w : Nat) {u : Step} (hu : u ∈ (putW L i w).steps) : ∃ v ∈ L.steps, spot u = spot v ∧ u.1 = v.1 ∧ u.2.1 = v.2.1 ∧ (u = v ∨ (v = t ∧ u.2.2 = w)) := by
  rw [putW_steps h] at hu
  rcases List.mem_append.mp hu with hu | hu
  · exact ⟨u, List.mem_of_mem_take hu, rfl, rfl, rfl, .inl rfl⟩
  · rcases List.mem_cons.mp hu with rfl | hu
    · exact ⟨t, List.mem_of_getElem? h, rfl, rfl, rfl, .inr ⟨rfl, rfl⟩⟩
    · exact ⟨u, List.mem_of_mem_drop hu, rfl, rfl, rfl, .inl rfl⟩
theorem putW_ok {L : Lore} (ok : OkLore L) {i : Nat} {t : Step} (h : L.steps[i]? = some t) {w : Nat} (hw : w ≤ 999999999) : OkLore (putW L i w) := by
  refine ⟨ok.b1, ok.b2, ok.c1, ok.c2, fun u hu => ?_, ?_⟩
  · obtain ⟨v, hv, e1, e2, e3, e4⟩ := putW_mem h w hu
    have o := ok.st v hv
    refine ⟨?_, ?_, ?_⟩
    · have := o.lo; unfold low at this ⊢; rw [e2, e3]; exact this
    · have := o.hi; show u.2.1 < L.box + low u; unfold low at this ⊢; rw [e2, e3]; exact this
    · rcases e4 with rfl | ⟨_, e⟩
      · exact o.w
      · omega
  · have up := ok.up
    rw [steps_at h] at up
    rw [putW_steps h]
    rw [List.pairwise_append] at up ⊢
    obtain ⟨u1, u2, u3⟩ := up
    rw [List.pairwise_cons] at u2 ⊢
    refine ⟨u1, ⟨fun v hv => u2.1 v hv, u2.2⟩, fun a ha b hb => ?_⟩
    rcases List.mem_cons.mp hb with rfl | hb
    · exact u3 a ha t (List.mem_cons_self ..)
    · exact u3 a ha b (List.mem_cons_of_mem _ hb)
-- BLOCK
theorem with_worth_ok (n : Nat) (hn : 5 ≤ n) (L : Lore) (ok : OkLore L) (i : Nat) (t : Step) (hi : L.steps[i]? = some t) (w : Nat) (hw : w ≤ 999999999) (st : Sto) : sem prog n f_Rule_with_worth [ruleV L, .int i, .int w] st = .ok (ruleV (putW L i w)) st := by
  rw [sem_call (d := d_Rule_with_worth) (by omega) rfl rfl]
  have il := (List.getElem?_eq_some_iff.mp hi).1
  have sl := steps_len ok
  have at_ : ∀ F s, attrOf prog F (ruleV L) a_own_steps s = .ok (.tup (L.steps.map stepV)) s := fun F s => attr_rcd rfl rfl
  have i1 : ∀ s, item s (.tup (L.steps.map stepV)) (.int i) = some (.tup [.str (word t.1), .int t.2.1, .int t.2.2]) := fun s => by rw [i_tup, atN, List.getElem?_map, hi]; rfl
  have e1 := fun s => is_int3 (n - 1) (by omega) (i : Int) 0 ((L.steps.length : Int) - 1) s
  have e2 := fun s => is_int3 (n - 1) (by omega) (w : Int) 0 999999999 s
  have c1 : (decide ((0 : Int) ≤ i) && decide ((i : Int) ≤ (L.steps.length : Int) - 1)) = true := by simp; omega
  have c2 : (decide ((0 : Int) ≤ w) && decide ((w : Int) ≤ 999999999)) = true := by simp; omega
  rw [c1] at e1
  rw [c2] at e2
  have t1 : cutL (L.steps.map stepV) none (some (i : Int)) = (L.steps.take i).map stepV := by rw [cut_to _ _ (by omega)]; simp [List.map_take]
  have t2 : cutL (L.steps.map stepV) (some ((i : Int) + 1)) none = (L.steps.drop (i + 1)).map stepV := by
    rw [cut_from _ _ (by omega), show ((i : Int) + 1).toNat = i + 1 by omega, List.map_drop]
  have k := putW_ok ok hi hw
  have e3 := fun s => text_by_ok (n - 1) (by omega) (putW L i w) k s
  have e4 := fun s => Rule_new (n - 1) (by omega) (putW L i w) k s
  rw [putW_steps hi] at e3
  rw [show (putW L i w).box = L.box from rfl, show (putW L i w).bound = L.bound from rfl] at e3
  simp only [d_Rule_with_worth, b_Rule_with_worth]
  rw [y_cons]
  simp [-y_cons, at_, e1]
  rw [y_cons]
  simp [-y_cons, e2]
  rw [y_cons]
  simp [-y_cons, at_, i1]
  rw [y_cons]
  simp [-y_cons, at_, sliced, t1, t2]
  have le : (L.steps.take i).length + ((L.steps.drop (i + 1)).length + 1) ≤ 16000000 := by simp; omega
  simp only [List.length_take, List.length_drop] at le
  have e5 : (List.take i (List.map stepV L.steps) ++ CV.tup [CV.str (word t.1), CV.int t.2.1, CV.int w] :: List.drop (i + 1) (List.map stepV L.steps)) = (L.steps.take i ++ (t.1, t.2.1, w) :: L.steps.drop (i + 1)).map stepV := by simp [stepV]
  simp [le]
  rw [e5]
  simp [rule_obox, rule_obound]
  have e6 := e3 st
  simp at e6
  simp [e6, e4]
end LW
end V4_text

section V5_text
set_option linter.all false
set_option maxRecDepth 100000
/-! Rules by numbers. -/
namespace LW
open MP
def stepsW (ws : List Nat) : Nat → List Step
  | 0 => []
  | k + 1 => stepsW ws k ++ if ws.getD (k + 1) 0 ≠ ws.getD k 0 then [stepAt (k + 1) (ws.getD (k + 1) 0)] else []
theorem stepsW_mem {ws : List Nat} : ∀ {k : Nat} {t : Step}, t ∈ stepsW ws k → ∃ s, 1 ≤ s ∧ s ≤ k ∧ t = stepAt s (ws.getD s 0)
  | 0, t, h => by cases h
  | k + 1, t, h => by
    rcases List.mem_append.mp h with h | h
    · obtain ⟨s, h1, h2, h3⟩ := stepsW_mem h
      exact ⟨s, h1, by omega, h3⟩
    · split at h
      · rw [List.mem_singleton] at h
        exact ⟨k + 1, by omega, by omega, h⟩
      · cases h
theorem stepsW_up (ws : List Nat) : ∀ k, (stepsW ws k).Pairwise fun a b => spot a < spot b
  | 0 => .nil
  | k + 1 => by
    unfold stepsW
    rw [List.pairwise_append]
    refine ⟨stepsW_up ws k, ?_, fun a ha b hb => ?_⟩
    · split
      · exact List.pairwise_singleton ..
      · exact .nil
    · obtain ⟨s, h1, h2, rfl⟩ := stepsW_mem ha
      split at hb
      · rw [List.mem_singleton] at hb
        subst hb
        rw [spot_at, spot_at]
        omega
      · cases hb
theorem stepsW_len (ws : List Nat) : ∀ k, (stepsW ws k).length ≤ k
  | 0 => Nat.le_refl _
  | k + 1 => by
    unfold stepsW
    have := stepsW_len ws k
    rw [List.length_append]
    split <;> simp <;> omega
theorem loreW_ok {box bound : Nat} {ws : List Nat} (b1 : 1 ≤ box) (b2 : box ≤ 60) (c1 : 1 ≤ bound) (c2 : bound ≤ 999999999) (hw : ∀ s, ws.getD s 0 ≤ 999999999) : OkLore ⟨box, bound, stepsW ws (2 * box)⟩ := by
  refine ⟨b1, b2, c1, c2, fun t ht => ?_, stepsW_up ws _⟩
  obtain ⟨s, h1, h2, rfl⟩ := stepsW_mem ht
  exact ok_at h1 h2 (hw s)
-- BLOCK
theorem law_text_by_ok (n : Nat) (hn : 2 ≤ n) (box bound : Nat) (ws : List Nat) (l : Nat) (st : Sto) (hl : st[l]? = some (.lst (ws.map fun (w : Nat) => CV.int w))) (b1 : 1 ≤ box) (b2 : box ≤ 60) (c1 : 1 ≤ bound) (c2 : bound ≤ 999999999) (len : ws.length = 2 * box + 1) (hw : ∀ s, ws.getD s 0 ≤ 999999999) :
    sem prog n f__law_text_by [.int box, .int bound, .loc l] st = .ok (.str (textL ⟨box, bound, stepsW ws (2 * box)⟩)) st := by
  rw [sem_call (d := d__law_text_by) (by omega) rfl rfl]
  have ok := loreW_ok b1 b2 c1 c2 hw
  have e1 := fun s => law_text_ok (n - 1) (by omega) ⟨box, bound, stepsW ws (2 * box)⟩ ok s
  have m1 : mulOk 2 (box : Int) = true := mulOk_l (by omega) (by omega)
  have dv : divOk 2 = true := divOk_small (by decide) (by decide)
  simp only [d__law_text_by, b__law_text_by]
  rw [y_cons]
  simp [-y_cons]
  rw [y_cons]
  simp [-y_cons, m1, rngR_ok (rngOk_of (show (-1000000 : Int) ≤ 1 by omega) (show (2 * (box : Int) + 1) ≤ 1000000 by omega) (by omega) (by omega))]
  refine for_N (fun x => fin st x = _) (fun i env s => ∃ v4, env = [some (.int box), some (.int bound), some (.loc l), some (.loc st.length), v4] ∧ s = st ++ [.lst ((stepsW ws i).map stepV)]) ⟨none, rfl, rfl⟩ ?_ ?_
  · rintro i x env s hx ⟨v4, rfl, rfl⟩
    rw [range_at] at hx
    split at hx
    · rename_i hi
      cases hx
      have il : i + 1 ≤ 2 * box := by omega
      have hat : (st ++ [CO.lst ((stepsW ws i).map stepV)])[st.length]? = some (.lst ((stepsW ws i).map stepV)) := by simp
      have hlo : (st ++ [CO.lst ((stepsW ws i).map stepV)])[l]? = some (.lst (ws.map fun (w : Nat) => CV.int w)) := st_low hl
      have ec : (1 + (i : Int)) = ((i + 1 : Nat) : Int) := by omega
      have sl := stepsW_len ws i
      have at_ : ∀ j, j ≤ 2 * box → atI (ws.map fun (w : Nat) => CV.int w) (j : Int) = some (.int (ws.getD j 0 : Nat)) := fun j hj => by
        rw [atN, List.getElem?_map, List.getD_eq_getElem?_getD, List.getElem?_eq_getElem (by omega)]
        rfl
      have a1 := at_ (i + 1) il
      have a2 := at_ i (by omega)
      have wd : ∀ s, item s (.lst [.str [102, 114, 111, 109], .str [98, 101, 121, 111, 110, 100]]) (.int (((i : Int) + 1) % 2)) = some (.str (word (decide ((i + 1) % 2 = 1)))) := fun s => by
        rw [i_lst]
        by_cases h : (i + 1) % 2 = 1
        · rw [show ((i : Int) + 1) % 2 = 1 by omega]
          simp [h, word, wBeyond]
        · rw [show ((i : Int) + 1) % 2 = 0 by omega]
          simp [h, word, wFrom]
      have dd : ((i : Int) + 1) / 2 = (((i + 1) / 2 : Nat) : Int) := by omega
      rw [ec]
      simp at a1
      simp only [x_tvar, only_then, setV0, setVs_]
      rw [y_cons]
      by_cases h : ws.getD (i + 1) 0 = ws.getD i 0
      · have hs : stepsW ws (i + 1) = stepsW ws i := by
          conv => lhs; unfold stepsW
          rw [if_neg (by simpa using h), List.append_nil]
        simp only [List.getD_eq_getElem?_getD] at a1 a2 h
        rw [h] at a1
        refine ⟨_, st ++ [.lst ((stepsW ws i).map stepV)], ?_, some (.int (i + 1 : Nat)), rfl, by rw [hs]⟩
        simp [i_loc hlo, a1, a2]
      · have hs : stepsW ws (i + 1) = stepsW ws i ++ [stepAt (i + 1) (ws.getD (i + 1) 0)] := by
          conv => lhs; unfold stepsW
          rw [if_pos (by simpa using h)]
        refine ⟨_, st ++ [.lst ((stepsW ws (i + 1)).map stepV)], ?_, some (.int (i + 1 : Nat)), rfl, rfl⟩
        rw [hs]
        have ne : ¬ ((ws.getD (i + 1) 0 : Nat) : Int) = (ws.getD i 0 : Nat) := by omega
        simp only [List.getD_eq_getElem?_getD] at a1 a2 ne
        simp [i_loc hlo, a1, a2, ne, wd, dv, l_loc hat, append_loc hat (by simp; omega), stepAt, stepV]
    · cases hx
  · rintro env s ⟨v4, rfl, rfl⟩
    have e : (rangeL 1 (2 * (box : Int) + 1)).length = 2 * box := by rw [range_len]; omega
    rw [e]
    have hat : (st ++ [CO.lst ((stepsW ws (2 * box)).map stepV)])[st.length]? = some (.lst ((stepsW ws (2 * box)).map stepV)) := by simp
    have nl : ∀ x ∈ (stepsW ws (2 * box)).map stepV, NoLoc x := fun x hx => by
      obtain ⟨t, _, rfl⟩ := List.mem_map.mp hx
      exact NoLoc_step t
    have e2 : ∀ s, sem prog (n - 1) f__law_text [.dic false [(.str [98, 111, 120], .int box), (.str [98, 111, 117, 110, 100], .int bound), (.str [115, 116, 101, 112, 115], .lst ((stepsW ws (2 * box)).map stepV))]] s = .ok (.str (textL ⟨box, bound, stepsW ws (2 * box)⟩)) s := e1
    generalize hT : textL ⟨box, bound, stepsW ws (2 * box)⟩ = T at *
    rw [y_cons]
    simp [-y_cons, frozen_loc hat nl, dictOf, dput, okKey, e2]
    exact fin_app (.str _)
-- BLOCK
theorem law_lore_of_ok (n : Nat) (hn : 1 ≤ n) (L : Lore) (ok : OkLore L) (st : Sto) : sem prog n f__law_lore_of [.str (textL L)] st = .ok (loreV L) st := by
  rw [sem_call (d := d__law_lore_of) (by omega) rfl rfl]
  have tl := text_len ok
  have sl := steps_len ok
  have b2 := ok.b2
  have c2 := ok.c2
  have sp := text_split L
  have ll : (linesL L).length = L.steps.length + 2 := by simp [linesL]
  simp only [d__law_lore_of, b__law_lore_of]
  rw [y_cons]
  simp [-y_cons, mSplit, sp, show (textL L).length ≤ 16000000 by omega]
  rw [compL_mapL CV.str (fun x => .lst ((splitL 32 x).map CV.str)) fun x hx => by
    have : x.length ≤ 30 := line_len ok x hx
    simp [mSplit, show x.length ≤ 16000000 by omega]]
  have el : (linesL L).map (fun x => CV.lst ((splitL 32 x).map CV.str)) = .lst [.str wBox, .str (digitsOf L.box)] :: .lst [.str wBound, .str (digitsOf L.bound)] :: L.steps.map fun t => .lst [.str (word t.1), .str (digitsOf t.2.1), .str (digitsOf t.2.2)] := by
    unfold linesL
    rw [List.map_cons, List.map_cons, List.map_map, lineN_split (by decide), lineN_split (by decide)]
    congr 2
    exact List.map_congr_left fun t _ => by simp [lineS_split]
  rw [el]
  simp [-y_cons, ll, show L.steps.length + 2 ≤ 16000000 by omega]
  have cut0 : ∀ s, sliced s (.lst (.lst [.str wBox, .str (digitsOf L.box)] :: .lst [.str wBound, .str (digitsOf L.bound)] :: L.steps.map fun t => CV.lst [.str (word t.1), .str (digitsOf t.2.1), .str (digitsOf t.2.2)])) none (some 2) = some (.lst [.lst [.str wBox, .str (digitsOf L.box)], .lst [.str wBound, .str (digitsOf L.bound)]]) := fun s => by
    unfold sliced
    simp [cut_to]
  have cut1 : ∀ s, sliced s (.lst (.lst [.str wBox, .str (digitsOf L.box)] :: .lst [.str wBound, .str (digitsOf L.bound)] :: L.steps.map fun t => CV.lst [.str (word t.1), .str (digitsOf t.2.1), .str (digitsOf t.2.2)])) (some 2) none = some (.lst (L.steps.map fun t => CV.lst [.str (word t.1), .str (digitsOf t.2.1), .str (digitsOf t.2.2)])) := fun s => by
    unfold sliced
    simp [cut_from]
  have i0 : ∀ s, item s (.lst (.lst [.str wBox, .str (digitsOf L.box)] :: .lst [.str wBound, .str (digitsOf L.bound)] :: L.steps.map fun t => CV.lst [.str (word t.1), .str (digitsOf t.2.1), .str (digitsOf t.2.2)])) (.int 0) = some (.lst [.str wBox, .str (digitsOf L.box)]) := fun s => by simp
  have i1 : ∀ s, item s (.lst (.lst [.str wBox, .str (digitsOf L.box)] :: .lst [.str wBound, .str (digitsOf L.bound)] :: L.steps.map fun t => CV.lst [.str (word t.1), .str (digitsOf t.2.1), .str (digitsOf t.2.2)])) (.int 1) = some (.lst [.str wBound, .str (digitsOf L.bound)]) := fun s => by simp
  generalize hX : (CV.lst (.lst [.str wBox, .str (digitsOf L.box)] :: .lst [.str wBound, .str (digitsOf L.bound)] :: L.steps.map fun t => CV.lst [.str (word t.1), .str (digitsOf t.2.1), .str (digitsOf t.2.2)])) = X at *
  have io : ∀ k, k ≤ 999999999 → intOf (digitsOf k) = some (k : Int) := fun k hk => intOf_dig k (by have := len9 hk; omega)
  rw [y_cons]
  simp [-y_cons, cut0, compL, wBox, wBound, eqv]
  rw [y_cons]
  simp [-y_cons, cut1]
  rw [compL_mapL (fun t : Step => CV.lst [.str (word t.1), .str (digitsOf t.2.1), .str (digitsOf t.2.2)]) (fun t => .bl true) fun t ht => by
    cases h : t.1 <;> simp [word, wFrom, wBeyond, inSeq, flat, eqv, cmpop.inop]]
  simp [-y_cons, show L.steps.length ≤ 16000000 by omega]
  rw [y_cons]
  simp [-y_cons, cut1]
  rw [compL_mapL (fun t : Step => CV.lst [.str (word t.1), .str (digitsOf t.2.1), .str (digitsOf t.2.2)]) stepV fun t ht => by
    simp [io _ (step_p9 ok ht), io _ (ok.st t ht).w, stepV]]
  simp [-y_cons, show L.steps.length ≤ 16000000 by omega]
  rw [y_cons]
  simp [-y_cons, i0, i1, io L.box (by omega), io L.bound c2, dictOf, dput, okKey]
  rfl
end LW
end V5_text

section V6_text
set_option linter.all false
set_option maxRecDepth 100000
/-! Numbered rules; fills; most. -/
namespace LW
open MP
-- BLOCK
theorem law_numbered_ok (n : Nat) (hn : 3 ≤ n) (box bound : Nat) (k : Int) (hk : 0 ≤ k) (b1 : 1 ≤ box) (b2 : box ≤ 60) (c1 : 1 ≤ bound) (c2 : bound ≤ 999999999) (st : Sto) :
    ∃ L : Lore, OkLore L ∧ L.box = box ∧ L.bound = bound ∧ L.steps.length ≤ 2 * box ∧ sem prog n f__law_numbered [.int box, .int bound, .int k] st = .ok (loreV L) st := by
  rw [sem_call (d := d__law_numbered) (by omega) rfl rfl]
  have m1 : mulOk 2 (box : Int) = true := mulOk_l (by omega) (by omega)
  have dv : divOk 4 = true := divOk_small (by decide) (by decide)
  simp only [d__law_numbered, b__law_numbered]
  rw [y_cons]
  simp [-y_cons, boxed, setVs]
  rw [y_cons]
  simp [-y_cons, m1, rngR_ok (rngOk_of (show (-1000000 : Int) ≤ 0 by omega) (show (2 * (box : Int)) ≤ 1000000 by omega) (by omega) (by omega))]
  refine for_N (fun x => ∃ L : Lore, OkLore L ∧ L.box = box ∧ L.bound = bound ∧ L.steps.length ≤ 2 * box ∧ fin st x = .ok (loreV L) st) (fun i env s => ∃ (ws : List Nat) (r : Int) (v5 : Option CV), ws.length = i + 1 ∧ (∀ w ∈ ws, w ≤ 3) ∧ 0 ≤ r ∧ env = [some (.int box), some (.int bound), some (.int k), some (.loc st.length), some (.int r), v5] ∧ s = st ++ [.lst (ws.map fun (w : Nat) => CV.int w)]) ⟨[0], k, none, rfl, by simp, hk, rfl, rfl⟩ ?_ ?_
  · rintro i x env s hx ⟨ws, r, v5, hw, h3, hr, rfl, rfl⟩
    have il := (List.getElem?_eq_some_iff.mp hx).1
    rw [range_len] at il
    have hat : (st ++ [CO.lst (ws.map fun (w : Nat) => CV.int w)])[st.length]? = some (.lst (ws.map fun (w : Nat) => CV.int w)) := by simp
    obtain ⟨m, hm⟩ : ∃ m : Nat, r % 4 = m := ⟨(r % 4).toNat, by omega⟩
    simp only [x_tvar, only_then, setV0, setVs_]
    refine ⟨_, st ++ [.lst ((ws ++ [m]).map fun (w : Nat) => CV.int w)], ?_, ws ++ [m], r / 4, some x, by simp [hw], fun w hw => ?_, Int.ediv_nonneg hr (by decide), rfl, rfl⟩
    · simp [l_loc hat, append_loc hat (by simp; omega), hm, dv]
    · rcases List.mem_append.mp hw with hw | hw
      · exact h3 w hw
      · rw [List.mem_singleton] at hw
        omega
  · rintro env s ⟨ws, r, v5, hw, h3, hr, rfl, rfl⟩
    have e : (rangeL 0 (2 * (box : Int))).length = 2 * box := by rw [range_len]; omega
    rw [e] at hw
    have hat : (st ++ [CO.lst (ws.map fun (w : Nat) => CV.int w)])[st.length]? = some (.lst (ws.map fun (w : Nat) => CV.int w)) := by simp
    have hw9 : ∀ s, ws.getD s 0 ≤ 999999999 := fun s => by
      rw [List.getD_eq_getElem?_getD]
      cases h : ws[s]? with
      | none => simp
      | some w => have := h3 w (List.mem_of_getElem? h); simp; omega
    have ok := loreW_ok b1 b2 c1 c2 hw9
    have e1 := law_text_by_ok (n - 1) (by omega) box bound ws st.length _ hat b1 b2 c1 c2 hw hw9
    have e2 := fun s => law_lore_of_ok (n - 1) (by omega) _ ok s
    refine ⟨_, ok, rfl, rfl, stepsW_len ws _, ?_⟩
    have i3 := fun s => lore_steps ⟨box, bound, stepsW ws (2 * box)⟩ s
    have ev : loreV ⟨box, bound, stepsW ws (2 * box)⟩ = .dic false [(.str wBox, .int box), (.str wBound, .int bound), (.str wSteps, .lst ((stepsW ws (2 * box)).map stepV))] := rfl
    have nl := NoLoc_lore ⟨box, bound, stepsW ws (2 * box)⟩
    generalize hT : textL ⟨box, bound, stepsW ws (2 * box)⟩ = T at *
    simp only [wSteps] at i3
    rw [y_cons]
    simp [-y_cons, e1, e2, i3, dictOf, dput, okKey]
    rw [ev] at nl ⊢
    exact fin_app nl
theorem fl_succ (w : Nat → Int) (f : Nat) : fl w (f + 1) = fl w f ++ [fw w (f + 1)] := by
  have l := fl_len w f
  unfold fw
  conv => lhs; unfold fl
  congr 1
  conv => rhs; unfold fl
  rw [List.getD_eq_getElem?_getD, List.getElem?_append_right (by omega), l, Nat.sub_self]
  rfl
theorem fl_max (st : Sto) (w : Nat → Int) (f : Nat) : bMaxl st (.lst ((List.range (f + 1)).map fun (j : Nat) => CV.int ((fl w f).getD (f - j) 0 + w (j + 1)))) = some (.int (fw w (f + 1))) := by
  obtain ⟨x, xs, e, k⟩ := fw_succ w f
  have : ((List.range (f + 1)).map fun (j : Nat) => CV.int ((fl w f).getD (f - j) 0 + w (j + 1))) = (x :: xs).map CV.int := by
    rw [← e, List.map_map]
    exact List.map_congr_left fun i _ => by rw [fl_at w (by omega)]; rfl
  rw [this, k]
  exact max_ints st x xs
theorem w24_nn (L : Lore) (i : Nat) : 0 ≤ w24 L i := by unfold w24; omega
-- BLOCK
theorem law_fills_ok (n : Nat) (hn : 4 ≤ n) (L : Lore) (ok : OkLore L) (st : Sto) : sem prog n f__law_fills [loreV L] st = .ok (.lst ((fl (w24 L) (24 * L.box)).map CV.int)) st := by
  rw [sem_call (d := d__law_fills) (by omega) rfl rfl]
  have e0 := lore_box L
  simp only [wBox] at e0
  have b2 := ok.b2
  have sl := steps_len ok
  have m1 : mulOk 24 (L.box : Int) = true := mulOk_l (by omega) (by omega)
  have e1 := fun (p : Nat) s => law_number_ok (n - 1) (by omega) (p : Int) 24 s (by omega) (by decide) (by decide)
  have e2 := fun (p : Nat) s => law_worth_ok (n - 1) (by omega) L ok (by omega) (part24 p) (part24_num p) (by
    have := red_le2 (o := (p : Int)) (u := 24) (by decide)
    have := (part24_num p).up
    unfold part24 at *
    omega) s
  simp only [d__law_fills, b__law_fills]
  rw [y_cons]
  simp [-y_cons, e0, m1, rngR_ok (rngOk_of (show (-1000000 : Int) ≤ 1 by omega) (show (24 * (L.box : Int) + 1) ≤ 1000000 by omega) (by omega) (by omega))]
  have rr : rangeL 1 (24 * (L.box : Int) + 1) = (List.range (24 * L.box)).map fun (i : Nat) => CV.int ((i + 1 : Nat) : Int) := by
    rw [range_ints, List.map_map, show (24 * (L.box : Int) + 1 - 1).toNat = 24 * L.box by omega]
    apply List.map_congr_left
    intro i _
    show CV.int (1 + (i : Int)) = _
    congr 1
    omega
  rw [rr, compL_mapL (fun (i : Nat) => CV.int ((i + 1 : Nat) : Int)) (fun (i : Nat) => CV.int (w24 L (i + 1))) fun i hi => by
    have a := e1 (i + 1)
    have b := e2 (i + 1)
    unfold part24 at b
    simp at a b
    simp [a, b, w24, part24]]
  have lo : ∀ j, j ≤ 24 * L.box → j ≤ 16000000 := fun j hj => by omega
  simp [-y_cons, show (24 * (L.box : Int)).toNat ≤ 16000000 by omega, show 24 * L.box + 1 ≤ 16000000 by omega, show 1 + 24 * L.box ≤ 16000000 by omega]
  rw [y_cons]
  simp [-y_cons, boxed]
  have wat : ∀ j, j < 24 * L.box → atI (CV.int 0 :: (List.range (24 * L.box)).map fun (i : Nat) => CV.int (w24 L (i + 1))) ((j : Int) + 1) = some (.int (w24 L (j + 1))) := fun j hj => by
    have := atN (CV.int 0 :: (List.range (24 * L.box)).map fun (i : Nat) => CV.int (w24 L (i + 1))) (j + 1)
    simp at this
    rw [this, List.getElem?_range hj]
    rfl
  have hlen : (CV.int 0 :: (List.range (24 * L.box)).map fun (i : Nat) => CV.int (w24 L (i + 1))).length = 24 * L.box + 1 := by simp
  generalize (CV.int 0 :: (List.range (24 * L.box)).map fun (i : Nat) => CV.int (w24 L (i + 1))) = WV at *
  rw [y_cons]
  simp [-y_cons, hlen, rngR_ok (rngOk_of (show (-1000000 : Int) ≤ 1 by omega) (show (24 * (L.box : Int) + 1) ≤ 1000000 by omega) (by omega) (by omega))]
  refine for_N (fun x => fin st x = _) (fun i env s => ∃ v4, env = [some (loreV L), some (.lst WV), none, some (.loc st.length), v4] ∧ s = st ++ [.lst ((fl (w24 L) i).map CV.int)]) ⟨none, rfl, rfl⟩ ?_ ?_
  · rintro i x env s hx ⟨v4, rfl, rfl⟩
    rw [range_at] at hx
    split at hx
    · rename_i hi
      cases hx
      have il : i + 1 ≤ 24 * L.box := by omega
      have ec : (1 + (i : Int)) = ((i + 1 : Nat) : Int) := by omega
      have fln := fl_len (w24 L) i
      have hat : (st ++ [CO.lst ((fl (w24 L) i).map CV.int)])[st.length]? = some (.lst ((fl (w24 L) i).map CV.int)) := by simp
      have fat : ∀ j, j ≤ i → atI ((fl (w24 L) i).map CV.int) ((i : Int) + 1 - ((j : Int) + 1)) = some (.int ((fl (w24 L) i).getD (i - j) 0)) := fun j hj => by
        rw [show (i : Int) + 1 - ((j : Int) + 1) = ((i - j : Nat) : Int) by omega, atN, List.getElem?_map, List.getD_eq_getElem?_getD, List.getElem?_eq_getElem (by omega)]
        rfl
      have rg : rangeL 1 ((i : Int) + 1 + 1) = (List.range (i + 1)).map fun (j : Nat) => CV.int ((j : Int) + 1) := by
        rw [range_ints, List.map_map, show ((i : Int) + 1 + 1 - 1).toNat = i + 1 by omega]
        apply List.map_congr_left
        intro j _
        show CV.int (1 + (j : Int)) = _
        congr 1
        omega
      rw [ec]
      simp only [x_tvar, only_then, setV0, setVs_]
      refine ⟨_, st ++ [.lst ((fl (w24 L) (i + 1)).map CV.int)], ?_, some (.int (i + 1 : Nat)), rfl, rfl⟩
      rw [y_cons]
      simp [-y_cons, l_loc hat, rngR_ok (rngOk_of (show (-1000000 : Int) ≤ 1 by omega) (show ((i : Int) + 1 + 1) ≤ 1000000 by omega) (by omega) (by omega))]
      rw [rg, compL_mapL (fun (j : Nat) => CV.int ((j : Int) + 1)) (fun (j : Nat) => CV.int ((fl (w24 L) i).getD (i - j) 0 + w24 L (j + 1))) fun j hj => by
        have hj2 := List.mem_range.mp hj
        have f := fat j (by omega)
        have g := wat j (by omega)
        simp only [List.getD_eq_getElem?_getD] at f
        simp [i_loc hat, f, g]]
      have mm2 := fl_max (st ++ [CO.lst ((fl (w24 L) i).map CV.int)]) (w24 L) i
      simp only [List.getD_eq_getElem?_getD] at mm2
      have ap := fun (x : CV) => append_loc (x := x) hat (by simp; omega)
      simp [show i + 1 ≤ 16000000 by omega, mm2, ap, fl_succ]
    · cases hx
  · rintro env s ⟨v4, rfl, rfl⟩
    have e : (rangeL 1 (24 * (L.box : Int) + 1)).length = 24 * L.box := by rw [range_len]; omega
    rw [e]
    have hat : (st ++ [CO.lst ((fl (w24 L) (24 * L.box)).map CV.int)])[st.length]? = some (.lst ((fl (w24 L) (24 * L.box)).map CV.int)) := by simp
    have nl : ∀ x ∈ (fl (w24 L) (24 * L.box)).map CV.int, NoLoc x := fun x hx => by
      obtain ⟨t, _, rfl⟩ := List.mem_map.mp hx
      exact .int _
    simp [frozen_loc hat nl]
    exact fin_app (.lst nl)
-- BLOCK
theorem most_ok (n : Nat) (hn : 4 ≤ n) (L : Lore) (ok : OkLore L) (h0 : wRec L.steps 1 = 0) (q : Q2) (h : OkSize L.box q) (hs : q.2.natAbs < 2 ^ 64) (st : Sto) : sem prog n f_most [ruleV L, nm q] st = .ok (.int (tab (trueS L) (spc q))) st := by
  rw [sem_call (d := d_most) (by omega) rfl rfl]
  have b2 := ok.b2
  have e1 := fun s => is_size_ok (n - 1) (by omega) q h.num L.box (by omega) (by omega) s
  have e2 := fun s => endless_worth_ok (n - 1) (by omega) L ok s
  have e3 := fun s => least_table_ok (n - 1) (by omega) L ok h0 s
  have e4 := fun s => space_of_eq (n - 1) (by omega) q h.num (Nat.lt_of_lt_of_le hs (Nat.pow_le_pow_right (by decide) (by decide))) s
  have c1 : decide (0 < q.1 ∧ q.1 ≤ (L.box : Int) * q.2) = true := decide_eq_true ⟨h.pos, h.le⟩
  rw [c1] at e1
  rw [h0] at e2
  have tl := tabL_at (trueS L) (spc_le h)
  have tn := tabL_len (trueS L) (2 * L.box)
  have sp := spc_le h
  have at_ : atI ((tabL (trueS L) (2 * L.box)).map CV.int) (spc q : Int) = some (.int (tab (trueS L) (spc q))) := by
    rw [atN, List.getElem?_map, ← tl, List.getD_eq_getElem?_getD, List.getElem?_eq_getElem (by omega)]
    rfl
  generalize (tabL (trueS L) (2 * L.box)).map CV.int = TV at *
  simp [d_most, b_most, rule_box (n - 1) (by omega), e1, e2, e3, e4, at_]
-- BLOCK
theorem check_sound_ok (n : Nat) (hn : 5 ≤ n) (L : Lore) (S : Sound L) (st : Sto) : sem prog n f_check_sound [ruleV L] st = .ok .non st := by
  rw [sem_call (d := d_check_sound) (by omega) rfl rfl]
  obtain ⟨v, e, J⟩ := judged_ok (n - 1) (by omega) L S.ok st
  obtain ⟨t, rfl⟩ := judged_sound S J
  simp [d_check_sound, b_check_sound, e, wSound]
-- BLOCK
theorem size_amid_ok (n : Nat) (hn : 3 ≤ n) (s : Nat) (st : Sto) : sem prog n f_size_amid [.int s] st = .ok (nm (red s 2)) st := by
  rw [sem_call (d := d_size_amid) (by omega) rfl rfl]
  have e := fun st => number_ok (n - 1) (by omega) (s : Int) 2 st (by omega) (by decide) (by decide)
  simp [d_size_amid, b_size_amid, e]
end LW
end V6_text

section V7_text
set_option linter.all false
set_option maxRecDepth 100000
/-! Greatest rules; fills are the table; a worth less. -/
namespace LW
open MP
theorem come_comm (i j : Nat) : come i j = come j i := by unfold come; split <;> split <;> omega
theorem come_assoc (i r o : Nat) : come (come i r) o = come i (come r o) := by
  unfold come
  split <;> split <;> split <;> split <;> omega
theorem trueS_in {L : Lore} {t : Step} (h : t ∈ L.steps) (hw : 0 < t.2.2) : (spot t, t.2.2) ∈ trueS L :=
  List.mem_map.mpr ⟨t, List.mem_filter.mpr ⟨h, by simpa using hw⟩, rfl⟩
theorem w_spot {L : Lore} (ok : OkLore L) {t : Step} (h : t ∈ L.steps) : wRec L.steps (spot t) = t.2.2 := by
  have s1 := spot_pos ok h
  have l := look_mem ok.up h
  obtain ⟨s, e⟩ : ∃ s, spot t = s + 1 := ⟨spot t - 1, by omega⟩
  rw [e] at l ⊢
  unfold wRec
  rw [l]
  rfl
theorem w_le_tab {L : Lore} (ok : OkLore L) (h0 : wRec L.steps 1 = 0) (s : Nat) : (wRec L.steps s : Int) ≤ tab (trueS L) s := by
  rcases wRec_of L.steps s with h | ⟨t, ht, hs, h⟩
  · rw [h]; exact tab_nn _ _
  · by_cases hw : 0 < t.2.2
    · have m := trueS_in ht hw
      have sp := (trueS_spot ok h0 _ m).1
      have r := rest_come (s := spot t) (o := spot t) (r := 0) (by unfold come; simp)
      have k := tab_step (trueS L) (s := spot t) m (by simpa using sp) (by simpa using r)
      have n := tab_nn (trueS L) (restB (spot t) (spot t)).toNat
      have mo := tab_mono (trueS L) hs
      rw [h]
      omega
    · have := tab_nn (trueS L) s
      rw [h]
      omega
/-- two together -/
theorem tab_add (ts : TS) (hts : ∀ p ∈ ts, 2 ≤ p.1) (i : Nat) : ∀ j, tab ts i + tab ts j ≤ tab ts (come i j) := by
  intro j
  induction j using Nat.strongRecOn with
  | _ j ih =>
    cases j with
    | zero =>
      have : come i 0 = i := by unfold come; simp
      rw [this, tab_zero]
      omega
    | succ j =>
      rcases tab_why ts hts j with e | ⟨p, hp, hr, e⟩
      · have := ih j (by omega)
        have m := tab_mono ts (come_mono (i := i) (show j ≤ j + 1 by omega))
        omega
      · have h2 := hts p hp
        have lt := restB_lt (s := ((j + 1 : Nat) : Int)) (o := p.1) (by omega)
        obtain ⟨r, hr2⟩ : ∃ r : Nat, restB ((j + 1 : Nat) : Int) p.1 = r := ⟨_, (Int.toNat_of_nonneg hr).symm⟩
        rw [hr2] at e lt
        have k := ih r (by omega)
        have c1 : come r p.1 ≤ j + 1 := come_rest (by omega)
        have c2 : come (come i r) p.1 ≤ come i (j + 1) := by rw [come_assoc]; exact come_mono c1
        have c3 := rest_come c2
        have q := tab_step ts (s := come i (j + 1)) (o := p.1) (w := p.2) hp h2 (by omega)
        have m := tab_mono ts (show come i r ≤ (restB (come i (j + 1) : Nat) p.1).toNat by omega)
        simp only [Int.toNat_natCast] at e
        omega
def RoomA (L : Lore) : Prop := ∀ s, 1 ≤ s → s ≤ 2 * L.box → tab (trueS L) s ≤ wRec L.steps s
def RoomB (L : Lore) : Prop := ∀ s, 1 ≤ s → s ≤ 2 * L.box → (L.bound : Int) ≤ wRec L.steps s + wRec L.steps (2 * L.box - s)
structure IsBest (L : Lore) : Prop where
  up : ∀ s, s + 1 ≤ 2 * L.box → wRec L.steps s ≤ wRec L.steps (s + 1)
  both : ∀ s, s ≤ 2 * L.box → wRec L.steps s + wRec L.steps (2 * L.box - s) = L.bound
  add : ∀ i j, 1 ≤ j → j ≤ i → i ≤ 2 * L.box → come i j ≤ 2 * L.box → wRec L.steps i + wRec L.steps j ≤ wRec L.steps (come i j)
theorem room_eq {L : Lore} (S : Sound L) (a : RoomA L) {s : Nat} (h : s ≤ 2 * L.box) : tab (trueS L) s = wRec L.steps s := by
  cases s with
  | zero => rfl
  | succ s =>
    have := a (s + 1) (by omega) h
    have := w_le_tab S.ok S.h0 (s + 1)
    omega
theorem best_of_room {L : Lore} (S : Sound L) (a : RoomA L) (b : RoomB L) : IsBest L := by
  have ts : ∀ p ∈ trueS L, 2 ≤ p.1 := fun p hp => (trueS_spot S.ok S.h0 p hp).1
  have b1 := S.ok.b1
  have both : ∀ s, s ≤ 2 * L.box → wRec L.steps s + wRec L.steps (2 * L.box - s) ≤ L.bound := fun s hs => by
    have k := tab_add (trueS L) ts s (2 * L.box - s)
    have c : come s (2 * L.box - s) ≤ 2 * L.box := by unfold come; split <;> omega
    have m := tab_mono (trueS L) c
    have := S.le
    rw [room_eq S a hs, room_eq S a (s := 2 * L.box - s) (by omega)] at k
    omega
  refine ⟨fun s hs => ?_, fun s hs => ?_, fun i j h1 h2 h3 h4 => ?_⟩
  · have := tab_mono1 (trueS L) s
    rw [room_eq S a (by omega), room_eq S a hs] at this
    omega
  · have k := both s hs
    by_cases h : 1 ≤ s
    · have := b s h hs
      omega
    · have : s = 0 := by omega
      subst this
      have q := b (2 * L.box) (by omega) (by omega)
      simp only [Nat.sub_self, Nat.sub_zero] at q k ⊢
      omega
  · have k := tab_add (trueS L) ts i j
    rw [room_eq S a h3, room_eq S a (s := j) (by omega), room_eq S a h4] at k
    omega
theorem w_mono {L : Lore} (b : IsBest L) {i j : Nat} (h : i ≤ j) (hj : j ≤ 2 * L.box) : wRec L.steps i ≤ wRec L.steps j := by
  induction h with
  | refl => exact Nat.le_refl _
  | step _ ih => exact Nat.le_trans (ih (by omega)) (b.up _ hj)
theorem room_of_best {L : Lore} (S : Sound L) (b : IsBest L) : RoomA L ∧ RoomB L := by
  have sp := trueS_spot S.ok S.h0
  refine ⟨fun s h1 h2 => ?_, fun s h1 h2 => ?_⟩
  · refine tab_least (trueS L) (fun p hp => (sp p hp).1) (fun s => (wRec L.steps s : Int)) (2 * L.box) (by show (0 : Int) ≤ ((wRec L.steps 0 : Nat) : Int); omega) (fun s hs => by have := b.up s hs; omega) (fun p hp s hs hr => ?_) s h2
    obtain ⟨t, ht, rfl⟩ := List.mem_map.mp hp
    have hm := (List.mem_filter.mp ht).1
    have ws := w_spot S.ok hm
    have z := sp _ hp
    simp only at hr z ⊢
    obtain ⟨r, hr2⟩ : ∃ r : Nat, restB s (spot t) = r := ⟨_, (Int.toNat_of_nonneg hr).symm⟩
    rw [hr2, Int.toNat_natCast]
    have c1 : come r (spot t) ≤ s := come_rest (by omega)
    have lt := restB_lt (s := (s : Int)) (o := spot t) (by omega)
    have m := w_mono b c1 hs
    by_cases r0 : r = 0
    · subst r0
      have : come 0 (spot t) = spot t := by unfold come; simp
      rw [this] at m
      have w0 : wRec L.steps 0 = 0 := rfl
      omega
    · by_cases ro : spot t ≤ r
      · have := b.add r (spot t) (by omega) ro (by omega) (by omega)
        omega
      · have := b.add (spot t) r (by omega) (by omega) (by omega) (by rw [come_comm]; omega)
        rw [come_comm (spot t) r] at this
        omega
  · have := b.both s h2
    omega
/-! ### a worth less -/
theorem less_tab {L M : Lore} (okL : OkLore L) (okM : OkLore M) (h0 : wRec L.steps 1 = 0) (h0' : wRec M.steps 1 = 0) (h : ∀ u ∈ M.steps, ∃ v ∈ L.steps, spot u = spot v ∧ u.2.2 ≤ v.2.2) (s : Nat) : tab (trueS M) s ≤ tab (trueS L) s := by
  have spM := trueS_spot okM h0'
  have spL := trueS_spot okL h0
  refine tab_least (trueS M) (fun p hp => (spM p hp).1) (tab (trueS L)) s (by rw [tab_zero]; omega) (fun s _ => tab_mono1 _ s) (fun p hp s hs hr => ?_) s (Nat.le_refl _)
  obtain ⟨u, hu, rfl⟩ := List.mem_map.mp hp
  obtain ⟨hu1, hu2⟩ := List.mem_filter.mp hu
  obtain ⟨v, hv, e, l⟩ := h u hu1
  have w0 : 0 < u.2.2 := by simpa using hu2
  have m := trueS_in hv (by omega)
  have z := (spL _ m).1
  simp only at hr z ⊢
  rw [e] at hr ⊢
  have := tab_step (trueS L) (s := s) m z hr
  omega
theorem putW_sound {L : Lore} (S : Sound L) {i : Nat} {t : Step} (hi : L.steps[i]? = some t) {w : Nat} (hw : w ≤ t.2.2) : Sound (putW L i w) := by
  have o := S.ok.st t (List.mem_of_getElem? hi)
  have ok := putW_ok S.ok hi (w := w) (by have := o.w; omega)
  have mem : ∀ u ∈ (putW L i w).steps, ∃ v ∈ L.steps, spot u = spot v ∧ u.2.2 ≤ v.2.2 := fun u hu => by
    obtain ⟨v, hv, e1, _, _, e4⟩ := putW_mem hi w hu
    refine ⟨v, hv, e1, ?_⟩
    rcases e4 with rfl | ⟨rfl, e⟩
    · exact Nat.le_refl _
    · omega
  have z : wRec (putW L i w).steps 1 = 0 := by
    rcases wRec_of (putW L i w).steps 1 with h | ⟨u, hu, hs, h⟩
    · exact h
    · obtain ⟨v, hv, e, l⟩ := mem u hu
      have s1 := spot_pos ok hu
      have := w_spot S.ok hv
      rw [show spot v = 1 by omega, S.h0] at this
      omega
  refine ⟨ok, z, ?_⟩
  have := less_tab S.ok ok S.h0 z mem (2 * L.box)
  have := S.le
  show tab (trueS (putW L i w)) (2 * L.box) ≤ (L.bound : Int)
  omega
/-! ### fills are the table -/
def partN (t : Step) : Nat := 24 * t.2.1 + if t.1 then 1 else 0
theorem spc_part (p : Nat) : spc (part24 p) = 2 * (p / 24) + if 0 < p % 24 then 1 else 0 := by
  have e : spcI (part24 p) = spcI ((p : Int), 24) := spcI_is (part24_num p).up (by decide) (part24_is p)
  unfold spc
  rw [e]
  unfold spcI
  simp only
  have d : (p : Int) / 24 = ((p / 24 : Nat) : Int) := by omega
  have m : (p : Int) % 24 = ((p % 24 : Nat) : Int) := by omega
  rw [d, m]
  split <;> split <;> omega
theorem w24_part {L : Lore} (ok : OkLore L) {t : Step} (h : t ∈ L.steps) : w24 L (partN t) = t.2.2 := by
  have e : spc (part24 (partN t)) = spot t := by
    rw [spc_part]
    unfold partN spot
    split <;> simp <;> omega
  unfold w24 wAt
  rw [e, w_spot ok h]
theorem sum_part (xs : List Step) : (xs.map partN).sum = 24 * (xs.map fun t => t.2.1).sum + beyonds xs := by
  induction xs with
  | nil => rfl
  | cons t r ih =>
    unfold beyonds at ih ⊢
    simp only [List.map_cons, List.sum_cons, List.filter_cons]
    rw [ih]
    unfold partN
    split <;> simp <;> omega
theorem beyonds_le {L : Lore} : ∀ (xs : List Step), (∀ t ∈ xs, 2 ≤ spot t) → beyonds xs ≤ (xs.map fun t => t.2.1).sum
  | [], _ => Nat.le_refl _
  | t :: r, h => by
    have ih := beyonds_le (L := L) r fun u hu => h u (List.mem_cons_of_mem _ hu)
    have h2 := h t (List.mem_cons_self ..)
    unfold beyonds at ih ⊢
    unfold spot at h2
    simp only [List.map_cons, List.sum_cons, List.filter_cons]
    split <;> simp_all <;> omega
theorem fills_tab {L : Lore} (ok : OkLore L) (h0 : wRec L.steps 1 = 0) (b3 : L.box ≤ 3) {f : Nat} (ev : f % 2 = 0) (hf : f ≤ 24 * L.box) : fw (w24 L) f = tab (trueS L) (spc (part24 f)) := by
  refine Int.le_antisymm (fw_le_tab ok h0 f) ?_
  obtain ⟨xs, h1, h2, h3⟩ := tab_cut ok h0 (spc (part24 f))
  have sp : ∀ t ∈ xs.filter fun t => decide (0 < t.2.2), t ∈ L.steps ∧ 2 ≤ spot t := fun t ht => by
    obtain ⟨a, b⟩ := List.mem_filter.mp ht
    have b : 0 < t.2.2 := by simpa using b
    exact ⟨h1 t a, (trueS_spot ok h0 _ (trueS_in (h1 t a) b)).1⟩
  have q1 : ((xs.filter fun t => decide (0 < t.2.2)).map fun t => (t.2.2 : Int)).sum = (xs.map fun t => (t.2.2 : Int)).sum := by
    clear h1 h2 h3 sp
    induction xs with
    | nil => rfl
    | cons t r ih =>
      rw [List.filter_cons]
      by_cases h : 0 < t.2.2
      · simp [h, ih]
      · simp [h, ih]; omega
  have q2 : ((xs.filter fun t => decide (0 < t.2.2)).map fun t => t.2.1).sum ≤ (xs.map fun t => t.2.1).sum ∧ beyonds (xs.filter fun t => decide (0 < t.2.2)) ≤ beyonds xs := by
    clear h1 h2 h3 sp q1
    induction xs with
    | nil => exact ⟨Nat.le_refl _, Nat.le_refl _⟩
    | cons t r ih =>
      obtain ⟨i1, i2⟩ := ih
      unfold beyonds at i2 ⊢
      rw [List.filter_cons]
      constructor
      · by_cases h : 0 < t.2.2 <;> simp [h] <;> omega
      · by_cases h : 0 < t.2.2 <;> by_cases k : t.1 = true <;> simp [h, k, List.filter_cons] <;> simp only [List.filter_filter] at * <;> omega
  obtain ⟨q2, q3⟩ := q2
  generalize xs.filter (fun t => decide (0 < t.2.2)) = ys at *
  have bl := beyonds_le (L := L) ys fun t ht => (sp t ht).2
  have su := sum_part ys
  have fs := fw_sum (w24_nn L) (ys.map partN) fun p hp => by
    obtain ⟨t, ht, rfl⟩ := List.mem_map.mp hp
    have := (sp t ht).2
    unfold spot at this
    unfold partN
    split at this <;> simp_all <;> omega
  have e : ((ys.map partN).map (w24 L)).sum = (ys.map fun t => (t.2.2 : Int)).sum := by
    rw [List.map_map]
    congr 1
    exact List.map_congr_left fun t ht => w24_part ok (sp t ht).1
  rw [e, q1, h2] at fs
  have mo := fw_mono (w24_nn L) (a := (ys.map partN).sum) (b := f) (by
    rw [su]
    rw [spc_part] at h3
    unfold cmb at h3
    simp only [Nat.zero_div, Nat.mul_zero, Nat.add_zero, Nat.zero_mod] at h3
    split at h3 <;> split at h3 <;> omega)
  omega
theorem fills_endless {L : Lore} (h : 0 < wRec L.steps 1) : (24 * L.box : Nat) ≤ fw (w24 L) (24 * L.box) := by
  have w1 : ∀ x ∈ (List.replicate (24 * L.box) 1).map (w24 L), (1 : Int) ≤ x := fun x hx => by
    obtain ⟨p, hp, rfl⟩ := List.mem_map.mp hx
    rw [List.eq_of_mem_replicate hp]
    have e : spc (part24 1) = 1 := by rw [spc_part]; rfl
    unfold w24 wAt
    rw [e]
    omega
  have fs := fw_sum (w24_nn L) (List.replicate (24 * L.box) 1) fun p hp => by rw [List.eq_of_mem_replicate hp]; omega
  have e : (List.replicate (24 * L.box) 1).sum = 24 * L.box := by simp
  rw [e] at fs
  have : ∀ (ys : List Int), (∀ x ∈ ys, (1 : Int) ≤ x) → (ys.length : Int) ≤ ys.sum := fun ys => by
    induction ys with
    | nil => intro _; simp
    | cons y r ih =>
      intro h
      have := ih fun x hx => h x (List.mem_cons_of_mem _ hx)
      have := h y (List.mem_cons_self ..)
      simp
      omega
  have := this _ w1
  simp only [List.length_map, List.length_replicate] at this
  omega
end LW
end V7_text

section V8_text
set_option linter.all false
set_option maxRecDepth 100000
/-! Room. -/
namespace LW
open MP
theorem rngD_ok {i j : Int} {s : Sto} (h1 : -1000000 ≤ i) (h2 : j ≤ 1000000) (h3 : i ≤ 1000000) (h4 : -1000000 ≤ j) : rngD (.int i) (.int j) s = .ok ⟨(List.range (i - j).toNat).map fun (n : Nat) => CV.int (i - (n : Int)), none⟩ s := by
  show (if rngOk i j && ((-1 : Int) == -1) then (.ok ⟨(List.range (i - j).toNat).map fun (n : Nat) => CV.int (i - (n : Int)), none⟩ s : R Src) else .err) = _
  rw [rngOk_of h1 h2 h3 h4]
  rfl
theorem tab_at (L : Lore) {s : Nat} (h : s ≤ 2 * L.box) : ((tabL (trueS L) (2 * L.box)).map CV.int)[s]? = some (.int (tab (trueS L) s)) := by
  have tl := tabL_at (trueS L) h
  have tn := tabL_len (trueS L) (2 * L.box)
  rw [List.getElem?_map, ← tl, List.getD_eq_getElem?_getD, List.getElem?_eq_getElem (by omega)]
  rfl
-- BLOCK
theorem first_room_ok (n : Nat) (hn : 4 ≤ n) (L : Lore) (ok : OkLore L) (h0 : wRec L.steps 1 = 0) (st : Sto) :
    (sem prog n f_first_room [ruleV L] st = .ok .non st ∧ RoomA L ∧ RoomB L) ∨ ∃ a b, sem prog n f_first_room [ruleV L] st = .ok (.tup [a, b]) st ∧ ¬ (RoomA L ∧ RoomB L) := by
  obtain ⟨Z, hZ⟩ : ∃ Z : R CV → Prop, Z = fun x => (x = .ok .non st ∧ RoomA L ∧ RoomB L) ∨ ∃ a b, x = .ok (.tup [a, b]) st ∧ ¬ (RoomA L ∧ RoomB L) := ⟨_, rfl⟩
  suffices goal : Z (sem prog n f_first_room [ruleV L] st) by rw [hZ] at goal; exact goal
  rw [sem_call (d := d_first_room) (by omega) rfl rfl]
  have b1 := ok.b1
  have b2 := ok.b2
  have c2 := ok.c2
  have m1 : mulOk 2 (L.box : Int) = true := mulOk_l (by omega) (by omega)
  have e0 : ∀ s, sem prog (n - 1) f_worths [ruleV L] s = .ok (.tup (worthsL L)) s := fun s => by
    rw [sem_call (d := d_worths) (by omega) rfl rfl]
    simp [d_worths, b_worths, rule_worths]
  have e1 := fun s => least_table_ok (n - 1) (by omega) L ok h0 s
  have e2 := fun (k : Nat) s => size_amid_ok (n - 1) (by omega) k s
  have wat : ∀ j, j ≤ 2 * L.box → atI (worthsL L) (j : Int) = some (.int (wRec L.steps j)) := fun j hj => by rw [atN, worths_at L hj]
  have tat : ∀ j, j ≤ 2 * L.box → atI ((tabL (trueS L) (2 * L.box)).map CV.int) (j : Int) = some (.int (tab (trueS L) j)) := fun j hj => by rw [atN, tab_at L hj]
  have ob := fun s => rule_bound (n - 1) (by omega) L s
  generalize hTV : (tabL (trueS L) (2 * L.box)).map CV.int = TV at *
  generalize hWV : worthsL L = WV at *
  simp only [d_first_room, b_first_room]
  rw [y_cons]
  simp [-y_cons, e0, e1, rule_box (n - 1) (by omega), m1, setVs]
  rw [y_cons]
  simp [-y_cons, rngR_ok (rngOk_of (show (-1000000 : Int) ≤ 1 by omega) (show (2 * (L.box : Int) + 1) ≤ 1000000 by omega) (by omega) (by omega))]
  obtain ⟨Q, hQ⟩ : ∃ Q : Fl → Prop, Q = fun x => Z (fin st x) := ⟨_, rfl⟩
  have out : ∀ v s, (s = st ∧ (∃ a b, v = .tup [a, b]) ∧ ¬ (RoomA L ∧ RoomB L)) → Q (.ret v s) := by
    rintro v s ⟨rfl, ⟨a, b, rfl⟩, h⟩
    rw [hQ, hZ]
    exact .inr ⟨a, b, fin_same _ _, h⟩
  suffices goal : Q _ by rw [hQ] at goal; exact goal
  refine for_ret Q (fun i env s => ∃ v4, env = [some (ruleV L), some (.tup WV), some (.tup TV), some (.int (2 * L.box)), v4, none] ∧ s = st ∧ ∀ k, 1 ≤ k → k ≤ i → tab (trueS L) k ≤ wRec L.steps k) (fun v s => s = st ∧ (∃ a b, v = .tup [a, b]) ∧ ¬ (RoomA L ∧ RoomB L)) ⟨none, rfl, rfl, fun k h1 h2 => by omega⟩ ?_ ?_ out
  · rintro i x env s hx ⟨v4, rfl, rfl, hk⟩
    rw [range_at] at hx
    split at hx
    · rename_i hi
      cases hx
      have il : i + 1 ≤ 2 * L.box := by omega
      have ec : (1 + (i : Int)) = ((i + 1 : Nat) : Int) := by omega
      have w := wat (i + 1) il
      have t := tat (i + 1) il
      have e := e2 (i + 1)
      rw [ec]
      simp at w t e
      by_cases h : (wRec L.steps (i + 1) : Int) < tab (trueS L) (i + 1)
      · right
        refine ⟨_, s, ?_, rfl, ⟨nm (red ((i + 1 : Nat) : Int) 2), .tup [.int (tab (trueS L) (i + 1)), .int 1], rfl⟩, fun q => ?_⟩
        · simp [w, t, h, e]
        · have := q.1 (i + 1) (by omega) il
          omega
      · left
        refine ⟨_, s, ?_, some (.int ((i : Int) + 1)), rfl, rfl, fun k h1 h2 => ?_⟩
        · simp [w, t, h]
        · by_cases ek : k = i + 1
          · subst ek; omega
          · exact hk k h1 (by omega)
    · cases hx
  · rintro env s ⟨v4, rfl, rfl, hA⟩
    have e : (rangeL 1 (2 * (L.box : Int) + 1)).length = 2 * L.box := by rw [range_len]; omega
    rw [e] at hA
    rw [y_cons]
    simp [-y_cons, rngD_ok (show (-1000000 : Int) ≤ 2 * (L.box : Int) by omega) (show (0 : Int) ≤ 1000000 by omega) (by omega) (by omega)]
    refine for_ret Q (fun i env s' => ∃ v4 v5, env = [some (ruleV L), some (.tup WV), some (.tup TV), some (.int (2 * L.box)), v4, v5] ∧ s' = s ∧ ∀ k, k ≤ 2 * L.box → 2 * L.box < k + i → (L.bound : Int) ≤ wRec L.steps k + wRec L.steps (2 * L.box - k)) (fun v s' => s' = s ∧ (∃ a b, v = .tup [a, b]) ∧ ¬ (RoomA L ∧ RoomB L)) ⟨v4, none, rfl, rfl, fun k h1 h2 => by omega⟩ ?_ ?_ out
    · rintro i x env s' hx ⟨v4, v5, rfl, rfl, hk⟩
      rw [List.getElem?_map] at hx
      obtain ⟨j, hj, rfl⟩ := Option.map_eq_some_iff.mp hx
      have hj1 := (List.getElem?_eq_some_iff.mp hj).1
      rw [List.length_range] at hj1
      rw [List.getElem?_range hj1] at hj
      cases hj
      have il : i < 2 * L.box := by omega
      obtain ⟨k, hk2⟩ : ∃ k, k = 2 * L.box - i := ⟨_, rfl⟩
      have ec : (2 * (L.box : Int) - (i : Int)) = ((k : Nat) : Int) := by omega
      have ed : (2 * (L.box : Int) - (k : Int)) = ((2 * L.box - k : Nat) : Int) := by omega
      have w := wat k (by omega)
      have w' := wat (2 * L.box - k) (by omega)
      have e := e2 k
      rw [ec]
      have wl : ∀ j, (wRec L.steps j : Int) ≤ 999999999 := fun j => by
        rcases wRec_of L.steps j with h | ⟨t, ht, _, h⟩
        · rw [h]; decide
        · have := (ok.st t ht).w; omega
      have w1 := wl k
      have w2 := wl (2 * L.box - k)
      by_cases h : (wRec L.steps (2 * L.box - k) : Int) < L.bound - wRec L.steps k
      · right
        have dp : 0 < 2 * (L.box : Int) / k := Int.le_ediv_of_mul_le (by omega) (by omega)
        have dl : 2 * (L.box : Int) / k ≤ 2 * L.box := Int.ediv_le_self _ (by omega)
        have nn : (0 : Int) ≤ wRec L.steps k * (2 * (L.box : Int) / k) + (L.bound - wRec L.steps k - wRec L.steps (2 * L.box - k)) := by
          have := Int.mul_nonneg (show (0 : Int) ≤ wRec L.steps k by omega) (Int.le_of_lt dp)
          omega
        have en := fun s => number_ok (n - 1) (by omega) (wRec L.steps k * (2 * (L.box : Int) / k) + (L.bound - wRec L.steps k - wRec L.steps (2 * L.box - k))) (2 * (L.box : Int) / k) s nn dp (Nat.lt_of_lt_of_le (show (2 * (L.box : Int) / k).natAbs < 2 ^ 20 by omega) (Nat.pow_le_pow_right (by decide) (by decide)))
        have dv : divOk (k : Int) = true := divOk_small (by omega) (by omega)
        have mw : mulOk (wRec L.steps k : Int) (2 * (L.box : Int) / k) = true := mulOk_l (by omega) (by omega)
        refine ⟨_, s', ?_, rfl, ⟨nm (red (k : Int) 2), nm (red (wRec L.steps k * (2 * (L.box : Int) / k) + (L.bound - wRec L.steps k - wRec L.steps (2 * L.box - k))) (2 * (L.box : Int) / k)), rfl⟩, fun q => ?_⟩
        · simp [ob, w, ed, w', h, e, dv, mw, en]
        · have := q.2 k (by omega) (by omega)
          omega
      · left
        refine ⟨_, s', ?_, some (.int (k : Int)), some (.int (L.bound - wRec L.steps k - wRec L.steps (2 * L.box - k))), rfl, rfl, fun j h1 h2 => ?_⟩
        · simp [ob, w, ed, w', h]
        · by_cases ek : j = k
          · subst ek; omega
          · exact hk j h1 (by omega)
    · rintro env s' ⟨v4, v5, rfl, rfl, hB⟩
      rw [hQ]
      simp
      rw [hZ]
      left
      refine ⟨rfl, ?_⟩
      refine ⟨fun k h1 h2 => hA k h1 h2, fun k h1 h2 => hB k h2 ?_⟩
      simp
      omega
end LW
end V8_text

section V9_text
set_option linter.all false
set_option maxRecDepth 100000
/-! Greatest rules told. -/
namespace LW
open MP
def wGreatest : List Nat := [103, 114, 101, 97, 116, 101, 115, 116]
def wRoom : List Nat := [114, 111, 111, 109]
-- BLOCK
theorem greatest_ok (n : Nat) (hn : 6 ≤ n) (L : Lore) (S : Sound L) (st : Sto) :
    (sem prog n f_greatest [ruleV L] st = .ok (.tup [.str wGreatest]) st ∧ RoomA L ∧ RoomB L) ∨ ∃ a b, sem prog n f_greatest [ruleV L] st = .ok (.tup [.str wRoom, a, b]) st ∧ ¬ (RoomA L ∧ RoomB L) := by
  rw [sem_call (d := d_greatest) (by omega) rfl rfl]
  have e1 := fun s => check_sound_ok (n - 1) (by omega) L S s
  rcases first_room_ok (n - 1) (by omega) L S.ok S.h0 st with ⟨e, h⟩ | ⟨a, b, e, h⟩
  · left
    refine ⟨?_, h⟩
    simp [d_greatest, b_greatest, e1, e, wGreatest]
  · right
    refine ⟨a, b, ?_, h⟩
    simp [d_greatest, b_greatest, e1, e, wRoom]
def besideN (L : Lore) (q : Q2) (s : Nat) : Int := if s % 2 = 0 then ((L.box : Int) - s / 2) * q.2 / q.1 else (((L.box : Int) - s / 2) * q.2 - 1) / q.1
-- BLOCK
theorem most_beside_ok (n : Nat) (hn : 2 ≤ n) (L : Lore) (ok : OkLore L) (q : Q2) (h : OkSize L.box q) (h1 : q.1.natAbs < 2 ^ 64) (s : Nat) (hs : s ≤ 2 * L.box) (st : Sto) : sem prog n f_most_beside [ruleV L, nm q, .int s] st = .ok (.int (besideN L q s)) st := by
  rw [sem_call (d := d_most_beside) (by omega) rfl rfl]
  have b2 := ok.b2
  have p := h.pos
  have d2 : divOk 2 = true := divOk_small (by decide) (by decide)
  have dq : divOk q.1 = true := divOk_small p (by omega)
  have m : mulOk ((L.box : Int) - s / 2) q.2 = true := mulOk_l (by omega) (by omega)
  have i0 : ∀ s, item s (nm q) (.int 0) = some (.int q.1) := fun s => rfl
  have i1 : ∀ s, item s (nm q) (.int 1) = some (.int q.2) := fun s => rfl
  unfold besideN
  by_cases hp : s % 2 = 0
  · have hp' : (s : Int) % 2 = 0 := by omega
    simp [d_most_beside, b_most_beside, rule_box (n - 1) (by omega), d2, i0, i1, m, setVs, hp, hp', dq]
  · have hp' : ¬ (s : Int) % 2 = 0 := by omega
    have hp1 : (s : Int) % 2 = 1 := by omega
    have hp2 : s % 2 = 1 := by omega
    simp [d_most_beside, b_most_beside, rule_box (n - 1) (by omega), d2, i0, i1, m, setVs, hp, hp', hp1, hp2, dq]
-- BLOCK
theorem is_sound_with_no (n : Nat) (hn : 4 ≤ n) (L : Lore) (ok : OkLore L) (h0 : wRec L.steps 1 = 0) (q : Q2) (h : OkSize L.box q) (h1 : q.1.natAbs < 2 ^ 64) (r : Q2) (r0 : 0 ≤ r.1) (r1 : r.1 < 18446744073709551616) (r2 : 0 < r.2) (r3 : r.2 < 18446744073709551616)
    (s0 : Nat) (hs : s0 ≤ 2 * L.box) (g1 : 0 < besideN L q s0) (g2 : (L.bound - tab (trueS L) s0) * r.2 < besideN L q s0 * r.1) (st : Sto) : sem prog n f_is_sound_with [ruleV L, nm q, nm r] st = .ok (.bl false) st := by
  rw [sem_call (d := d_is_sound_with) (by omega) rfl rfl]
  have b2 := ok.b2
  have e1 := fun s => least_table_ok (n - 1) (by omega) L ok h0 s
  have ob := fun s => rule_bound (n - 1) (by omega) L s
  have i0 : ∀ s, item s (nm r) (.int 0) = some (.int r.1) := fun s => rfl
  have i1 : ∀ s, item s (nm r) (.int 1) = some (.int r.2) := fun s => rfl
  have tat := fun (j : Nat) (hj : j ≤ 2 * L.box) => tab_at L hj
  have len : ((tabL (trueS L) (2 * L.box)).map CV.int).length = 2 * L.box + 1 := by rw [List.length_map, tabL_len]
  generalize (tabL (trueS L) (2 * L.box)).map CV.int = TV at *
  simp only [d_is_sound_with, b_is_sound_with]
  rw [y_cons]
  simp [-y_cons, e1]
  refine for_ret (fun x => fin st x = _) (fun i env s => i ≤ s0 ∧ s = st ∧ ∃ v3 v4 v5, env = [some (ruleV L), some (nm q), some (nm r), v3, v4, v5]) (fun v s => v = .bl false ∧ s = st) ⟨Nat.zero_le _, rfl, none, none, none, rfl⟩ ?_ ?_ ?_
  · rintro i x env s hx ⟨hi, rfl, v3, v4, v5, rfl⟩
    rw [enum_at, tat i (by omega)] at hx
    cases hx
    have e2 := fun s => most_beside_ok (n - 1) (by omega) L ok q h h1 i (by omega) s
    have m1 : ∀ x : Int, mulOk x r.1 = true := fun x => mulOk_r (by omega) r1
    have m2 : ∀ x : Int, mulOk x r.2 = true := fun x => mulOk_r (by omega) r3
    by_cases c : 0 < besideN L q i ∧ (L.bound - tab (trueS L) i) * r.2 < besideN L q i * r.1
    · right
      refine ⟨.bl false, s, ?_, rfl, rfl⟩
      simp [e2, ob, i0, i1, m1, m2, c.1, c.2]
    · left
      have hne : i ≠ s0 := fun e => c (by rw [e]; exact ⟨g1, g2⟩)
      refine ⟨_, s, ?_, by omega, rfl, some (.int i), some (.int (tab (trueS L) i)), some (.int (besideN L q i)), rfl⟩
      by_cases c1 : 0 < besideN L q i
      · have c2 : ¬ (L.bound - tab (trueS L) i) * r.2 < besideN L q i * r.1 := fun z => c ⟨c1, z⟩
        simp [e2, ob, i0, i1, m1, m2, c1, c2]
      · simp [e2, ob, i0, i1, m1, m2, c1]
  · rintro env s ⟨hi, rfl, v3, v4, v5, rfl⟩
    simp [len] at hi
    omega
  · rintro v s ⟨rfl, rfl⟩
    exact fin_same _ _
/-- what is left beside a size -/
theorem beside_pos {L : Lore} (ok : OkLore L) {q : Q2} (h : OkSize L.box q) : 1 ≤ besideN L q (2 * L.box - spc q) := by
  have p := h.pos
  have u := h.num.up
  have sq := spc_eq h.num
  have sl := spc_le h
  unfold spcI at sq
  have e := Int.ediv_mul_add_emod q.1 q.2
  have r0 := Int.emod_nonneg q.1 (show q.2 ≠ 0 by omega)
  have r1 := Int.emod_lt_of_pos q.1 u
  unfold besideN
  by_cases hp : 0 < q.1 % q.2
  · rw [if_pos hp] at sq
    rw [if_neg (by omega)]
    have e2 : (L.box : Int) - ((2 * L.box - spc q : Nat) : Int) / 2 = q.1 / q.2 + 1 := by omega
    rw [e2]
    refine Int.le_ediv_of_mul_le p ?_
    rw [Int.add_mul]
    omega
  · rw [if_neg hp] at sq
    rw [if_pos (by omega)]
    have e2 : (L.box : Int) - ((2 * L.box - spc q : Nat) : Int) / 2 = q.1 / q.2 := by omega
    rw [e2]
    refine Int.le_ediv_of_mul_le p ?_
    omega
theorem red_odd (W : Nat) : red (2 * (W : Int) + 1) 2 = (2 * (W : Int) + 1, 2) := by
  have g : Int.gcd (2 * (W : Int) + 1) 2 = 1 := by
    have d1 : (Int.gcd (2 * (W : Int) + 1) 2 : Int) ∣ 2 := Int.gcd_dvd_right ..
    have d2 : (Int.gcd (2 * (W : Int) + 1) 2 : Int) ∣ 2 * (W : Int) + 1 := Int.gcd_dvd_left ..
    have d3 : (Int.gcd (2 * (W : Int) + 1) 2 : Int) ∣ 1 := by
      have := Int.dvd_sub d2 (Int.dvd_trans d1 (Int.dvd_mul_right 2 (W : Int)))
      rwa [show 2 * (W : Int) + 1 - 2 * W = 1 by omega] at this
    have := Int.le_of_dvd (by decide) d3
    have := gcd_pos (o := 2 * (W : Int) + 1) (u := 2) (by decide)
    omega
  unfold red
  rw [g]
  simp
-- BLOCK
theorem is_said_one (n : Nat) (hn : 1 ≤ n) (x y : List Nat) (st : Sto) : sem prog n f_is_said [.str x, .tup [.str y]] st = .ok (.bl (y == x)) st := by
  rw [sem_call (d := d_is_said) (by omega) rfl rfl]
  simp [d_is_said, b_is_said, cmpop.inop, inSeq, flat, eqv]
-- BLOCK
theorem shows_greatest_no (n : Nat) (hn : 6 ≤ n) (L : Lore) (S : Sound L) (a : RoomA L) (b : RoomB L) (q : Q2) (h : OkSize L.box q) (h1 : q.1.natAbs < 2 ^ 64) (h2 : q.2.natAbs < 2 ^ 64) (st : Sto) :
    sem prog n f_shows_greatest [ruleV L, .tup [.str wRoom, nm q, nm (red (2 * (wAt L q : Int) + 1) 2)]] st = .ok (.bl false) st := by
  rw [sem_call (d := d_shows_greatest) (by omega) rfl rfl]
  have b2 := S.ok.b2
  have e1 := fun s => check_sound_ok (n - 1) (by omega) L S s
  have e2 := fun s => is_tuple3 (n - 1) (by omega) [.str wRoom, nm q, nm (red (2 * (wAt L q : Int) + 1) 2)] 1 1 s
  have e3 := fun s => is_tuple3 (n - 1) (by omega) [.str wRoom, nm q, nm (red (2 * (wAt L q : Int) + 1) 2)] 3 3 s
  have e4 := fun s => is_said_one (n - 1) (by omega) wRoom wRoom s
  have e5 := fun s => is_size_ok (n - 1) (by omega) q h.num L.box (by omega) (by omega) s
  have nr : Num (red (2 * (wAt L q : Int) + 1) 2) := red_num (by omega) (by decide)
  have e6 := fun s => is_number_ok (n - 1) (by omega) _ nr s
  have e7 := fun s => space_of_eq (n - 1) (by omega) q h.num (Nat.lt_of_lt_of_le h2 (Nat.pow_le_pow_right (by decide) (by decide))) s
  have e0 : ∀ s, sem prog (n - 1) f_worths [ruleV L] s = .ok (.tup (worthsL L)) s := fun s => by
    rw [sem_call (d := d_worths) (by omega) rfl rfl]
    simp [d_worths, b_worths, rule_worths]
  have c1 : decide (0 < q.1 ∧ q.1 ≤ (L.box : Int) * q.2) = true := decide_eq_true ⟨h.pos, h.le⟩
  rw [c1] at e5
  have sl := spc_le h
  have wl : wAt L q ≤ 999999999 := by
    unfold wAt
    rcases wRec_of L.steps (spc q) with h | ⟨t, ht, _, h⟩
    · omega
    · have := (S.ok.st t ht).w; omega
  have at_ : atI (worthsL L) (spc q : Int) = some (.int (wAt L q)) := by rw [atN, worths_at L sl]; rfl
  have bl : ∀ s, sem prog (n - 1) f_is_below [.tup [.int (wAt L q), .int 1], nm (red (2 * (wAt L q : Int) + 1) 2)] s = .ok (.bl true) s := fun s => by
    rw [sem_call (d := d_is_below) (by omega) rfl rfl, red_odd]
    have m1 : mulOk (wAt L q : Int) 2 = true := mulOk_r (by omega) (by omega)
    have m2 : mulOk (2 * (wAt L q : Int) + 1) 1 = true := mulOk_r (by omega) (by omega)
    simp [d_is_below, b_is_below, nm, m1, m2]
    omega
  have iw : ∀ s, sem prog (n - 1) f_is_sound_with [ruleV L, nm q, nm (red (2 * (wAt L q : Int) + 1) 2)] s = .ok (.bl false) s := fun s => by
    have best := best_of_room S a b
    have both := best.both (spc q) sl
    have g1 := beside_pos S.ok h
    refine is_sound_with_no (n - 1) (by omega) L S.ok S.h0 q h h1 _ (by rw [red_odd]; simp; omega) (by rw [red_odd]; simp; omega) (by rw [red_odd]; simp) (by rw [red_odd]; simp) (2 * L.box - spc q) (by omega) (by omega) ?_ s
    rw [red_odd, room_eq S a (by omega)]
    show ((L.bound : Int) - wRec L.steps (2 * L.box - spc q)) * 2 < besideN L q (2 * L.box - spc q) * (2 * (wAt L q : Int) + 1)
    have : (2 * (wAt L q : Int) + 1) ≤ besideN L q (2 * L.box - spc q) * (2 * (wAt L q : Int) + 1) := by
      have := Int.mul_le_mul_of_nonneg_right g1 (show 0 ≤ 2 * (wAt L q : Int) + 1 by omega)
      omega
    have : (wAt L q : Int) = wRec L.steps (spc q) := rfl
    omega
  simp at e2 e3
  simp [d_shows_greatest, b_shows_greatest, e1, e2, e3]
  simp [wRoom] at e4 e2 e3 ⊢
  simp [e2, e3, e4, e5, e6, e7, e0, at_, bl, iw, rule_box (n - 1) (by omega)]
/-! ### the law's own look -/
theorem worths_len (L : Lore) : (worthsL L).length = 2 * L.box + 1 := by unfold worthsL; simp
theorem worths_pairs (L : Lore) : pairUp (worthsL L) ((worthsL L).drop 1) = (List.range (2 * L.box)).map fun i => CV.tup [.int (wRec L.steps i), .int (wRec L.steps (i + 1))] := by
  unfold pairUp
  apply List.ext_getElem?
  intro i
  rw [List.getElem?_zipWith, List.getElem?_drop, List.getElem?_map]
  by_cases h : i < 2 * L.box
  · rw [worths_at L (by omega), worths_at L (by omega), List.getElem?_range h]
    simp [Nat.add_comm]
  · rw [List.getElem?_eq_none_iff.mpr (show (List.range (2 * L.box)).length ≤ i by simp; omega)]
    have : (worthsL L)[1 + i]? = none := List.getElem?_eq_none_iff.mpr (by rw [worths_len]; omega)
    rw [this]
    cases (worthsL L)[i]? <;> rfl
-- BLOCK
theorem law_is_best_ok (n : Nat) (hn : 2 ≤ n) (L : Lore) (ok : OkLore L) (st : Sto) : ∃ b : Bool, sem prog n f__law_is_best [.int L.box, .int L.bound, .lst (worthsL L)] st = .ok (.bl b) st ∧ (b = true ↔ IsBest L) := by
  obtain ⟨Z, hZ⟩ : ∃ Z : R CV → Prop, Z = fun x => ∃ b : Bool, x = .ok (.bl b) st ∧ (b = true ↔ IsBest L) := ⟨_, rfl⟩
  suffices goal : Z (sem prog n f__law_is_best [.int L.box, .int L.bound, .lst (worthsL L)] st) by rw [hZ] at goal; exact goal
  rw [sem_call (d := d__law_is_best) (by omega) rfl rfl]
  have b2 := ok.b2
  have m1 : mulOk 2 (L.box : Int) = true := mulOk_l (by omega) (by omega)
  have wat : ∀ j, j ≤ 2 * L.box → atI (worthsL L) (j : Int) = some (.int (wRec L.steps j)) := fun j hj => by rw [atN, worths_at L hj]
  have cut1 : cutL (worthsL L) (some 1) none = (worthsL L).drop 1 := cut_from _ 1 (by decide)
  have prs := worths_pairs L
  rw [List.drop_one] at prs cut1
  have ej := fun (i j : Nat) s => law_join_ok (n - 1) (by omega) (i : Int) (j : Int) s
  simp only [d__law_is_best, b__law_is_best]
  rw [y_cons]
  simp [-y_cons, m1]
  rw [y_cons]
  simp [-y_cons, sliced, cut1, prs]
  rw [compL_mapL (fun i => CV.tup [.int (wRec L.steps i), .int (wRec L.steps (i + 1))]) (fun i => .bl (decide (wRec L.steps (i + 1) < wRec L.steps i))) fun i hi => by simp]
  have an := any_map (List.range (2 * L.box)) (fun i => decide (wRec L.steps (i + 1) < wRec L.steps i)) st
  simp [-y_cons, show 2 * L.box ≤ 16000000 by omega, an]
  have no : (¬ IsBest L) → Z (fin st (.ret (.bl false) st)) := fun h => by
    rw [hZ]
    exact ⟨false, fin_same _ _, by simpa using h⟩
  by_cases h1 : ∃ i, i < 2 * L.box ∧ wRec L.steps (i + 1) < wRec L.steps i
  · rw [if_pos h1]
    simp only [evSs, evS, x_bool, Fl.ofR_ok, Fl.then_ret]
    refine no fun q => ?_
    obtain ⟨i, hi, h⟩ := h1
    have := q.up i (by omega)
    omega
  rw [if_neg h1]
  rw [Fl.then_nx, y_cons]
  simp [-y_cons, rngR_ok (rngOk_of (show (-1000000 : Int) ≤ 0 by omega) (show (2 * (L.box : Int) + 1) ≤ 1000000 by omega) (by omega) (by omega))]
  have rr : rangeL 0 (2 * (L.box : Int) + 1) = (List.range (2 * L.box + 1)).map fun (i : Nat) => CV.int i := by
    rw [range_ints, List.map_map, show (2 * (L.box : Int) + 1 - 0).toNat = 2 * L.box + 1 by omega]
    apply List.map_congr_left
    intro i _
    simp
  rw [rr, compL_mapL (fun (i : Nat) => CV.int i) (fun (i : Nat) => .bl (!decide (wRec L.steps i + wRec L.steps (2 * L.box - i) = L.bound))) fun i hi => by
    have hi := List.mem_range.mp hi
    have e : (2 * (L.box : Int) - i) = ((2 * L.box - i : Nat) : Int) := by omega
    have w1 := wat i (by omega)
    have w2 := wat (2 * L.box - i) (by omega)
    by_cases q : wRec L.steps i + wRec L.steps (2 * L.box - i) = L.bound
    · have q' : (wRec L.steps i : Int) + wRec L.steps (2 * L.box - i) = L.bound := by omega
      simp [e, w1, w2, q, q']
    · have q' : ¬ (wRec L.steps i : Int) + wRec L.steps (2 * L.box - i) = L.bound := by omega
      simp [e, w1, w2, q, q']]
  have an2 := any_map (List.range (2 * L.box + 1)) (fun i => !decide (wRec L.steps i + wRec L.steps (2 * L.box - i) = L.bound)) st
  have lo : lenOk (2 * (L.box : Int) + 1).toNat = true := lenOk_le (by omega)
  simp [-y_cons, lo, an2]
  by_cases h2 : ∃ i, i < 2 * L.box + 1 ∧ ¬ wRec L.steps i + wRec L.steps (2 * L.box - i) = L.bound
  · rw [if_pos h2]
    simp only [evSs, evS, x_bool, Fl.ofR_ok, Fl.then_ret]
    refine no fun q => ?_
    obtain ⟨i, hi, h⟩ := h2
    exact h (q.both i (by omega))
  rw [if_neg h2]
  rw [Fl.then_nx, y_cons]
  simp [-y_cons, rngR_ok (rngOk_of (show (-1000000 : Int) ≤ 1 by omega) (show (2 * (L.box : Int) + 1) ≤ 1000000 by omega) (by omega) (by omega))]
  generalize hWV : worthsL L = WV at *
  obtain ⟨Add, hAdd⟩ : ∃ Add : Nat → Nat → Prop, Add = fun i j => come i j ≤ 2 * L.box → wRec L.steps i + wRec L.steps j ≤ wRec L.steps (come i j) := ⟨_, rfl⟩
  refine for_ret (fun x => Z (fin st x)) (fun i env s => s = st ∧ (∃ v4 v5 v6 v7, env = [some (.int L.box), some (.int L.bound), some (.lst WV), some (.int (2 * L.box)), v4, v5, v6, v7]) ∧ ∀ a b, 1 ≤ b → b ≤ a → a ≤ i → Add a b) (fun v s => v = .bl false ∧ s = st ∧ ¬ IsBest L) ⟨rfl, ⟨_, _, _, _, rfl⟩, fun a b _ _ _ => by omega⟩ ?_ ?_ ?_
  · rintro i x env s hx ⟨rfl, ⟨v4, v5, v6, v7, rfl⟩, hk⟩
    rw [range_at] at hx
    split at hx
    · rename_i hi
      cases hx
      have ec : (1 + (i : Int)) = ((i + 1 : Nat) : Int) := by omega
      rw [ec]
      simp only [x_tvar, only_then, setV0, setVs_]
      rw [y_cons]
      simp [-y_cons, rngR_ok (rngOk_of (show (-1000000 : Int) ≤ 1 by omega) (show ((i : Int) + 1 + 1) ≤ 1000000 by omega) (by omega) (by omega))]
      refine for_ret (fun x => (∃ env' st', x = .nx env' st' ∧ st' = s ∧ (∃ v4 v5 v6 v7, env' = [some (.int L.box), some (.int L.bound), some (.lst WV), some (.int (2 * L.box)), v4, v5, v6, v7]) ∧ ∀ a b, 1 ≤ b → b ≤ a → a ≤ i + 1 → Add a b) ∨ ∃ v st', x = .ret v st' ∧ v = .bl false ∧ st' = s ∧ ¬ IsBest L)
        (fun j env s' => s' = s ∧ (∃ v5 v6 v7, env = [some (.int L.box), some (.int L.bound), some (.lst WV), some (.int (2 * L.box)), some (.int (i + 1)), v5, v6, v7]) ∧ ∀ b, 1 ≤ b → b ≤ j → Add (i + 1) b) (fun v s' => v = .bl false ∧ s' = s ∧ ¬ IsBest L) ⟨rfl, ⟨_, _, _, rfl⟩, fun b _ _ => by omega⟩ ?_ ?_ ?_
      · rintro j x env s' hx ⟨rfl, ⟨v5, v6, v7, rfl⟩, hj⟩
        rw [range_at] at hx
        split at hx
        · rename_i hj2
          cases hx
          have ec2 : (1 + (j : Int)) = ((j + 1 : Nat) : Int) := by omega
          have e := ej (i + 1) (j + 1)
          have cj : (((i + 1 : Nat) : Int) + ((j + 1 : Nat) : Int) - if ((i + 1 : Nat) : Int) % 2 = 1 ∧ ((j + 1 : Nat) : Int) % 2 = 1 then 1 else 0) = ((come (i + 1) (j + 1) : Nat) : Int) := by
            unfold come
            split <;> split <;> omega
          rw [cj] at e
          have w1 := wat (i + 1) (by omega)
          have w2 := wat (j + 1) (by omega)
          rw [ec2]
          simp at e w1 w2
          by_cases c : come (i + 1) (j + 1) ≤ 2 * L.box
          · have c' : ((come (i + 1) (j + 1) : Nat) : Int) ≤ 2 * L.box := by omega
            have w3 := wat _ c
            by_cases d : wRec L.steps (come (i + 1) (j + 1)) < wRec L.steps (i + 1) + wRec L.steps (j + 1)
            · right
              have d' : (wRec L.steps (come (i + 1) (j + 1)) : Int) < wRec L.steps (i + 1) + wRec L.steps (j + 1) := by omega
              refine ⟨.bl false, s', ?_, rfl, rfl, fun q => ?_⟩
              · simp [e, c', w1, w2, w3, d']
              · have := q.add (i + 1) (j + 1) (by omega) (by omega) (by omega) c
                omega
            · left
              have d' : ¬ (wRec L.steps (come (i + 1) (j + 1)) : Int) < wRec L.steps (i + 1) + wRec L.steps (j + 1) := by omega
              refine ⟨_, s', ?_, rfl, ⟨some (.int ((j : Int) + 1)), v6, some (.int (come (i + 1) (j + 1) : Nat)), rfl⟩, fun b h1 h2 => ?_⟩
              · simp [e, c', w1, w2, w3, d']
              · by_cases eb : b = j + 1
                · subst eb
                  rw [hAdd]
                  intro _
                  omega
                · exact hj b h1 (by omega)
          · left
            have c' : ¬ ((come (i + 1) (j + 1) : Nat) : Int) ≤ 2 * L.box := by omega
            refine ⟨_, s', ?_, rfl, ⟨some (.int ((j : Int) + 1)), v6, some (.int (come (i + 1) (j + 1) : Nat)), rfl⟩, fun b h1 h2 => ?_⟩
            · simp [e, c']
            · by_cases eb : b = j + 1
              · subst eb
                rw [hAdd]
                intro z
                exact absurd z c
              · exact hj b h1 (by omega)
        · cases hx
      · rintro env s' ⟨rfl, ⟨v5, v6, v7, rfl⟩, hj⟩
        rw [range_len] at hj
        left
        refine ⟨[some (.int L.box), some (.int L.bound), some (.lst WV), some (.int (2 * L.box)), some (.int (i + 1)), v5, v6, v7], _, by simp, rfl, ⟨some (.int (i + 1)), v5, v6, v7, rfl⟩, fun a b h1 h2 h3 => ?_⟩
        by_cases ea : a = i + 1
        · subst ea
          exact hj b h1 (by omega)
        · exact hk a b h1 h2 (by omega)
      · rintro v s' ⟨rfl, rfl, h⟩
        exact .inr ⟨_, _, rfl, rfl, rfl, h⟩
    · cases hx
  · rintro env s ⟨rfl, ⟨v4, v5, v6, v7, rfl⟩, hk⟩
    rw [range_len] at hk
    simp [-fin_same]
    rw [hZ]
    refine ⟨true, fin_same _ _, by
      simp only [true_iff]
      refine ⟨fun i hi => ?_, fun i hi => ?_, fun i j h1 h2 h3 h4 => ?_⟩
      · exact Nat.le_of_not_lt fun q => h1 ⟨i, by omega, q⟩
      · exact Classical.byContradiction fun q => h2 ⟨i, by omega, q⟩
      · have := hk i j h1 h2 (by omega)
        rw [hAdd] at this
        exact this h4⟩
  · rintro v s ⟨rfl, rfl, h⟩
    exact no h
-- BLOCK
theorem law_is_greatest_ok (n : Nat) (hn : 4 ≤ n) (L : Lore) (ok : OkLore L) (st : Sto) : ∃ b : Bool, sem prog n f__law_is_greatest [loreV L] st = .ok (.bl b) st ∧ (b = true ↔ IsBest L) := by
  obtain ⟨b, e, h⟩ := law_is_best_ok (n - 1) (by omega) L ok st
  refine ⟨b, ?_, h⟩
  rw [sem_call (d := d__law_is_greatest) (by omega) rfl rfl]
  have sl := steps_len ok
  have e2 := law_worths_ok (n - 1) (by omega) L ok (by omega) st
  have i1 := lore_box L
  have i2 := lore_bound L
  simp only [wBox, wBound] at i1 i2
  simp [d__law_is_greatest, b__law_is_greatest, i1, i2, e2, e]
end LW
end V9_text

section V10_text
set_option linter.all false
set_option maxRecDepth 100000
/-! Small rules are right. -/
namespace LW
open MP
theorem parts_d (n : Nat) (hn : 2 ≤ n) {st : Sto} {p b : Nat} {w : Pot} (hlt : p < st.length) (ok : OkPot b w) (box : Nat) (b1 : 1 ≤ box) (b2 : box ≤ 60) (hb : b + 4 < 2 ^ 50) :
    Drawn st p (b + 4) (sem prog n f__law_some [.loc p, .lst (rangeL 1 (12 * (box : Int) + 1)), .int 4] (st.set p (potO w))) fun v => ∃ ms : List Nat, v = .lst (ms.map fun (m : Nat) => CV.int m) ∧ ms.length ≤ 4 ∧ ∀ m ∈ ms, 1 ≤ m ∧ m ≤ 12 * box := by
  refine (some_d n hn hlt ok (rangeL 1 (12 * (box : Int) + 1)) (fun x hx => ?_) (by rw [range_len]; omega) 4 (by rw [range_len]; omega) hb).mono (Nat.le_refl _) ?_
  · rw [range_ints] at hx
    obtain ⟨i, _, rfl⟩ := List.mem_map.mp hx
    exact .int _
  · rintro v ⟨ys, zs, rfl, yl, hp⟩
    rw [range_ints] at hp
    obtain ⟨ms, rfl, _, hm, _⟩ := ints_perm hp
    have key : ∀ m ∈ ms, 1 ≤ m ∧ m ≤ 12 * (box : Int) := fun m h => by
      obtain ⟨i, hi, rfl⟩ := List.mem_map.mp (hm m h)
      have := List.mem_range.mp hi
      omega
    rw [List.length_map] at yl
    refine ⟨ms.map Int.toNat, ?_, by rw [List.length_map]; omega, fun m h => ?_⟩
    · rw [List.map_map]
      congr 1
      apply List.map_congr_left
      intro m h
      have := key m h
      show CV.int m = CV.int (m.toNat : Int)
      congr 1
      omega
    · obtain ⟨i, hi, rfl⟩ := List.mem_map.mp h
      have := key i hi
      omega
theorem twelfth {box m : Nat} (h1 : 1 ≤ m) (h2 : m ≤ 12 * box) (b2 : box ≤ 60) : OkSize box (red m 12) ∧ (red m 12).1.natAbs < 2 ^ 64 ∧ (red m 12).2.natAbs < 2 ^ 64 := by
  have n := red_num (o := (m : Int)) (u := 12) (by omega) (by decide)
  have l1 := red_le1 (o := (m : Int)) (u := 12) (by omega) (by decide)
  have l2 := red_le2 (o := (m : Int)) (u := 12) (by decide)
  have a := n.nn
  have c := n.up
  exact ⟨red_size (by omega) (by decide) (by omega), by omega, by omega⟩
theorem twelfth_spc (m : Nat) : spc (red m 12) = spc (part24 (2 * m)) := by
  have i1 : Is (red m 12) m 12 := Is.cut (by decide) rfl
  have i2 : Is (part24 (2 * m)) m 12 := Is.cut (by decide) (by push_cast; omega)
  have e1 := spcI_is (red_num (o := (m : Int)) (u := 12) (by omega) (by decide)).up (by decide) i1
  have e2 := spcI_is (part24_num (2 * m)).up (by decide) i2
  unfold spc
  rw [e1, e2]
-- BLOCK
set_option maxHeartbeats 4000000 in
theorem small_right_ok (n : Nat) (hn : 8 ≤ n) {st : Sto} {p b : Nat} {w : Pot} (hlt : p < st.length) (okp : OkPot b w) (hb : b + 100 < 2 ^ 50) (L : Lore) (ok : OkLore L) (b3 : L.box ≤ 3) (c4 : L.bound ≤ 4) :
    Drawn st p (b + 8) (sem prog n f__law_is_small_right [.loc p, loreV L] (st.set p (potO w))) fun v => v = .bl true := by
  rw [sem_call (d := d__law_is_small_right) (by omega) rfl rfl]
  have b1 := ok.b1
  have sl := steps_len ok
  have e1 := fun s => law_rule_ok (n - 1) (by omega) L ok s
  have e2 := fun s => law_fills_ok (n - 1) (by omega) L ok s
  have e3 := fun s => law_is_endless_ok (n - 1) (by omega) L ok (by omega) s
  have i1 := lore_box L
  have i2 := lore_bound L
  have i3 := lore_steps L
  simp only [wBox, wBound, wSteps] at i1 i2 i3
  have fln := fl_len (w24 L) (24 * L.box)
  have fat : ∀ j : Nat, j ≤ 24 * L.box → atI ((fl (w24 L) (24 * L.box)).map CV.int) (j : Int) = some (.int (fw (w24 L) j)) := fun j hj => by
    rw [atN, List.getElem?_map, ← fl_at (w24 L) hj, List.getD_eq_getElem?_getD, List.getElem?_eq_getElem (by omega)]
    rfl
  have last : ((fl (w24 L) (24 * L.box)).map CV.int).getLast? = some (.int (fw (w24 L) (24 * L.box))) := by
    have := fat (24 * L.box) (Nat.le_refl _)
    rw [atN] at this
    rw [List.getLast?_eq_getElem?, List.length_map, fln]
    exact this
  have m12 : mulOk 12 (L.box : Int) = true := mulOk_l (by omega) (by omega)
  have m2 : ∀ x : Int, mulOk 2 x = true := fun x => mulOk_l (by omega) (by omega)
  have en := fun (m : Nat) s => law_number_ok (n - 1) (by omega) (m : Int) 12 s (by omega) (by decide) (by decide)
  generalize hFV : (fl (w24 L) (24 * L.box)).map CV.int = FV at *
  simp only [d__law_is_small_right, b__law_is_small_right]
  rw [y_cons]
  simp [-y_cons, e1, e2, setVs]
  rw [y_cons]
  simp [-y_cons, last, i2]
  by_cases h0 : 0 < wRec L.steps 1
  · -- no end
    have fe := fills_endless h0
    have ns : ¬ fw (w24 L) (24 * L.box) ≤ (L.bound : Int) := by omega
    obtain ⟨v, e4, J⟩ := judged_ok (n - 1) (by omega) L ok (st.set p (potO w))
    have ev : ∃ t, v = .tup [.str wBroken, t] := by
      cases J with
      | sound z => omega
      | endless z => exact ⟨_, rfl⟩
      | broken z => exact ⟨_, rfl⟩
    obtain ⟨t, rfl⟩ := ev
    rw [decide_eq_true h0] at e3
    rw [y_cons]
    simp [-y_cons, e4, wBroken, ns, eqv]
    rw [y_cons]
    simp [-y_cons, e3]
    rw [y_cons]
    simp [-y_cons]
    rw [y_cons]
    simp [-y_cons]
    exact ⟨_, w, rfl, okp.mono (by omega), rfl⟩
  have h0 : wRec L.steps 1 = 0 := by omega
  rw [h0] at e3
  simp at e3
  have ft : fw (w24 L) (24 * L.box) = tab (trueS L) (2 * L.box) := by
    have := fills_tab ok h0 b3 (f := 24 * L.box) (by omega) (Nat.le_refl _)
    rw [this, spc_part]
    congr 1
    rw [if_neg (by omega)]
    omega
  obtain ⟨v, e4, J⟩ := judged_ok (n - 1) (by omega) L ok (st.set p (potO w))
  -- the draws
  obtain ⟨_, w2, e5, ok2, ms, rfl, ml, hm⟩ := parts_d (n - 1) (by omega) hlt okp L.box ok.b1 ok.b2 (by omega)
  have rg : rngOk 1 (12 * (L.box : Int) + 1) = true := rngOk_of (by omega) (by omega) (by omega) (by omega)
  have mostE : ∀ m ∈ ms, ∀ s, sem prog (n - 1) f_most [ruleV L, nm (red m 12)] s = .ok (.int (fw (w24 L) (2 * m))) s := fun m h s => by
    obtain ⟨h1, h2⟩ := hm m h
    obtain ⟨o1, o2, o3⟩ := twelfth h1 h2 ok.b2
    rw [most_ok (n - 1) (by omega) L ok h0 _ o1 o3 s, fills_tab ok h0 b3 (f := 2 * m) (by omega) (by omega), twelfth_spc]
  -- what comes behind the first loop
  have mid : ∀ (sd : Bool) (k : Env → Sto → Fl) (v5 v6 v7 v8 v9 v10 : Option CV), (∀ v5, Drawn st p (b + 8) (fin (st.set p (potO w)) (k [some (.loc p), some (loreV L), some (ruleV L), some (.lst FV), some (.bl sd), v5, v6, v7, v8, v9, v10] (st.set p (potO w2)))) fun v => v = .bl true) →
      Drawn st p (b + 8) (fin (st.set p (potO w)) ((evS prog (sem prog (n - 1)) (.fors (.var 5) (.seq (.call f__law_some (.cons false (.var 0) (.cons false (.bfn .rng2 (.cons false (.int 1) (.cons false (.bin .add (.bin .mul (.int 12) (.idx (.var 1) (.str [98, 111, 120]))) (.int 1)) .nil))) (.cons false (.int 4) .nil))))) (.cons (.ifs (.cmp .ne (.call f_most (.cons false (.var 2) (.cons false (.call f__law_number (.cons false (.var 5) (.cons false (.int 12) .nil))) .nil))) (.idx (.var 3) (.bin .mul (.int 2) (.var 5)))) (.cons (.ret (.yes (.bool false))) .nil) .nil) .nil)) [some (.loc p), some (loreV L), some (ruleV L), some (.lst FV), some (.bl sd), v5, v6, v7, v8, v9, v10] (st.set p (potO w))).then k)) fun v => v = .bl true := fun sd k v5 v6 v7 v8 v9 v10 hk => by
    simp [i1, m12, rg, e5]
    refine for_N (fun x => Drawn st p (b + 8) (fin (st.set p (potO w)) x) fun v => v = .bl true) (fun i env s => s = st.set p (potO w2) ∧ ∃ v5, env = [some (.loc p), some (loreV L), some (ruleV L), some (.lst FV), some (.bl sd), v5, v6, v7, v8, v9, v10]) ⟨rfl, _, rfl⟩ ?_ ?_
    · rintro i x env s hx ⟨rfl, v5, rfl⟩
      rw [List.getElem?_map] at hx
      obtain ⟨m, hm1, rfl⟩ := Option.map_eq_some_iff.mp hx
      have hmm := List.mem_of_getElem? hm1
      obtain ⟨h1, h2⟩ := hm m hmm
      have f := fat (2 * m) (by omega)
      have me := mostE m hmm
      have e := en m
      simp at f
      simp [e, me, f, m2]
    · rintro env s ⟨rfl, v5, rfl⟩
      exact hk v5
  cases J with
  | endless z => omega
  | broken z hgt xs s bk hz =>
    have ns : ¬ fw (w24 L) (24 * L.box) ≤ (L.bound : Int) := by omega
    rw [y_cons]
    simp [-y_cons, e4, wBroken, ns, eqv]
    rw [y_cons]
    simp [-y_cons, e3]
    rw [y_cons, then_as]
    refine mid false _ _ _ _ _ _ _ fun v5 => ?_
    rw [y_nil, Fl.then_nx, y_cons]
    simp [-y_cons]
    rw [y_cons]
    simp [-y_cons]
    exact ⟨_, w2, exitR_len (by simp), ok2.mono (by omega), rfl⟩
  | sound z hle =>
    have S : Sound L := ⟨ok, h0, hle⟩
    have ys : fw (w24 L) (24 * L.box) ≤ (L.bound : Int) := by omega
    rw [y_cons]
    simp [-y_cons, e4, wSound, ys, eqv]
    rw [y_cons]
    simp [-y_cons, e3]
    rw [y_cons, then_as]
    refine mid true _ _ _ _ _ _ _ fun v5 => ?_
    rw [y_nil, Fl.then_nx, y_cons]
    simp [-y_cons]
    have mt : ∀ s, methOf prog s (ruleV L) a_with_worth = some f_Rule_with_worth := fun s => meth_rcd rfl rfl
    have lb := law_is_greatest_ok (n - 1) (by omega) L ok
    have worthE := fun (m : Nat) (h1 : 1 ≤ m) (h2 : m ≤ 12 * L.box) s => law_worth_ok (n - 1) (by omega) L ok (by omega) (red m 12) (twelfth h1 h2 ok.b2).1.num (twelfth h1 h2 ok.b2).2.2 s
    have num2 := fun (x : Nat) s => law_number_ok (n - 1) (by omega) (2 * (x : Int) + 1) 2 s (by omega) (by decide) (by decide)
    have gr := fun s => greatest_ok (n - 1) (by omega) L S s
    have sg := fun (a : RoomA L) (b : RoomB L) (m : Nat) (h1 : 1 ≤ m) (h2 : m ≤ 12 * L.box) s => shows_greatest_no (n - 1) (by omega) L S a b (red m 12) (twelfth h1 h2 ok.b2).1 (twelfth h1 h2 ok.b2).2.1 (twelfth h1 h2 ok.b2).2.2 s
    rw [y_cons]
    simp [-y_cons, i3]
    refine for_N (fun x => Drawn st p (b + 8) (fin (st.set p (potO w)) x) fun v => v = .bl true) (fun i env s => s = st.set p (potO w2) ∧ ∃ v5 v6 v7 v8 v9, env = [some (.loc p), some (loreV L), some (ruleV L), some (.lst FV), some (.bl true), v5, v6, v7, v8, v9, none]) ⟨rfl, _, _, _, _, _, rfl⟩ ?_ ?_
    · rintro i x env s hx ⟨rfl, v5, v6, v7, v8, v9, rfl⟩
      rw [enum_at, List.getElem?_map] at hx
      obtain ⟨y, hy, rfl⟩ := Option.map_eq_some_iff.mp hx
      obtain ⟨t, ht, rfl⟩ := Option.map_eq_some_iff.mp hy
      have o := ok.st t (List.mem_of_getElem? ht)
      have e6 := fun s => with_worth_ok (n - 1) (by omega) L ok i t ht (t.2.2 - 1) (by have := o.w; omega) s
      have S' := putW_sound S ht (w := t.2.2 - 1) (by omega)
      obtain ⟨v, e7, J⟩ := judged_ok (n - 1) (by omega) _ S'.ok (st.set p (potO w2))
      obtain ⟨tt, rfl⟩ := judged_sound S' J
      have mx : (if (t.2.2 : Int) - 1 > 0 then (t.2.2 : Int) - 1 else 0) = ((t.2.2 - 1 : Nat) : Int) := by split <;> omega
      have mx2 : ∀ s, bfnop s .max2 [.int 0, .int ((t.2.2 : Int) - 1)] = some (.int ((t.2.2 - 1 : Nat) : Int)) := fun s => by
        rw [f_max2, max_int, mx]
      refine ⟨[some (.loc p), some (loreV L), some (ruleV L), some (.lst FV), some (.bl true), v5, some (.int i), some (.str (word t.1)), some (.int t.2.1), some (.int t.2.2), none], st.set p (potO w2), ?_, rfl, _, _, _, _, _, rfl⟩
      simp [-f_max2, stepV, mt, mx2, e6, e7, wSound]
    · rintro env s ⟨rfl, v5, v6, v7, v8, v9, rfl⟩
      clear mid mostE
      rw [y_cons]
      by_cases ab : RoomA L ∧ RoomB L
      · have gE : ∀ s, sem prog (n - 1) f_greatest [ruleV L] s = .ok (.tup [.str wGreatest]) s := fun s => by
          rcases gr s with ⟨e, _⟩ | ⟨_, _, _, h⟩
          · exact e
          · exact absurd ab h
        obtain ⟨_, w3, e8, ok3, ks, rfl, kl, hk⟩ := parts_d (n - 1) (by omega) hlt ok2 L.box ok.b1 ok.b2 (by omega)
        simp [-y_cons, gE, wGreatest, eqv]
        rw [y_cons]
        simp [-y_cons, i1, m12, rg, e8]
        refine for_N (fun x => Drawn st p (b + 8) (fin (st.set p (potO w)) x) fun v => v = .bl true) (fun i env s => s = st.set p (potO w3) ∧ ∃ v5 v10, env = [some (.loc p), some (loreV L), some (ruleV L), some (.lst FV), some (.bl true), v5, v6, v7, v8, v9, v10]) ⟨rfl, _, _, rfl⟩ ?_ ?_
        · rintro i x env s hx ⟨rfl, v5, v10, rfl⟩
          rw [List.getElem?_map] at hx
          obtain ⟨m, hm1, rfl⟩ := Option.map_eq_some_iff.mp hx
          obtain ⟨h1, h2⟩ := hk m (List.mem_of_getElem? hm1)
          have e := en m
          have we := worthE m h1 h2
          have n2 := num2 (wAt L (red m 12))
          have sh := sg ab.1 ab.2 m h1 h2
          simp only [wRoom] at sh
          refine ⟨_, st.set p (potO w3), ?_, rfl, some (.int m), some (nm (red m 12)), rfl⟩
          simp [e, we, n2, sh, m2]
        · rintro env s ⟨rfl, v5, v10, rfl⟩
          obtain ⟨bb, eb, hb⟩ := lb (st.set p (potO w3))
          have : bb = true := hb.mpr (best_of_room S ab.1 ab.2)
          subst this
          simp [gE, wGreatest, eb, eqv]
          exact ⟨_, w3, exitR_len (by simp), ok3.mono (by omega), rfl⟩
      · obtain ⟨a, c, gE⟩ : ∃ a c, sem prog (n - 1) f_greatest [ruleV L] (st.set p (potO w2)) = .ok (.tup [.str wRoom, a, c]) (st.set p (potO w2)) := by
          rcases gr (st.set p (potO w2)) with ⟨_, h⟩ | ⟨a, c, e, _⟩
          · exact absurd h ab
          · exact ⟨a, c, e⟩
        obtain ⟨bb, eb, hb⟩ := lb (st.set p (potO w2))
        have : bb = false := by
          cases bb with
          | false => rfl
          | true => exact absurd (room_of_best S (hb.mp rfl)) ab
        subst this
        simp [-y_cons, gE, wRoom, eqv]
        rw [y_cons]
        simp [-y_cons, gE, wRoom, eb, eqv]
        exact ⟨_, w2, exitR_len (by simp), ok2.mono (by omega), rfl⟩
end LW
end V10_text

section V11_text
set_option linter.all false
set_option maxRecDepth 100000
/-! The law is right. -/
namespace LW
open MP
-- BLOCK
set_option maxHeartbeats 4000000 in
theorem law_right_ok (n : Nat) (hn : 9 ≤ n) {st : Sto} {p b : Nat} {w : Pot} (hlt : p < st.length) (ok : OkPot b w) (hb : b + 1000 < 2 ^ 50) :
    Drawn st p (b + 1000) (sem prog n f__law_right [.loc p] (st.set p (potO w))) fun v => v = .bl true := by
  obtain ⟨_, w1, e1, ok1, d1, rfl, a1, c1⟩ := take_d (n - 1) (by omega) hlt ok (by omega) 3 (by decide) (by decide)
  obtain ⟨_, w2, e2, ok2, d2, rfl, a2, c2⟩ := take_d (n - 1) (by omega) hlt ok1 (by omega) 4 (by decide) (by decide)
  obtain ⟨B, hB⟩ : ∃ B : Nat, 1 + d1 = B := ⟨(1 + d1).toNat, by omega⟩
  obtain ⟨C, hC⟩ : ∃ C : Nat, 1 + d2 = C := ⟨(1 + d2).toNat, by omega⟩
  obtain ⟨E, iE, E0, E1⟩ : ∃ E : Int, (∀ s, item s (.lst [.int 16, .int 256, .int 4096]) (.int ((B : Int) - 1)) = some (.int E)) ∧ 0 < E ∧ E ≤ 4096 := by
    have : B = 1 ∨ B = 2 ∨ B = 3 := by omega
    rcases this with rfl | rfl | rfl
    · exact ⟨16, fun s => rfl, by decide, by decide⟩
    · exact ⟨256, fun s => rfl, by decide, by decide⟩
    · exact ⟨4096, fun s => rfl, by decide, by decide⟩
  obtain ⟨_, w3, e3, ok3, d3, rfl, a3, c3⟩ := take_d (n - 1) (by omega) hlt ok2 (by omega) E E0 (by omega)
  obtain ⟨_, w4, e4, ok4, d4, rfl, a4, c4⟩ := take_d (n - 1) (by omega) hlt ok3 (by omega) 97 (by decide) (by decide)
  rw [sem_call (d := d__law_right) (by omega) rfl rfl]
  simp only [d__law_right, b__law_right]
  rw [y_cons]
  simp [-y_cons, e1, e2, hB, hC, setVs]
  rw [y_cons]
  simp [-y_cons, -i_lst, iE]
  rw [y_cons]
  simp [-y_cons, e3, e4, setVs]
  rw [y_cons]
  simp [-y_cons]
  refine for_N (fun x => Drawn st p (b + 1000) (fin (st.set p (potO w)) x) fun v => v = .bl true) (fun i env s => ∃ w5 v6, s = st.set p (potO w5) ∧ OkPot (b + 4 + 8 * i) w5 ∧ env = [some (.loc p), some (.int B), some (.int C), some (.int E), some (.int d3), some (.int (1 + d4)), v6]) ⟨w4, none, rfl, ok4, rfl⟩ ?_ ?_
  · rintro i x env s hx ⟨w5, v6, rfl, ok5, rfl⟩
    have il := (List.getElem?_eq_some_iff.mp hx).1
    rw [range_len] at il
    rw [range_at, if_pos (by simpa using il)] at hx
    cases hx
    have m1 : mulOk (0 + (i : Int)) (1 + d4) = true := mulOk_l (by omega) (by omega)
    simp at m1
    obtain ⟨L, okL, LB, LC, LS, eL⟩ := law_numbered_ok (n - 1) (by omega) B C ((d3 + (i : Int) * (1 + d4)) % E) (Int.emod_nonneg _ (by omega)) (by omega) (by omega) (by omega) (by omega) (st.set p (potO w5))
    obtain ⟨_, w6, e6, ok6, rfl⟩ := small_right_ok (n - 1) (by omega) hlt ok5 (by omega) L okL (by omega) (by omega)
    refine ⟨_, _, ?_, w6, some (.int i), rfl, ok6.mono (by omega), rfl⟩
    simp [m1, E0, eL, e6]
  · rintro env s ⟨w5, v6, rfl, ok5, rfl⟩
    rw [range_len] at ok5
    simp
    exact ⟨_, w5, exitR_len (by simp), ok5.mono (by omega), rfl⟩
end LW
end V11_text

section K82L_text
set_option linter.all false
set_option maxRecDepth 100000
/-! The law. -/
namespace LW
open MP
abbrev deep : Nat := 20
theorem law_ok (ns : List Int) (hl : ns.length ≤ 63) : ∃ st, sem prog deep f_law [.scr ns] [] = .ok (.bl true) st := by
  show ∃ st, sem prog 20 f_law [.scr ns] [] = .ok (.bl true) st
  rw [sem_call (d := d_law) (by omega) rfl rfl]
  simp only [d_law, b_law]
  obtain ⟨m, m1, m4, e1⟩ := law_cells_ok 19 (by omega) ns 3 (by decide) (by decide) hl []
  obtain ⟨ys, s', e3, hys⟩ := compL_inv (f := fun x s => (sem prog 19 f__law_pot [.scr ns, x] s).bind fun a s => (sem prog 19 f__law_right [a] s).bind fun y s4 => R.ok (some y) s4) (xs := rangeL 0 m) (st := []) (fun i acc s => acc = List.replicate i (.bl true)) rfl fun i x acc s hx ha => by
    have il := (List.getElem?_eq_some_iff.mp hx).1
    rw [range_len] at il
    rw [range_at, if_pos (by omega)] at hx
    cases hx
    obtain ⟨w, e2, ok⟩ := law_pot_ok 19 (by omega) ns i (by omega) s
    have S0 : (s ++ [potO w]).set s.length (potO w) = s ++ [potO w] := pot_self (by simp)
    have hlt : s.length < (s ++ [potO w]).length := by simp
    obtain ⟨v, w2, e, ok2, hv⟩ := law_right_ok 19 (by omega) hlt ok (by omega)
    rw [S0] at e
    subst hv
    subst ha
    refine ⟨.bl true, (s ++ [potO w]).set s.length (potO w2), ?_, by rw [List.replicate_succ']⟩
    rw [show (0 : Int) + (i : Int) = i by omega, e2]
    dsimp only [R.bind_ok]
    rw [e]
    rfl
  rw [range_len] at hys
  subst hys
  have lo : lenOk (rangeL 0 m).length = true := lenOk_le (by rw [range_len]; omega)
  have al := fun s => all_rep ((m : Int) - 0).toNat s
  have al2 := fun s => all_rep m s
  have lo2 : lenOk m = true := lenOk_le (by omega)
  simp at e3
  rw [y_cons]
  simp [-y_cons, e1, e3, lo, lo2, al, al2]
  refine ⟨_, exitR_of (by simp) fun i hi => ?_⟩
  cases hi
end LW
end K82L_text

section K82E_text
set_option Elab.async false
set_option linter.all false
set_option maxRecDepth 100000
set_option maxHeartbeats 0
open PySem PySem.W PySem.Calls PyProof.Rows
theorem PySem.Challenge.cw_sizesreckoned_k82_whole_small_rules_by_t_holds : PySem.Challenge.rw_sizesreckoned_k82_whole_small_rules_by_t.Holds := by
  w_on; o_law
  refine HandSHeadRun.head_any (r := OpenLaw.row PySem.Challenge.rw_sizesreckoned_k82_whole_small_rules_by_t) (q := view (OpenLaw.row PySem.Challenge.rw_sizesreckoned_k82_whole_small_rules_by_t).prog [90]) (H := LW.hk) (ob := LW.ob) (M := 6000) (loose := LW.loose) (d := HandSHeadRun.topDef (OpenLaw.row PySem.Challenge.rw_sizesreckoned_k82_whole_small_rules_by_t).prog 90) (kwd := []) LW.ob_eq
    (by kernel_rfl) (fun s => by kernel_rfl) LW.run (by kernel_rfl) (by kernel_rfl) (by kernel_rfl) (by rfl) (by first | assumption | decide +kernel) (by decide +kernel) ⟨rfl, rfl, rfl, rfl, rfl, by decide +kernel⟩ ?hw ?hc
  case hw => w_witness2
  case hc =>
    refine L2.walk_ofE (l := PySem.Challenge.rw_sizesreckoned_k82_whole_small_rules_by_t) (n := 63) (k := 2 * LW.deep) (x := "script") (CX := L2.CX0) rfl (by decide) (by kernel_rfl) ⟨rfl, by decide, by decide⟩ ?F (fun _ _ _ _ z => z)
    intro w mg fa h Y G hmg0
    obtain ⟨K, KX, c⟩ := Y
    have hmg : mg ("law" : PySem.Str) = some (.ref fa) := by
      have e : (HandSHeadRun.topDef (OpenLaw.row PySem.Challenge.rw_sizesreckoned_k82_whole_small_rules_by_t).prog 90).name = ("law" : PySem.Str) := by kernel_rfl
      rw [← e]
      exact hmg0
    exact MP.end_of (fl := LW.f_law) (n := LW.deep) (x := LW.x_law) (d := LW.d_law) KX G c LW.okAll (by decide +kernel) rfl rfl rfl rfl rfl rfl hmg LW.law_ok
end K82E_text
