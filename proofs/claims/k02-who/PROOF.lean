import PyProof.Rows.All
import Wide.All
import OpenK.AllK
import Wide.FinOn
import HandS.ForMost
import HandS.ForExc
import HandS.TupAny
import HandS.TupMul
import HandS.TupLe
import HandS.Star
import HandS.IsInst
import HandS.Flow
import HandS.Style
import HandS.Zip
import HandS.SetKeys
import HandS.ExcSuper
import HandS.ExcInit
import HandS.TryMany
import HandS.Conv
import HandS.TupLen
import HandS.Deep
import KE.SortData
import KE.KExcSuper
import HandS.ExcIs
import HandS.ExcField
import HandS.DictComp
import HandS.ListItems
import KE.KDictPairs
import KE.KDictZip
import KE.GoesZip
import KE.GoesMore
import KE.GoesEnum
import HandS.TupSets
import PyProof.Rows.SetFrom
import HandS.Small
import HandS.ExcOwn
import HandS.Defaults
import HandS.Words
import HandS.WordsExc
import KE.KStateDown
import HandS.Base
import HandS.Call
import HandS.Ends
import HandS.EndBits
import HandS.More
import HandS.Head0
import HandS.Head1
import HandS.Head2
import HandS.HeadEnd
import HandS.HeadHook1
import HandS.HeadHook2
import PySem.Challenge.RW_orderrings_k02_who_is_in_which_group
set_option Elab.async false
set_option linter.all false
section
/-! MiEv: a small language and its evaluator over plain data. -/
namespace Mi
open PySem

/-- a value: plain data, or a cell of the store (a list or dict that may be changed) -/
inductive Xv where
  | v (d : PyData)
  | c (n : Nat)
  /-- the script: ints, read by places, slices and len alone -/
  | w (ns : List Int)
inductive Cell where
  | lst (xs : List PyData)
  /-- a dict; of tuple keys -/
  | dic (t : Bool) (kvs : List (PyData × PyData))
  | frz (d : PyData)
abbrev Sto := List Cell
abbrev Rho := List (Option Xv)
/-- an answer, an exception (its class, its values, the store), or none -/
inductive R (α : Type) where
  | ok (a : α) (s : Sto)
  | exc (c : Str) (as : List PyData) (s : Sto)
  | err

@[inline] def R.bind {α β : Type} (x : R α) (f : α → Sto → R β) : R β :=
  match x with
  | .ok a s => f a s
  | .exc c as s => .exc c as s
  | .err => .err
@[simp] theorem R.bind_ok {α β : Type} (a : α) (s : Sto) (f : α → Sto → R β) : (R.ok a s).bind f = f a s := (rfl)
@[simp] theorem R.bind_exc {α β : Type} (c as s) (f : α → Sto → R β) : (R.exc c as s).bind f = .exc c as s := (rfl)
@[simp] theorem R.bind_err {α β : Type} (f : α → Sto → R β) : (R.err).bind f = .err := (rfl)

/-- what a value tells now -/
def rd (s : Sto) : Xv → Option PyData
  | .v d => some d
  | .c n => match s[n]? with
    | some (.lst xs) => some (.list xs)
    | some (.dic _ _) => none
    | some (.frz d) => some d
    | none => none
  | .w _ => none
/-- taken into another thing: from now on it stays as it is -/
def fz (s : Sto) : Xv → Option (PyData × Sto)
  | .v d => some (d, s)
  | .c n => match s[n]? with
    | some (.lst xs) => some (.list xs, s.set n (.frz (.list xs)))
    | some (.dic _ _) => none
    | some (.frz d) => some (d, s)
    | none => none
  | .w _ => none
def rdAll (s : Sto) : List Xv → Option (List PyData)
  | [] => some []
  | x :: xs => match rd s x, rdAll s xs with
    | some d, some ds => some (d :: ds)
    | _, _ => none

/-- an option as an answer -/
def R.of {α : Type} (o : Option α) (s : Sto) : R α := match o with
  | some a => .ok a s
  | none => .err
@[simp] theorem R.of_some {α : Type} (a : α) (s : Sto) : R.of (some a) s = .ok a s := (rfl)
@[simp] theorem R.of_none {α : Type} (s : Sto) : (R.of none s : R α) = .err := (rfl)

/-! ### data -/
def szOk (n : Nat) : Bool := decide (n ≤ 16777216)
def okD (d : PyData) : Bool := SeqAt.shaped d
def mulOk (i j : Int) : Bool := decide (-(2 ^ 64) < i ∧ i < 2 ^ 64) || decide (-(2 ^ 64) < j ∧ j < 2 ^ 64)

def binD (op : Operator) (a b : PyData) : Option PyData :=
  match op, a, b with
  | .Add, .int i, .int j => some (.int (i + j))
  | .Add, .str x, .str y => if szOk (x.length + y.length) then some (.str (x ++ y)) else none
  | .Add, .tuple xs, .tuple ys => if szOk (xs.length + ys.length) then some (.tuple (xs ++ ys)) else none
  | .Sub, .int i, .int j => some (.int (i - j))
  | .Mult, .int i, .int j => if mulOk i j then some (.int (i * j)) else none
  | .Mod, .int i, .int j => if 0 < j then some (.int (i % j)) else none
  | .FloorDiv, .int i, .int j => if 0 < j ∧ j < 1073741824 then some (.int (i / j)) else none
  | .Pow, .int i, .int j => if 0 ≤ j ∧ j ≤ 1000 ∧ i.natAbs < 1000000 then some (.int (i ^ j.toNat)) else none
  | _, _, _ => none
/-- lists: a + b, a * k -/
def binL (op : Operator) (a b : PyData) : Option (List PyData) :=
  match op, a, b with
  | .Add, .list xs, .list ys => if szOk (xs.length + ys.length) then some (xs ++ ys) else none
  | .Mult, .list xs, .int k => if k < 1000000 ∧ -1000000 < k ∧ szOk (xs.length * k.toNat) then some (List.replicate k.toNat xs).flatten else none
  | _, _, _ => none
def strLt (x y : Str) : Bool := decide (x.cps.toList < y.cps.toList)
def ltD (a b : PyData) : Option Bool :=
  match a, b with
  | .int i, .int j => some (decide (i < j))
  | .str x, .str y => some (strLt x y)
  | .tuple xs, .tuple ys => if okD (.tuple xs) && okD (.tuple ys) && PySem.W.alike (.tuple xs) (.tuple ys) then some (PySem.W.dataLt (.tuple xs) (.tuple ys)) else none
  | _, _ => none
/-! dicts: keys are ints and texts, or tuples of these -/
def keyD : PyData → Bool
  | .int _ => true
  | .str _ => true
  | _ => false
def keyT : PyData → Bool
  | .tuple ds => ds.all keyD
  | _ => false
def keq1 : PyData → PyData → Bool
  | .int i, .int j => decide (i = j)
  | .str x, .str y => decide (x = y)
  | _, _ => false
def keqs : List PyData → List PyData → Bool
  | [], [] => true
  | a :: as, b :: bs => keq1 a b && keqs as bs
  | _, _ => false
def keqD : PyData → PyData → Bool
  | .tuple as, .tuple bs => keqs as bs
  | a, b => keq1 a b
def lookD (kvs : List (PyData × PyData)) (k : PyData) : Option PyData := match kvs with
  | [] => none
  | p :: r => if keqD p.1 k then some p.2 else lookD r k
def putD (kvs : List (PyData × PyData)) (k v : PyData) : List (PyData × PyData) :=
  if kvs.any fun p => keqD p.1 k then kvs.map fun p => if keqD p.1 k then (p.1, v) else p else kvs ++ [(k, v)]
/-- does it have tuple keys? -/
def kindT : List (PyData × PyData) → Bool
  | (.tuple _, _) :: _ => true
  | _ => false
/-- may the key be asked for? -/
def keyOk (t : Bool) (k : PyData) : Bool := !t && keyD k
def pairsD : List PyData → Option (List (PyData × PyData))
  | [] => some []
  | .tuple [k, v] :: r => if keyD k then match pairsD r with
    | some kvs => some ((k, v) :: kvs)
    | none => none else none
  | _ :: _ => none
def mergeD (acc : List (PyData × PyData)) : List (PyData × PyData) → List (PyData × PyData)
  | [] => acc
  | p :: r => mergeD (putD acc p.1 p.2) r
def inD (x l : PyData) : Option Bool :=
  match l with
  | .list ds => if okD x && okD (.list ds) then some (ds.any fun z => PyData.eqv z x) else none
  | .tuple ds => if okD x && okD (.tuple ds) then some (ds.any fun z => PyData.eqv z x) else none
  | .str y => match x with
    | .str z => match z.cps.toList with
      | [c] => some (decide (c ∈ y.cps.toList))
      | _ => none
    | _ => none
  | .dict kvs => if keyOk (kindT kvs) x then some (lookD kvs x).isSome else none
  | _ => none
def cmpD (op : CmpOp) (a b : PyData) : Option Bool :=
  match op with
  | .Eq => if okD a && okD b then some (PyData.eqv a b) else none
  | .NotEq => if okD a && okD b then some (!PyData.eqv a b) else none
  | .Lt => ltD a b
  | .Gt => match a, b with
    | .int i, .int j => some (decide (j < i))
    | _, _ => none
  | .LtE => match a, b with
    | .int i, .int j => some (decide (i ≤ j))
    | _, _ => none
  | .GtE => match a, b with
    | .int i, .int j => some (decide (j ≤ i))
    | _, _ => none
  | .In => inD a b
  | .NotIn => (inD a b).map (!·)
  | .Is => match b with
    | .none => some (match a with | .none => true | _ => false)
    | _ => none
  | .IsNot => match b with
    | .none => some (match a with | .none => false | _ => true)
    | _ => none
def tyOf : PyData → String
  | .none => "NoneType"
  | .bool _ => "bool"
  | .int _ => "int"
  | .str _ => "str"
  | .list _ => "list"
  | .tuple _ => "tuple"
  | .dict _ => "dict"
/-- isinstance of built-in classes -/
def isiD (d : PyData) (t : String) : Bool := tyOf d == t || (t == "int" && tyOf d == "bool")
def ixD (a i : PyData) : Option PyData :=
  match a, i with
  | .dict kvs, k => if keyOk (kindT kvs) k then lookD kvs k else none
  | .list xs, .int i => L2.atI xs i
  | .tuple xs, .int i => L2.atI xs i
  | .str x, .int i => if szOk x.length then (L2.atI x.cps.toList i).map fun c => .str ⟨#[c]⟩ else none
  | _, _ => none
def cutD {α : Type} (xs : List α) (lo hi : Option Int) : List α := (xs.drop (HT.sIx xs.length 0 lo)).take (HT.sIx xs.length xs.length hi - HT.sIx xs.length 0 lo)
def optI : PyData → Option (Option Int)
  | .none => some none
  | .int i => some (some i)
  | _ => none
def allB : List PyData → Option Bool
  | [] => some true
  | .bool b :: r => match allB r with
    | some c => some (b && c)
    | none => none
  | _ :: _ => none
def anyB : List PyData → Option Bool
  | [] => some false
  | .bool b :: r => match anyB r with
    | some c => some (b || c)
    | none => none
  | _ :: _ => none
def sumI : List PyData → Option Int
  | [] => some 0
  | .int i :: r => match sumI r with
    | some c => some (i + c)
    | none => none
  | _ :: _ => none
def intsD : List PyData → Option (List Int)
  | [] => some []
  | .int i :: r => match intsD r with
    | some ns => some (i :: ns)
    | none => none
  | _ :: _ => none
def maxI (m : Int) : List Int → Int
  | [] => m
  | i :: r => maxI (if m < i then i else m) r
def minI (m : Int) : List Int → Int
  | [] => m
  | i :: r => minI (if i < m then i else m) r
/-- built-in functions -/
inductive B where
  | len | tup | all | any | sum | abs | int | str | max2 | min2 | lenSet | max1 | min1 | dict
deriving DecidableEq
/-- built-in functions that make a list -/
inductive BL where
  | list | sorted | sortedSet
deriving DecidableEq
def chars (x : Str) : List PyData := x.cps.toList.map fun c => .str ⟨#[c]⟩
def eachIn (ds : List PyData) : Bool := okD (.list ds) && ds.all fun d => ds.all fun e => PySem.W.alike d e
def sortOk (ds : List PyData) : Bool := eachIn ds && szOk ds.length && ((ds.all fun d => match d with | .tuple (_ :: _) => true | _ => false) || ds.all fun d => match d with | .tuple _ => false | .none => false | _ => true)
/-- d ahead of the first that is greater or equal -/
def insD (d : PyData) : List PyData → List PyData
  | [] => [d]
  | e :: r => if PySem.W.dataLt e d then e :: insD d r else d :: e :: r
def sortD : List PyData → List PyData
  | [] => []
  | d :: r => insD d (sortD r)
def dedupD : List PyData → List PyData
  | [] => []
  | d :: ds => let r := dedupD ds; if r.any fun z => PyData.eqv z d then r else d :: r
/-- what may be put into a set: ints, texts -/
def scanD : PyData → Bool
  | .int _ => true
  | .str _ => true
  | _ => false
def setOk (ds : List PyData) : Bool := sortOk ds && ds.all scanD && decide (ds.length < 4000)
def bltD (b : B) (as : List PyData) : Option PyData :=
  match b, as with
  | .len, [.list xs] => some (.int xs.length)
  | .len, [.tuple xs] => some (.int xs.length)
  | .len, [.str x] => if szOk x.length then some (.int x.length) else none
  | .len, [.dict kvs] => if kindT kvs then none else some (.int kvs.length)
  | .tup, [.list xs] => some (.tuple xs)
  | .tup, [.tuple xs] => some (.tuple xs)
  | .tup, [.str x] => if szOk x.length then some (.tuple (chars x)) else none
  | .tup, [.dict kvs] => if kindT kvs then none else some (.tuple (kvs.map (·.1)))
  | .dict, [.list xs] => (pairsD xs).map fun kvs => .dict (mergeD [] kvs)
  | .dict, [.tuple xs] => (pairsD xs).map fun kvs => .dict (mergeD [] kvs)
  | .all, [.list xs] => (allB xs).map .bool
  | .any, [.list xs] => (anyB xs).map .bool
  | .sum, [.list xs] => (sumI xs).map .int
  | .abs, [.int i] => some (.int (if i < 0 then -i else i))
  | .int, [.int i] => some (.int i)
  | .int, [.bool b] => some (.int (if b then 1 else 0))
  | .max2, [.int i, .int j] => some (.int (if j > i then j else i))
  | .min2, [.int i, .int j] => some (.int (if j < i then j else i))
  | .max1, [.list xs] => match intsD xs with
    | some (i :: ns) => some (.int (maxI i ns))
    | _ => none
  | .min1, [.list xs] => match intsD xs with
    | some (i :: ns) => some (.int (minI i ns))
    | _ => none
  | _, _ => none
def bltL (b : BL) (as : List PyData) : Option (List PyData) :=
  match b, as with
  | .list, [.list xs] => some xs
  | .list, [.tuple xs] => some xs
  | .list, [.dict kvs] => if kindT kvs then none else some (kvs.map (·.1))
  | .sorted, [.list xs] => if sortOk xs then some (sortD xs) else none
  | .sorted, [.tuple xs] => if sortOk xs then some (sortD xs) else none
  | .sortedSet, [.list xs] => if sortOk xs then some (sortD (dedupD xs)) else none
  | .sortedSet, [.tuple xs] => if sortOk xs then some (sortD (dedupD xs)) else none
  | _, _ => none

/-! ### the small language -/
inductive Tg where
  | one (i : Nat)
  | tup (is : List Nat)
/-- methods -/
inductive M where
  | append | pop | index | extend
deriving DecidableEq
mutual
inductive E where
  | var (i : Nat)
  | cst (d : PyData)
  | glob (x : Nat)
  | bin (op : Operator) (a b : E)
  | neg (a : E)
  | cmp (op : CmpOp) (a b : E)
  | chain (op op' : CmpOp) (a b c : E)
  | and (a b : E)
  | or (a b : E)
  | orL (a b : E)
  | not (a : E)
  | ite (c a b : E)
  | tup (es : Es)
  | lst (es : Es)
  | call (f : Nat) (es : Es)
  | callK (f : Nat) (es : Es) (perm : List Nat)
  | blt (f : B) (es : Es)
  | bltl (f : BL) (es : Es)
  | meth (m : M) (o : E) (es : Es)
  | isi (a : E) (ts : List String)
  | sub (a b : E)
  | slice (a : E) (bl : Bool) (lo : E) (bh : Bool) (hi : E)
  | rev (a : E)
  /-- len(set(a)), sorted(set(a)) -/
  | setF (len : Bool) (a : E)
  /-- d.get(k), d.get(k, x), list(d.values()) -/
  | get1 (d k : E)
  | get2 (d k x : E)
  | valsL (d : E)
  | comp (own : List Nat) (e : E) (tg : Tg) (it : It) (ifs : Es)
  | comp2 (own own1 : List Nat) (e : E) (tg : Tg) (it : It) (ifs : Es) (tg1 : Tg) (it1 : It) (ifs1 : Es)
inductive Es where
  | nil
  | cons (e : E) (es : Es)
  | star (e : E) (es : Es)
inductive It where
  | seq (e : E)
  | range1 (a : E)
  | range2 (a b : E)
  | zip (a b : E)
  | zipN (a b : E)
  | enum (a : E)
  | vals (d : E)
  | items (d : E)
end
/-- an item of the list that a clause 'except C as n' writes: a constant, n's field, isinstance(n, ..) -/
inductive HIt where
  | con (d : PyData)
  | fld
  | isa (b : Bool)
/-- a clause 'except C as n: x = [..]' -/
structure Hd where
  c : Str
  err : Nat
  tgt : Nat
  its : List HIt
mutual
inductive S where
  | ex (e : E)
  | set (t : Tg) (e : E)
  | new (i : Nat) (e : E)
  | par (ts : List (Nat × Bool)) (es : Es)
  | setI (i : Nat) (k e : E)
  /-- name = {}; d[k] = e -/
  | newD (i : Nat) (t : Bool)
  | setK (i : Nat) (k e : E)
  | ret (e : E)
  /-- .. of a dict of one's own -/
  | retD (e : E)
  | retN
  | retC (e : E)
  | ite (c : E) (a b : Ss)
  | for_ (tg : Tg) (it : It) (b : Ss)
  | while_ (c : E) (b : Ss)
  | raise (c : Str) (es : Es)
  /-- try: b, then clauses -/
  | try_ (b : Ss) (hs : List Hd)
  | pass
  | brk
  | cont
  /-- nothing is told of it -/
  | stuck
inductive Ss where
  | nil
  | cons (s : S) (r : Ss)
end
structure Fn where
  params : Nat
  slots : Nat
  keep : Bool
  body : Ss

/-! ### the evaluator -/
structure Ctx where
  call : Nat → List Xv → Sto → R Xv
  glob : Nat → Option PyData
/-- what is walked: told at once, or by its places in the store -/
inductive Src where
  | stat (xs : List PyData)
  | cell (n : Nat)
  | enum (n : Nat)
  | zip (a b : Xv)
def items : PyData → Option (List PyData)
  | .list xs => some xs
  | .tuple xs => some xs
  | .str x => some (chars x)
  | .dict kvs => if kindT kvs then none else some (kvs.map (·.1))
  | _ => none
/-- a list or a tuple -/
def seqOf : PyData → Option (List PyData)
  | .list xs => some xs
  | .tuple xs => some xs
  | _ => none
def rangeL (lo : Int) : Nat → List PyData
  | 0 => []
  | n + 1 => .int lo :: rangeL (lo + 1) n
def enumL (i : Int) : List PyData → List PyData
  | [] => []
  | d :: r => .tuple [.int i, d] :: enumL (i + 1) r
def zipL : List PyData → List PyData → List PyData
  | a :: as, b :: bs => .tuple [a, b] :: zipL as bs
  | _, _ => []
def bindT (tg : Tg) (d : PyData) (ρ : Rho) : Option Rho :=
  match tg with
  | .one i => some (ρ.set i (some (.v d)))
  | .tup is => match d with
    | .tuple ds => if ds.length = is.length then some ((is.zip ds).foldl (fun r p => r.set p.1 (some (.v p.2))) ρ) else none
    | _ => none
def wipeR (ρ : Rho) : List Nat → Rho
  | [] => ρ
  | i :: is => (wipeR ρ is).set i none
def truth : PyData → Option Bool
  | .bool b => some b
  | _ => none
def truthX (s : Sto) (x : Xv) : Option Bool := (rd s x).bind truth
/-- inside of a comprehension nothing may be raised -/
def calm {α : Type} : R α → R α
  | .exc _ _ _ => .err
  | r => r
/-- a comprehension's turns over told items -/
def turns (f : PyData → Sto → R (List PyData)) : List PyData → Sto → R (List PyData)
  | [], s => .ok [] s
  | d :: r, s => (f d s).bind fun ys s1 => (turns f r s1).bind fun zs s2 => .ok (ys ++ zs) s2
/-- .. over the list of a cell -/
def turnsC (f : PyData → Sto → R (List PyData)) (at_ : Sto → Nat → Option (Option PyData)) : Nat → Nat → Sto → R (List PyData)
  | 0, _, _ => .err
  | k + 1, i, s => match at_ s i with
    | none => .err
    | some none => .ok [] s
    | some (some d) => (f d s).bind fun ys s1 => (turnsC f at_ k (i + 1) s1).bind fun zs s2 => .ok (ys ++ zs) s2
def cellAt (n : Nat) (s : Sto) (i : Nat) : Option (Option PyData) :=
  match s[n]? with
  | some (.lst xs) => some xs[i]?
  | some (.frz (.list xs)) => some xs[i]?
  | _ => none
def enumAt (n : Nat) (s : Sto) (i : Nat) : Option (Option PyData) := (cellAt n s i).map fun o => o.map fun d => .tuple [.int i, d]
def xvAt (x : Xv) (s : Sto) (i : Nat) : Option (Option PyData) :=
  match x with
  | .c n => cellAt n s i
  | .v (.list xs) => some xs[i]?
  | _ => none
def zipAt (a b : Xv) (s : Sto) (i : Nat) : Option (Option PyData) :=
  match xvAt a s i, xvAt b s i with
  | some (some x), some (some y) => some (some (.tuple [x, y]))
  | some _, some _ => some none
  | _, _ => none
def fuel : Nat := 1000000
def walk (f : PyData → Sto → R (List PyData)) (src : Src) (s : Sto) : R (List PyData) :=
  match src with
  | .stat xs => turns f xs s
  | .cell n => turnsC f (cellAt n) fuel 0 s
  | .enum n => turnsC f (enumAt n) fuel 0 s
  | .zip a b => turnsC f (zipAt a b) fuel 0 s
/-- zip of two lists, of two tuples -/
def zipX (x y : Xv) (s : Sto) : R Src :=
  match x, y with
  | .v (.list xs), .v (.list ys) => .ok (.stat (zipL xs ys)) s
  | .v (.tuple xs), .v (.tuple ys) => .ok (.stat (zipL xs ys)) s
  | .v (.list xs), .c m => if (cellAt m s 0).isSome then .ok (.zip (.v (.list xs)) (.c m)) s else .err
  | .c n, .v (.list ys) => if (cellAt n s 0).isSome then .ok (.zip (.c n) (.v (.list ys))) s else .err
  | .c n, .c m => if (cellAt n s 0).isSome && (cellAt m s 0).isSome then .ok (.zip (.c n) (.c m)) s else .err
  | _, _ => .err

/-- .. its pairs are kept -/
def zipNX (x y : Xv) (s : Sto) : R Src :=
  match x, y with
  | .v (.list xs), .v (.list ys) => .ok (.stat (zipL xs ys)) s
  | .v (.tuple xs), .v (.tuple ys) => .ok (.stat (zipL xs ys)) s
  | _, _ => .err

/-- a dict, told by its kind -/
def rdK (s : Sto) : Xv → Option (Bool × List (PyData × PyData))
  | .v (.dict kvs) => some (kindT kvs, kvs)
  | .c n => match s[n]? with
    | some (.dic t kvs) => some (t, kvs)
    | _ => none
  | _ => none
/-! ### by values -/
def binX (op : Operator) (x y : Xv) (s : Sto) : R Xv :=
  match rd s x, rd s y with
  | some d, some e => match binL op d e with
    | some xs => .ok (.v (.list xs)) s
    | none => match binD op d e with
      | some z => .ok (.v z) s
      | none => .err
  | _, _ => .err
def negX (x : Xv) (s : Sto) : R Xv := match x with
  | .v (.int i) => .ok (.v (.int (-i))) s
  | _ => .err
def inK (op : CmpOp) (x y : Xv) (s : Sto) : R Xv :=
  match rd s x, rdK s y with
  | some k, some (t, kvs) => if keyOk t k then (match op with
    | .In => .ok (.v (.bool (lookD kvs k).isSome)) s
    | .NotIn => .ok (.v (.bool (!(lookD kvs k).isSome))) s
    | _ => .err) else .err
  | _, _ => .err
def cmpX (op : CmpOp) (x y : Xv) (s : Sto) : R Xv :=
  match rd s x, rd s y with
  | some d, some e => match cmpD op d e with
    | some b => .ok (.v (.bool b)) s
    | none => .err
  | _, _ => inK op x y s
def notX (x : Xv) (s : Sto) : R Xv := match x with
  | .v (.bool b) => .ok (.v (.bool (!b))) s
  | _ => .err
def bltX (f : B) (xs : List Xv) (s : Sto) : R Xv := match rdAll s xs with
  | some ds => match bltD f ds with
    | some d => .ok (.v d) s
    | none => .err
  | none => match f, xs with
    | .len, [.w ns] => .ok (.v (.int ns.length)) s
    | .len, [.c n] => match s[n]? with
      | some (.dic false kvs) => .ok (.v (.int kvs.length)) s
      | _ => .err
    | _, _ => .err
def bltlX (f : BL) (xs : List Xv) (s : Sto) : R Xv := match rdAll s xs with
  | some ds => match bltL f ds with
    | some d => .ok (.v (.list d)) s
    | none => .err
  | none => .err
def isL (x : Xv) (s : Sto) : Bool := match x with
  | .c n => match s[n]? with
    | some (.lst _) => true
    | _ => false
  | _ => false
def appX (n : Nat) (ds : List PyData) (s : Sto) : R Xv := match ds with
  | [d] => match s[n]? with
    | some (.lst xs) => if xs.length < 16777216 then .ok (.v .none) (s.set n (.lst (xs ++ [d]))) else .err
    | _ => .err
  | _ => .err
def pop0X (n : Nat) (s : Sto) : R Xv := match s[n]? with
  | some (.lst xs) => match xs.getLast? with
    | some d => .ok (.v d) (s.set n (.lst xs.dropLast))
    | none => .err
  | _ => .err
def pop1X (n : Nat) (i : Int) (s : Sto) : R Xv := match s[n]? with
  | some (.lst xs) => if -16777216 ≤ i ∧ i < 16777216 then match L2.ixN xs.length i with
    | some k => match xs[k]? with
      | some d => .ok (.v d) (s.set n (.lst (xs.eraseIdx k)))
      | none => .err
    | none => .err
    else .err
  | _ => .err
def popX (n : Nat) (ds : List PyData) (s : Sto) : R Xv := match ds with
  | [] => pop0X n s
  | [.int i] => pop1X n i s
  | _ => .err
def methX (m : M) (x : Xv) (ds : List PyData) (s : Sto) : R Xv :=
  match x with
  | .c n => match m with
    | .append => appX n ds s
    | .pop => popX n ds s
    | .index => .err
    | .extend => match ds with
      | [.list ys] => match s[n]? with
        | some (.lst xs) => if xs.length + ys.length ≤ 16777216 then .ok (.v .none) (s.set n (.lst (xs ++ ys))) else .err
        | _ => .err
      | _ => .err
  | _ => .err
def isiX (x : Xv) (ts : List String) (s : Sto) : R Xv := match rd s x with
  | some d => .ok (.v (.bool (ts.any (isiD d)))) s
  | none => .err
def subK (x y : Xv) (s : Sto) : R Xv :=
  match rdK s x, rd s y with
  | some (t, kvs), some k => if keyOk t k then match lookD kvs k with
    | some d => .ok (.v d) s
    | none => .err else .err
  | _, _ => .err
/-- d.get(k, z) -/
def getX (x y z : Xv) (s : Sto) : R Xv :=
  match rdK s x, rd s y with
  | some (t, kvs), some k => if keyOk t k then match lookD kvs k with
    | some d => .ok (.v d) s
    | none => .ok z s else .err
  | _, _ => .err
def isK (x : Xv) (s : Sto) : Bool := (rdK s x).isSome
def valsX (x : Xv) (s : Sto) : R Xv := match x with
  | .v (.dict kvs) => if kindT kvs then .err else .ok (.v (.list (kvs.map (·.2)))) s
  | _ => .err
def subX (x y : Xv) (s : Sto) : R Xv :=
  match rd s x, rd s y with
  | some d, some e => match ixD d e with
    | some z => .ok (.v z) s
    | none => .err
  | _, _ => match x, y with
    | .w ns, .v (.int i) => match L2.atI ns i with
      | some n => .ok (.v (.int n)) s
      | none => .err
    | .c n, y => subK (.c n) y s
    | _, _ => .err
def sliceX (x : Xv) (l h : Option Int) (s : Sto) : R Xv :=
  match x with
  | .w ns => .ok (.v (.list ((cutD ns l h).map .int))) s
  | x => match rd s x with
    | some (.list xs) => .ok (.v (.list (cutD xs l h))) s
    | some (.tuple xs) => .ok (.v (.tuple (cutD xs l h))) s
    | some (.str z) => if szOk z.length then .ok (.v (.str ⟨(cutD z.cps.toList l h).toArray⟩)) s else .err
    | _ => .err
/-- a part of a slice -/
def partX (x : Xv) (s : Sto) : R (Option Int) := match x with
  | .v (.int i) => .ok (some i) s
  | _ => .err
def revX (x : Xv) (s : Sto) : R Xv :=
  match rd s x with
  | some (.list xs) => .ok (.v (.list xs.reverse)) s
  | some (.tuple xs) => .ok (.v (.tuple xs.reverse)) s
  | _ => .err
def setFX (len : Bool) (x : Xv) (s : Sto) : R Xv :=
  match (rd s x).bind seqOf with
  | some ds => if setOk ds then (if len then .ok (.v (.int (dedupD ds).length)) s else .ok (.v (.list (sortD (dedupD ds)))) s) else .err
  | none => .err
/-- a value goes into a new list -/
def putX (x : Xv) (s : Sto) : R (List PyData) := match fz s x with
  | some (y, s) => .ok [y] s
  | none => .err
def madeL (ys : List PyData) (s : Sto) : R Xv := if szOk ys.length then .ok (.v (.list ys)) s else .err
def madeT (ys : List PyData) (s : Sto) : R Xv := if szOk ys.length then .ok (.v (.tuple ys)) s else .err

/-- the items at some places -/
def pick {α : Type} (xs : List α) : List Nat → Option (List α)
  | [] => some []
  | i :: is => match xs[i]?, pick xs is with
    | some x, some ys => some (x :: ys)
    | _, _ => none
def callP (call : Nat → List Xv → Sto → R Xv) (f : Nat) (perm : List Nat) (xs : List Xv) (s : Sto) : R Xv := match pick xs perm with
  | some ys => call f ys s
  | none => .err
variable (cx : Ctx)
mutual
def ev : E → Rho → Sto → R Xv
  | .var i, ρ, s => match ρ[i]? with
    | some (some x) => .ok x s
    | _ => .err
  | .cst d, _, s => .ok (.v d) s
  | .glob x, _, s => match cx.glob x with
    | some d => .ok (.v d) s
    | none => .err
  | .bin op a b, ρ, s => (ev a ρ s).bind fun x s => (ev b ρ s).bind fun y s => binX op x y s
  | .neg a, ρ, s => (ev a ρ s).bind negX
  | .cmp op a b, ρ, s => (ev a ρ s).bind fun x s => (ev b ρ s).bind fun y s => cmpX op x y s
  | .chain op op' a b c, ρ, s => (ev a ρ s).bind fun x s => (ev b ρ s).bind fun y s => (cmpX op x y s).bind fun k s => match k with
    | .v (.bool true) => (ev c ρ s).bind fun z s => cmpX op' y z s
    | .v (.bool false) => .ok (.v (.bool false)) s
    | _ => .err
  | .and a b, ρ, s => (ev a ρ s).bind fun x s => match x with
    | .v (.bool true) => ev b ρ s
    | .v (.bool false) => .ok (.v (.bool false)) s
    | _ => .err
  | .or a b, ρ, s => (ev a ρ s).bind fun x s => match x with
    | .v (.bool true) => .ok (.v (.bool true)) s
    | .v (.bool false) => ev b ρ s
    | _ => .err
  | .orL a b, ρ, s => (ev a ρ s).bind fun x s => match x with
    | .v (.list []) => ev b ρ s
    | .v (.list (d :: ds)) => .ok (.v (.list (d :: ds))) s
    | _ => .err
  | .not a, ρ, s => (ev a ρ s).bind notX
  | .ite c a b, ρ, s => (ev c ρ s).bind fun x s => match x with
    | .v (.bool true) => ev a ρ s
    | .v (.bool false) => ev b ρ s
    | _ => .err
  | .tup es, ρ, s => (evs es ρ s).bind madeT
  | .lst es, ρ, s => (evs es ρ s).bind madeL
  | .call f es, ρ, s => (evx es ρ s).bind (cx.call f)
  | .callK f es perm, ρ, s => (evx es ρ s).bind (callP cx.call f perm)
  | .blt f es, ρ, s => (evx es ρ s).bind (bltX f)
  | .bltl f es, ρ, s => (evx es ρ s).bind (bltlX f)
  | .meth m o es, ρ, s => (ev o ρ s).bind fun x s => if isL x s then (evs es ρ s).bind fun ds s => methX m x ds s else .err
  | .isi a ts, ρ, s => (ev a ρ s).bind fun x s => isiX x ts s
  | .sub a b, ρ, s => (ev a ρ s).bind fun x s => (ev b ρ s).bind fun y s => subX x y s
  | .slice a bl lo bh hi, ρ, s => (ev a ρ s).bind fun x s => (if bl then (ev lo ρ s).bind partX else .ok none s).bind fun l s => (if bh then (ev hi ρ s).bind partX else .ok none s).bind fun h s => sliceX x l h s
  | .rev a, ρ, s => (ev a ρ s).bind revX
  | .setF b a, ρ, s => (ev a ρ s).bind (setFX b)
  | .get1 d k, ρ, s => (ev d ρ s).bind fun x s => if isK x s then (ev k ρ s).bind fun y s => getX x y (.v .none) s else .err
  | .get2 d k z, ρ, s => (ev d ρ s).bind fun x s => if isK x s then (ev k ρ s).bind fun y s => (ev z ρ s).bind fun z s => getX x y z s else .err
  | .valsL d, ρ, s => (ev d ρ s).bind valsX
  | .comp own e tg it ifs, ρ, s => (evi it ρ s).bind fun src s =>
    (calm (walk (fun d s => match bindT tg d (wipeR ρ own) with
      | some ρ1 => (evt ifs ρ1 s).bind fun b s => if b then (ev e ρ1 s).bind putX else .ok [] s
      | none => .err) src s)).bind madeL
  | .comp2 own own1 e tg it ifs tg1 it1 ifs1, ρ, s => (evi it ρ s).bind fun src s =>
    (calm (walk (fun d s => match bindT tg d (wipeR ρ own) with
      | some ρ1 => (evt ifs ρ1 s).bind fun b s => if b then (evi it1 ρ1 s).bind fun src1 s => walk (fun d1 s => match bindT tg1 d1 (wipeR ρ1 own1) with
          | some ρ2 => (evt ifs1 ρ2 s).bind fun b s => if b then (ev e ρ2 s).bind putX else .ok [] s
          | none => .err) src1 s else .ok [] s
      | none => .err) src s)).bind madeL
/-- items of a display -/
def evs : Es → Rho → Sto → R (List PyData)
  | .nil, _, s => .ok [] s
  | .cons e es, ρ, s => (ev e ρ s).bind fun x s => match fz s x with
    | some (d, s) => (evs es ρ s).bind fun ds s => .ok (d :: ds) s
    | none => .err
  | .star e es, ρ, s => (ev e ρ s).bind fun x s => match (rd s x).bind seqOf with
    | some xs => (evs es ρ s).bind fun ds s => .ok (xs ++ ds) s
    | none => .err
/-- arguments -/
def evx : Es → Rho → Sto → R (List Xv)
  | .nil, _, s => .ok [] s
  | .cons e es, ρ, s => (ev e ρ s).bind fun x s => (evx es ρ s).bind fun xs s => .ok (x :: xs) s
  | .star _ _, _, _ => .err
/-- all tests -/
def evt : Es → Rho → Sto → R Bool
  | .nil, _, s => .ok true s
  | .cons e es, ρ, s => (ev e ρ s).bind fun x s => match x with
    | .v (.bool true) => evt es ρ s
    | .v (.bool false) => .ok false s
    | _ => .err
  | .star _ _, _, _ => .err
def evi : It → Rho → Sto → R Src
  | .seq e, ρ, s => (ev e ρ s).bind fun x s => match x with
    | .v d => (R.of (items d) s).bind fun xs s => .ok (.stat xs) s
    | .c n => if (cellAt n s 0).isSome then .ok (.cell n) s else .err
    | .w _ => .err
  | .range1 a, ρ, s => (ev a ρ s).bind fun x s => match x with
    | .v (.int j) => if j < 16777216 ∧ -16777216 < j then .ok (.stat (rangeL 0 j.toNat)) s else .err
    | _ => .err
  | .range2 a b, ρ, s => (ev a ρ s).bind fun x s => (ev b ρ s).bind fun y s => match x, y with
    | .v (.int i), .v (.int j) => if j < 16777216 ∧ -16777216 < i ∧ -16777216 < j ∧ i < 16777216 then .ok (.stat (rangeL i (j - i).toNat)) s else .err
    | _, _ => .err
  | .zip a b, ρ, s => (ev a ρ s).bind fun x s => (ev b ρ s).bind fun y s => zipX x y s
  | .zipN a b, ρ, s => (ev a ρ s).bind fun x s => (ev b ρ s).bind fun y s => zipNX x y s
  | .enum a, ρ, s => (ev a ρ s).bind fun x s => match x with
    | .v (.list xs) => .ok (.stat (enumL 0 xs)) s
    | .c n => if (cellAt n s 0).isSome then .ok (.enum n) s else .err
    | _ => .err
  | .vals d, ρ, s => (ev d ρ s).bind fun x s => match x with
    | .v (.dict kvs) => if kindT kvs then .err else .ok (.stat (kvs.map (·.2))) s
    | _ => .err
  | .items d, ρ, s => (ev d ρ s).bind fun x s => match x with
    | .v (.dict kvs) => if kindT kvs then .err else .ok (.stat (kvs.map fun p => .tuple [p.1, p.2])) s
    | _ => .err
end

/-- how a statement ends -/
inductive Fl where
  | nx (ρ : Rho)
  | rt (x : Xv)
  | bk (ρ : Rho)
  | ct (ρ : Rho)
/-- a for's turns -/
def forS (f : PyData → Rho → Sto → R Fl) : List PyData → Rho → Sto → R Fl
  | [], ρ, s => .ok (.nx ρ) s
  | d :: r, ρ, s => (f d ρ s).bind fun fl s => match fl with
    | .nx ρ => forS f r ρ s
    | .ct ρ => forS f r ρ s
    | .bk ρ => .ok (.nx ρ) s
    | .rt x => .ok (.rt x) s
def forC (f : PyData → Rho → Sto → R Fl) (at_ : Sto → Nat → Option (Option PyData)) : Nat → Nat → Rho → Sto → R Fl
  | 0, _, _, _ => .err
  | k + 1, i, ρ, s => match at_ s i with
    | none => .err
    | some none => .ok (.nx ρ) s
    | some (some d) => (f d ρ s).bind fun fl s => match fl with
      | .nx ρ => forC f at_ k (i + 1) ρ s
      | .ct ρ => forC f at_ k (i + 1) ρ s
      | .bk ρ => .ok (.nx ρ) s
      | .rt x => .ok (.rt x) s
def forW (f : PyData → Rho → Sto → R Fl) (src : Src) (ρ : Rho) (s : Sto) : R Fl :=
  match src with
  | .stat xs => forS f xs ρ s
  | .cell n => forC f (cellAt n) fuel 0 ρ s
  | .enum n => forC f (enumAt n) fuel 0 ρ s
  | .zip a b => forC f (zipAt a b) fuel 0 ρ s
def whileW (c : Rho → Sto → R Xv) (b : Rho → Sto → R Fl) : Nat → Rho → Sto → R Fl
  | 0, _, _ => .err
  | k + 1, ρ, s => (c ρ s).bind fun x s => match x with
    | .v (.bool true) => (b ρ s).bind fun fl s => match fl with
      | .nx ρ => whileW c b k ρ s
      | .ct ρ => whileW c b k ρ s
      | .bk ρ => .ok (.nx ρ) s
      | .rt x => .ok (.rt x) s
    | .v (.bool false) => .ok (.nx ρ) s
    | _ => .err
/-- o[j] = d -/
def setIX (n : Nat) (y : Xv) (d : PyData) (ρ : Rho) (s : Sto) : R Fl := match y with
  | .v (.int j) => match s[n]? with
    | some (.lst xs) => match L2.ixN xs.length j with
      | some m => .ok (.nx ρ) (s.set n (.lst (xs.set m d)))
      | none => .err
    | _ => .err
  | _ => .err
/-- d[k] = v -/
def setKX (n : Nat) (y : Xv) (d : PyData) (ρ : Rho) (s : Sto) : R Fl := match rd s y, s[n]? with
  | some k, some (.dic t kvs) => if keyOk t k && decide (kvs.length < 16777216) then .ok (.nx ρ) (s.set n (.dic t (putD kvs k d))) else .err
  | _, _ => .err
/-- handed back: a dict of one's own stays as it is from now on -/
def retX (x : Xv) (s : Sto) : R Fl := match x with
  | .c n => match s[n]? with
    | some (.dic t kvs) => if t && kvs.isEmpty then .err else .ok (.rt (.v (.dict kvs))) (s.set n (.frz (.dict kvs)))
    | _ => .ok (.rt x) s
  | _ => .ok (.rt x) s
/-- a new cell for a new list -/
def newC (x : Xv) (s : Sto) : Option (Xv × Sto) :=
  match x with
  | .v (.list xs) => some (.c s.length, s ++ [.lst xs])
  | _ => none
def setX (d : Xv) (tg : Tg) (s : Sto) (ρ : Rho) : Option Rho :=
  match tg, d with
  | .one i, x => some (ρ.set i (some x))
  | .tup is, .v d => bindT (.tup is) d ρ
  | _, _ => none
/-- the right side of a, b = x, y; a new list for a name that is changed is a cell at once -/
def evp : List (Nat × Bool) → Es → Rho → Sto → R (List Xv)
  | [], .nil, _, s => .ok [] s
  | (_, n) :: ts, .cons e es, ρ, s => (ev cx e ρ s).bind fun x s => if n then (match newC x s with
      | some (y, s) => (evp ts es ρ s).bind fun ys s => .ok (y :: ys) s
      | none => .err) else (evp ts es ρ s).bind fun ys s => .ok (x :: ys) s
  | _, _, _, _ => .err
def setAll : List (Nat × Bool) → List Xv → Rho → Rho
  | t :: ts, x :: xs, ρ => setAll ts xs (ρ.set t.1 (some x))
  | _, _, ρ => ρ
def hdVs (ds : List PyData) : List HIt → Option (List PyData)
  | [] => some []
  | .con d :: r => (hdVs ds r).map fun l => d :: l
  | .fld :: r => match ds with
    | [a] => (hdVs ds r).map fun l => a :: l
    | _ => none
  | .isa b :: r => (hdVs ds r).map fun l => .bool b :: l
def hdOf (c : Str) : List Hd → Option Hd
  | [] => none
  | h :: r => if h.c = c then some h else hdOf c r
def kTry (hs : List Hd) (ρ : Rho) : R Fl → R Fl
  | .exc c ds s => match hdOf c hs with
    | some h => match hdVs ds h.its with
      | some vs => .ok (.nx ((ρ.set h.tgt (some (.v (.list vs)))).set h.err none)) s
      | none => .err
    | none => .exc c ds s
  | r => r
mutual
def ex : S → Rho → Sto → R Fl
  | .ex e, ρ, s => (ev cx e ρ s).bind fun _ s => .ok (.nx ρ) s
  | .set t e, ρ, s => (ev cx e ρ s).bind fun x s => (R.of (setX x t s ρ) s).bind fun ρ s => .ok (.nx ρ) s
  | .new i e, ρ, s => (ev cx e ρ s).bind fun x s => match newC x s with
    | some (y, s) => .ok (.nx (ρ.set i (some y))) s
    | none => .err
  | .par ts es, ρ, s => (evp cx ts es ρ s).bind fun xs s => .ok (.nx (setAll ts xs ρ)) s
  | .setI i k e, ρ, s => (ev cx e ρ s).bind fun x s => match fz s x, ρ[i]? with
    | some (d, s), some (some (.c n)) => (ev cx k ρ s).bind fun y s => setIX n y d ρ s
    | _, _ => .err
  | .newD i t, ρ, s => .ok (.nx (ρ.set i (some (.c s.length)))) (s ++ [.dic t []])
  | .setK i k e, ρ, s => (ev cx e ρ s).bind fun x s => match fz s x, ρ[i]? with
    | some (d, s), some (some (.c n)) => (ev cx k ρ s).bind fun y s => setKX n y d ρ s
    | _, _ => .err
  | .ret e, ρ, s => (ev cx e ρ s).bind fun x s => .ok (.rt x) s
  | .retD e, ρ, s => (ev cx e ρ s).bind fun x s => retX x s
  | .retN, _, s => .ok (.rt (.v .none)) s
  | .retC e, ρ, s => (ev cx e ρ s).bind fun x s => match newC x s with
    | some (y, s) => .ok (.rt y) s
    | none => .err
  | .ite c a b, ρ, s => (ev cx c ρ s).bind fun x s => match x with
    | .v (.bool true) => exs a ρ s
    | .v (.bool false) => exs b ρ s
    | _ => .err
  | .for_ tg it b, ρ, s => (evi cx it ρ s).bind fun src s => forW (fun d ρ s => match bindT tg d ρ with
      | some ρ => exs b ρ s
      | none => .err) src ρ s
  | .while_ c b, ρ, s => whileW (fun ρ s => ev cx c ρ s) (fun ρ s => exs b ρ s) fuel ρ s
  | .raise c es, ρ, s => (evs cx es ρ s).bind fun ds s => .exc c ds s
  | .try_ b hs, ρ, s => kTry hs ρ (exs b ρ s)
  | .pass, ρ, s => .ok (.nx ρ) s
  | .brk, ρ, s => .ok (.bk ρ) s
  | .cont, ρ, s => .ok (.ct ρ) s
  | .stuck, _, _ => .err
def exs : Ss → Rho → Sto → R Fl
  | .nil, ρ, s => .ok (.nx ρ) s
  | .cons a r, ρ, s => (ex a ρ s).bind fun fl s => match fl with
    | .nx ρ => exs r ρ s
    | f => .ok f s
end

/-- what a def hands back -/
def back (keep : Bool) (n : Nat) (x : Xv) (s : Sto) : R Xv :=
  if keep then match x with
    | .c m => if n ≤ m then match s[m]? with
      | some (.lst xs) => .ok (.c n) (s.take n ++ [.lst xs])
      | _ => .err
      else .err
    | _ => .err
  else match x with
    | .v d => .ok (.v d) (s.take n)
    | .c m => if m < n then .ok (.c m) (s.take n) else match rd s (.c m) with
      | some d => .ok (.v d) (s.take n)
      | none => .err
    | .w _ => .err
def runFn (cx : Ctx) (f : Fn) (as : List Xv) (s : Sto) : R Xv :=
  if as.length = f.params then
    match exs cx f.body (as.map some ++ List.replicate (f.slots - as.length) none) s with
    | .ok (.rt x) s' => back f.keep s.length x s'
    | .ok (.nx _) s' => .ok (.v .none) (s'.take s.length)
    | .ok _ _ => .err
    | .exc c ds s' => .exc c ds (s'.take s.length)
    | .err => .err
  else .err
def allV : List Xv → Bool
  | [] => true
  | .v _ :: r => allV r
  | _ :: _ => false
/-- a def that is handed plain data alone knows nothing of the caller's cells -/
def frame (s : Sto) : R Xv → R Xv
  | .ok (.v d) _ => .ok (.v d) s
  | .ok _ _ => .err
  | .exc c ds _ => .exc c ds s
  | .err => .err
def runAt (cx : Ctx) (f : Fn) (as : List Xv) (s : Sto) : R Xv := if allV as && !f.keep then frame s (runFn cx f as []) else runFn cx f as s
structure Prog where
  fns : List (Nat × Fn)
  glob : List (Nat × PyData)
def Prog.fn? (P : Prog) (f : Nat) : Option Fn := P.fns.lookup f
def callD (P : Prog) : Nat → Nat → List Xv → Sto → R Xv
  | 0, _, _, _ => .err
  | k + 1, f, as, s => match P.fn? f with
    | some fn => runAt ⟨callD P k, fun x => P.glob.lookup x⟩ fn as s
    | none => .err
abbrev cxAt (Pm : Prog) (k : Nat) : Ctx := ⟨callD Pm k, fun x => Pm.glob.lookup x⟩
end Mi
end

section
/-! MiSh: the small language without its terms: a closure a construct, so that the kernel runs it faster. -/
namespace Mi
namespace Q
open PySem
abbrev EV := Rho → Sto → R Xv
abbrev EL := Rho → Sto → R (List PyData)
abbrev EX := Rho → Sto → R (List Xv)
abbrev ET := Rho → Sto → R Bool
abbrev EI := Rho → Sto → R Src
abbrev EF := Rho → Sto → R Fl
def var (i : Nat) : EV := fun ρ s => match ρ[i]? with
  | some (some x) => .ok x s
  | _ => .err
def cst (d : PyData) : EV := fun _ s => .ok (.v d) s
def glob (cx : Ctx) (x : Nat) : EV := fun _ s => match cx.glob x with
  | some d => .ok (.v d) s
  | none => .err
def bin (op : Operator) (a b : EV) : EV := fun ρ s => (a ρ s).bind fun x s => (b ρ s).bind fun y s => binX op x y s
def neg (a : EV) : EV := fun ρ s => (a ρ s).bind negX
def cmp (op : CmpOp) (a b : EV) : EV := fun ρ s => (a ρ s).bind fun x s => (b ρ s).bind fun y s => cmpX op x y s
def chain (op op' : CmpOp) (a b c : EV) : EV := fun ρ s => (a ρ s).bind fun x s => (b ρ s).bind fun y s => (cmpX op x y s).bind fun k s => match k with
    | .v (.bool true) => (c ρ s).bind fun z s => cmpX op' y z s
    | .v (.bool false) => .ok (.v (.bool false)) s
    | _ => .err
def and (a b : EV) : EV := fun ρ s => (a ρ s).bind fun x s => match x with
    | .v (.bool true) => b ρ s
    | .v (.bool false) => .ok (.v (.bool false)) s
    | _ => .err
def or (a b : EV) : EV := fun ρ s => (a ρ s).bind fun x s => match x with
    | .v (.bool true) => .ok (.v (.bool true)) s
    | .v (.bool false) => b ρ s
    | _ => .err
def orL (a b : EV) : EV := fun ρ s => (a ρ s).bind fun x s => match x with
    | .v (.list []) => b ρ s
    | .v (.list (d :: ds)) => .ok (.v (.list (d :: ds))) s
    | _ => .err
def not (a : EV) : EV := fun ρ s => (a ρ s).bind notX
def ite (c a b : EV) : EV := fun ρ s => (c ρ s).bind fun x s => match x with
    | .v (.bool true) => a ρ s
    | .v (.bool false) => b ρ s
    | _ => .err
def tup (es : EL) : EV := fun ρ s => (es ρ s).bind madeT
def lst (es : EL) : EV := fun ρ s => (es ρ s).bind madeL
def call (cx : Ctx) (f : Nat) (es : EX) : EV := fun ρ s => (es ρ s).bind (cx.call f)
def callK (cx : Ctx) (f : Nat) (es : EX) (perm : List Nat) : EV := fun ρ s => (es ρ s).bind (callP cx.call f perm)
def blt (f : B) (es : EX) : EV := fun ρ s => (es ρ s).bind (bltX f)
def bltl (f : BL) (es : EX) : EV := fun ρ s => (es ρ s).bind (bltlX f)
def meth (m : M) (o : EV) (es : EL) : EV := fun ρ s => (o ρ s).bind fun x s => if isL x s then (es ρ s).bind fun ds s => methX m x ds s else .err
def isi (a : EV) (ts : List String) : EV := fun ρ s => (a ρ s).bind fun x s => isiX x ts s
def sub (a b : EV) : EV := fun ρ s => (a ρ s).bind fun x s => (b ρ s).bind fun y s => subX x y s
def slice (a : EV) (bl : Bool) (lo : EV) (bh : Bool) (hi : EV) : EV := fun ρ s => (a ρ s).bind fun x s => (if bl then (lo ρ s).bind partX else .ok none s).bind fun l s => (if bh then (hi ρ s).bind partX else .ok none s).bind fun h s => sliceX x l h s
def rev (a : EV) : EV := fun ρ s => (a ρ s).bind revX
def setF (b : Bool) (a : EV) : EV := fun ρ s => (a ρ s).bind (setFX b)
def get1 (d k : EV) : EV := fun ρ s => (d ρ s).bind fun x s => if isK x s then (k ρ s).bind fun y s => getX x y (.v .none) s else .err
def get2 (d k z : EV) : EV := fun ρ s => (d ρ s).bind fun x s => if isK x s then (k ρ s).bind fun y s => (z ρ s).bind fun z s => getX x y z s else .err
def valsL (d : EV) : EV := fun ρ s => (d ρ s).bind valsX
def comp (own : List Nat) (e : EV) (tg : Tg) (it : EI) (ifs : ET) : EV := fun ρ s => (it ρ s).bind fun src s =>
    (calm (walk (fun d s => match bindT tg d (wipeR ρ own) with
      | some ρ1 => (ifs ρ1 s).bind fun b s => if b then (e ρ1 s).bind putX else .ok [] s
      | none => .err) src s)).bind madeL
def comp2 (own own1 : List Nat) (e : EV) (tg : Tg) (it : EI) (ifs : ET) (tg1 : Tg) (it1 : EI) (ifs1 : ET) : EV := fun ρ s => (it ρ s).bind fun src s =>
    (calm (walk (fun d s => match bindT tg d (wipeR ρ own) with
      | some ρ1 => (ifs ρ1 s).bind fun b s => if b then (it1 ρ1 s).bind fun src1 s => walk (fun d1 s => match bindT tg1 d1 (wipeR ρ1 own1) with
          | some ρ2 => (ifs1 ρ2 s).bind fun b s => if b then (e ρ2 s).bind putX else .ok [] s
          | none => .err) src1 s else .ok [] s
      | none => .err) src s)).bind madeL
def lNil : EL := fun _ s => .ok [] s
def lCons (e : EV) (es : EL) : EL := fun ρ s => (e ρ s).bind fun x s => match fz s x with
    | some (d, s) => (es ρ s).bind fun ds s => .ok (d :: ds) s
    | none => .err
def lStar (e : EV) (es : EL) : EL := fun ρ s => (e ρ s).bind fun x s => match (rd s x).bind seqOf with
    | some xs => (es ρ s).bind fun ds s => .ok (xs ++ ds) s
    | none => .err
def xNil : EX := fun _ s => .ok [] s
def xCons (e : EV) (es : EX) : EX := fun ρ s => (e ρ s).bind fun x s => (es ρ s).bind fun xs s => .ok (x :: xs) s
def tNil : ET := fun _ s => .ok true s
def tCons (e : EV) (es : ET) : ET := fun ρ s => (e ρ s).bind fun x s => match x with
    | .v (.bool true) => es ρ s
    | .v (.bool false) => .ok false s
    | _ => .err
def seq (e : EV) : EI := fun ρ s => (e ρ s).bind fun x s => match x with
    | .v d => (R.of (Mi.items d) s).bind fun xs s => .ok (.stat xs) s
    | .c n => if (cellAt n s 0).isSome then .ok (.cell n) s else .err
    | .w _ => .err
def range1 (a : EV) : EI := fun ρ s => (a ρ s).bind fun x s => match x with
    | .v (.int j) => if j < 16777216 ∧ -16777216 < j then .ok (.stat (rangeL 0 j.toNat)) s else .err
    | _ => .err
def range2 (a b : EV) : EI := fun ρ s => (a ρ s).bind fun x s => (b ρ s).bind fun y s => match x, y with
    | .v (.int i), .v (.int j) => if j < 16777216 ∧ -16777216 < i ∧ -16777216 < j ∧ i < 16777216 then .ok (.stat (rangeL i (j - i).toNat)) s else .err
    | _, _ => .err
def zip (a b : EV) : EI := fun ρ s => (a ρ s).bind fun x s => (b ρ s).bind fun y s => zipX x y s
def zipN (a b : EV) : EI := fun ρ s => (a ρ s).bind fun x s => (b ρ s).bind fun y s => zipNX x y s
def vals (d : EV) : EI := fun ρ s => (d ρ s).bind fun x s => match x with
    | .v (.dict kvs) => if kindT kvs then .err else .ok (.stat (kvs.map (·.2))) s
    | _ => .err
def items (d : EV) : EI := fun ρ s => (d ρ s).bind fun x s => match x with
    | .v (.dict kvs) => if kindT kvs then .err else .ok (.stat (kvs.map fun p => .tuple [p.1, p.2])) s
    | _ => .err
def enum (a : EV) : EI := fun ρ s => (a ρ s).bind fun x s => match x with
    | .v (.list xs) => .ok (.stat (enumL 0 xs)) s
    | .c n => if (cellAt n s 0).isSome then .ok (.enum n) s else .err
    | _ => .err
def pNil : EX := fun _ s => .ok [] s
def pCons (n : Bool) (e : EV) (es : EX) : EX := fun ρ s => (e ρ s).bind fun x s => if n then (match newC x s with
      | some (y, s) => (es ρ s).bind fun ys s => .ok (y :: ys) s
      | none => .err) else (es ρ s).bind fun ys s => .ok (x :: ys) s
def sEx (e : EV) : EF := fun ρ s => (e ρ s).bind fun _ s => .ok (.nx ρ) s
def sSet (t : Tg) (e : EV) : EF := fun ρ s => (e ρ s).bind fun x s => (R.of (setX x t s ρ) s).bind fun ρ s => .ok (.nx ρ) s
def sNew (i : Nat) (e : EV) : EF := fun ρ s => (e ρ s).bind fun x s => match newC x s with
    | some (y, s) => .ok (.nx (ρ.set i (some y))) s
    | none => .err
def sPar (ts : List (Nat × Bool)) (es : EX) : EF := fun ρ s => (es ρ s).bind fun xs s => .ok (.nx (setAll ts xs ρ)) s
def sSetI (i : Nat) (k e : EV) : EF := fun ρ s => (e ρ s).bind fun x s => match fz s x, ρ[i]? with
    | some (d, s), some (some (.c n)) => (k ρ s).bind fun y s => setIX n y d ρ s
    | _, _ => .err
def sNewD (i : Nat) (t : Bool) : EF := fun ρ s => .ok (.nx (ρ.set i (some (.c s.length)))) (s ++ [.dic t []])
def sSetK (i : Nat) (k e : EV) : EF := fun ρ s => (e ρ s).bind fun x s => match fz s x, ρ[i]? with
    | some (d, s), some (some (.c n)) => (k ρ s).bind fun y s => setKX n y d ρ s
    | _, _ => .err
def sRetD (e : EV) : EF := fun ρ s => (e ρ s).bind fun x s => retX x s
def sRet (e : EV) : EF := fun ρ s => (e ρ s).bind fun x s => .ok (.rt x) s
def sRetN : EF := fun _ s => .ok (.rt (.v .none)) s
def sRetC (e : EV) : EF := fun ρ s => (e ρ s).bind fun x s => match newC x s with
    | some (y, s) => .ok (.rt y) s
    | none => .err
def sIte (c : EV) (a b : EF) : EF := fun ρ s => (c ρ s).bind fun x s => match x with
    | .v (.bool true) => a ρ s
    | .v (.bool false) => b ρ s
    | _ => .err
def sFor (tg : Tg) (it : EI) (b : EF) : EF := fun ρ s => (it ρ s).bind fun src s => forW (fun d ρ s => match bindT tg d ρ with
      | some ρ => b ρ s
      | none => .err) src ρ s
def sWhile (c : EV) (b : EF) : EF := fun ρ s => whileW (fun ρ s => c ρ s) (fun ρ s => b ρ s) fuel ρ s
def sRaise (c : Str) (es : EL) : EF := fun ρ s => (es ρ s).bind fun ds s => .exc c ds s
def sTry (b : EF) (hs : List Hd) : EF := fun ρ s => kTry hs ρ (b ρ s)
def sPass : EF := fun ρ s => .ok (.nx ρ) s
def sBrk : EF := fun ρ s => .ok (.bk ρ) s
def sCont : EF := fun ρ s => .ok (.ct ρ) s
def sStuck : EF := fun _ _ => .err
def sNil : EF := fun ρ s => .ok (.nx ρ) s
def sCons (a r : EF) : EF := fun ρ s => (a ρ s).bind fun fl s => match fl with
    | .nx ρ => r ρ s
    | f => .ok f s
end Q
structure FnS where
  params : Nat
  slots : Nat
  keep : Bool
  body : Ctx → Rho → Sto → R Fl
def Fn.sh (f : Fn) : FnS := ⟨f.params, f.slots, f.keep, fun cx => exs cx f.body⟩
def runS (cx : Ctx) (f : FnS) (as : List Xv) (s : Sto) : R Xv :=
  if as.length = f.params then
    match f.body cx (as.map some ++ List.replicate (f.slots - as.length) none) s with
    | .ok (.rt x) s' => back f.keep s.length x s'
    | .ok (.nx _) s' => .ok (.v .none) (s'.take s.length)
    | .ok _ _ => .err
    | .exc c ds s' => .exc c ds (s'.take s.length)
    | .err => .err
  else .err
def runAtS (cx : Ctx) (f : FnS) (as : List Xv) (s : Sto) : R Xv := if allV as && !f.keep then frame s (runS cx f as []) else runS cx f as s
def callS (g : Nat → Option PySem.PyData) (P : Nat → Option FnS) : Nat → Nat → List Xv → Sto → R Xv
  | 0, _, _, _ => .err
  | k + 1, f, as, s => match P f with
    | some fn => runAtS ⟨callS g P k, g⟩ fn as s
    | none => .err
theorem callS_eq {P : Prog} {PS : Nat → Option FnS} (h : ∀ f, (P.fn? f).map Fn.sh = PS f) : ∀ (k : Nat), callD P k = callS (fun x => P.glob.lookup x) PS k
  | 0 => rfl
  | k + 1 => by
    funext f as s
    rw [callD, callS, ← h f, callS_eq h k]
    cases P.fn? f with
    | none => rfl
    | some fn => rfl
theorem look_map {α β : Type} (g : α → β) (f : Nat) : ∀ l : List (Nat × α), (l.lookup f).map g = (l.map fun p => (p.1, g p.2)).lookup f
  | [] => rfl
  | (n, a) :: l => by
    rw [List.map_cons, List.lookup_cons, List.lookup_cons]
    cases (f == n) with
    | true => rfl
    | false => exact look_map g f l
theorem callS_of {P : Prog} {PS : List (Nat × FnS)} (h : P.fns.map (fun p => (p.1, p.2.sh)) = PS) (k : Nat) : callD P k = callS (fun x => P.glob.lookup x) (fun f => PS.lookup f) k :=
  callS_eq (fun f => by rw [← h]; exact look_map _ f _) k
end Mi
end

section
/-! MiCon: how the evaluator's answers are put together (contracts of defs). -/
namespace Mi
open PySem
section
variable {cx : Mi.Ctx} {ρ : Rho} {s s1 s2 : Sto}
theorem ev_var (i : Nat) : ev cx (.var i) ρ s = match ρ[i]? with
    | some (some x) => .ok x s
    | _ => .err := rfl
theorem ev_cst (d : PyData) : ev cx (.cst d) ρ s = .ok (.v d) s := rfl
theorem ev_bin (op : Operator) (a b : E) : ev cx (.bin op a b) ρ s = (ev cx a ρ s).bind fun x s => (ev cx b ρ s).bind fun y s => binX op x y s := rfl
theorem ev_neg (a : E) : ev cx (.neg a) ρ s = (ev cx a ρ s).bind negX := rfl
theorem ev_cmp (op : CmpOp) (a b : E) : ev cx (.cmp op a b) ρ s = (ev cx a ρ s).bind fun x s => (ev cx b ρ s).bind fun y s => cmpX op x y s := rfl
theorem ev_and (a b : E) : ev cx (.and a b) ρ s = (ev cx a ρ s).bind fun x s => match x with
    | .v (.bool true) => ev cx b ρ s
    | .v (.bool false) => .ok (.v (.bool false)) s
    | _ => .err := rfl
theorem ev_or (a b : E) : ev cx (.or a b) ρ s = (ev cx a ρ s).bind fun x s => match x with
    | .v (.bool true) => .ok (.v (.bool true)) s
    | .v (.bool false) => ev cx b ρ s
    | _ => .err := rfl
theorem ev_not (a : E) : ev cx (.not a) ρ s = (ev cx a ρ s).bind notX := rfl
theorem ev_ite (c a b : E) : ev cx (.ite c a b) ρ s = (ev cx c ρ s).bind fun x s => match x with
    | .v (.bool true) => ev cx a ρ s
    | .v (.bool false) => ev cx b ρ s
    | _ => .err := rfl
theorem ev_tup (es : Es) : ev cx (.tup es) ρ s = (evs cx es ρ s).bind madeT := rfl
theorem ev_lst (es : Es) : ev cx (.lst es) ρ s = (evs cx es ρ s).bind madeL := rfl
theorem ev_call (f : Nat) (es : Es) : ev cx (.call f es) ρ s = (evx cx es ρ s).bind (cx.call f) := rfl
theorem ev_callK (f : Nat) (es : Es) (pm : List Nat) : ev cx (.callK f es pm) ρ s = (evx cx es ρ s).bind (callP cx.call f pm) := rfl
theorem ev_blt (f : B) (es : Es) : ev cx (.blt f es) ρ s = (evx cx es ρ s).bind (bltX f) := rfl
theorem ev_bltl (f : BL) (es : Es) : ev cx (.bltl f es) ρ s = (evx cx es ρ s).bind (bltlX f) := rfl
theorem ev_meth (m : M) (o : E) (es : Es) : ev cx (.meth m o es) ρ s = (ev cx o ρ s).bind fun x s => if isL x s then (evs cx es ρ s).bind fun ds s => methX m x ds s else .err := rfl
theorem ev_isi (a : E) (ts : List String) : ev cx (.isi a ts) ρ s = (ev cx a ρ s).bind fun x s => isiX x ts s := rfl
theorem ev_sub (a b : E) : ev cx (.sub a b) ρ s = (ev cx a ρ s).bind fun x s => (ev cx b ρ s).bind fun y s => subX x y s := rfl
theorem ev_slice (a : E) (bl : Bool) (lo : E) (bh : Bool) (hi : E) : ev cx (.slice a bl lo bh hi) ρ s = (ev cx a ρ s).bind fun x s => (if bl then (ev cx lo ρ s).bind partX else .ok none s).bind fun l s => (if bh then (ev cx hi ρ s).bind partX else .ok none s).bind fun h s => sliceX x l h s := rfl
theorem ev_rev (a : E) : ev cx (.rev a) ρ s = (ev cx a ρ s).bind revX := rfl
theorem evs_nil : evs cx .nil ρ s = .ok [] s := rfl
theorem evs_cons (e : E) (es : Es) : evs cx (.cons e es) ρ s = (ev cx e ρ s).bind fun x s => match fz s x with
    | some (d, s) => (evs cx es ρ s).bind fun ds s => .ok (d :: ds) s
    | none => .err := rfl
theorem evs_star (e : E) (es : Es) : evs cx (.star e es) ρ s = (ev cx e ρ s).bind fun x s => match (rd s x).bind seqOf with
    | some xs => (evs cx es ρ s).bind fun ds s => .ok (xs ++ ds) s
    | none => .err := rfl
theorem evx_nil : evx cx .nil ρ s = .ok [] s := rfl
theorem evx_cons (e : E) (es : Es) : evx cx (.cons e es) ρ s = (ev cx e ρ s).bind fun x s => (evx cx es ρ s).bind fun xs s => .ok (x :: xs) s := rfl
theorem evt_nil : evt cx .nil ρ s = .ok true s := rfl
theorem evt_cons (e : E) (es : Es) : evt cx (.cons e es) ρ s = (ev cx e ρ s).bind fun x s => match x with
    | .v (.bool true) => evt cx es ρ s
    | .v (.bool false) => .ok false s
    | _ => .err := rfl
theorem evi_seq (e : E) : evi cx (.seq e) ρ s = (ev cx e ρ s).bind fun x s => match x with
    | .v d => (R.of (items d) s).bind fun xs s => .ok (.stat xs) s
    | .c n => if (cellAt n s 0).isSome then .ok (.cell n) s else .err
    | .w _ => .err := rfl
/-- the turns of a comprehension over told items -/
theorem turns_pure {f : PyData → Sto → R (List PyData)} {α : Type} {en : α → PyData} {g : α → List PyData} : ∀ {xs : List α}, (∀ x ∈ xs, f (en x) s = .ok (g x) s) → turns f (xs.map en) s = .ok (xs.flatMap g) s
  | [], _ => rfl
  | x :: xs, h => by
    rw [List.map_cons, turns, h x (List.mem_cons_self ..), R.bind_ok, turns_pure (fun y hy => h y (List.mem_cons_of_mem _ hy)), R.bind_ok]
    rfl
theorem flatMap_if {α β : Type} {p : α → Bool} {g : α → β} : ∀ {xs : List α}, (xs.flatMap fun x => if p x then [g x] else []) = (xs.filter p).map g
  | [] => rfl
  | x :: xs => by
    rw [List.flatMap_cons, flatMap_if, List.filter_cons]
    split <;> simp
theorem ev_comp {own : List Nat} {e : E} {tg : Tg} {it : It} {ifs : Es} {α : Type} {xs : List α} (en : α → PyData) (ρ1 : α → Rho) (p : α → Bool) (g : α → PyData)
    (hi : evi cx it ρ s = .ok (.stat (xs.map en)) s) (hb : ∀ x ∈ xs, bindT tg (en x) (wipeR ρ own) = some (ρ1 x)) (ht : ∀ x ∈ xs, evt cx ifs (ρ1 x) s = .ok (p x) s)
    (he : ∀ x ∈ xs, p x = true → ev cx e (ρ1 x) s = .ok (.v (g x)) s) (hz : xs.length ≤ 16777216) : ev cx (.comp own e tg it ifs) ρ s = .ok (.v (.list ((xs.filter p).map g))) s := by
  show (evi cx it ρ s).bind _ = _
  rw [hi, R.bind_ok]
  show (calm (turns _ (xs.map en) s)).bind madeL = _
  rw [turns_pure (g := fun x => if p x then [g x] else [])]
  · show madeL _ s = _
    rw [flatMap_if, madeL, if_pos]
    unfold szOk
    rw [List.length_map]
    exact decide_eq_true (Nat.le_trans (List.length_filter_le ..) hz)
  · intro x hx
    simp only [hb x hx, ht x hx, R.bind_ok]
    cases hp : p x with
    | false => rfl
    | true => simp [he x hx hp, putX, fz]
theorem ev_comp_all {own : List Nat} {e : E} {tg : Tg} {it : It} {α : Type} {xs : List α} (en : α → PyData) (ρ1 : α → Rho) (g : α → PyData)
    (hi : evi cx it ρ s = .ok (.stat (xs.map en)) s) (hb : ∀ x ∈ xs, bindT tg (en x) (wipeR ρ own) = some (ρ1 x))
    (he : ∀ x ∈ xs, ev cx e (ρ1 x) s = .ok (.v (g x)) s) (hz : xs.length ≤ 16777216) : ev cx (.comp own e tg it .nil) ρ s = .ok (.v (.list (xs.map g))) s := by
  rw [ev_comp en ρ1 (fun _ => true) g hi hb (fun _ _ => rfl) (fun x hx _ => he x hx) hz]
  rw [List.filter_eq_self.mpr fun _ _ => rfl]
/-- two sources -/
theorem ev_comp2 {own own1 : List Nat} {e : E} {tg tg1 : Tg} {it it1 : It} {ifs ifs1 : Es} {α β : Type} {xs : List α} (en : α → PyData) (ρ1 : α → Rho) (p : α → Bool) (ys : α → List β) (en1 : β → PyData) (ρ2 : α → β → Rho) (p1 : α → β → Bool) (g : α → β → PyData)
    (hi : evi cx it ρ s = .ok (.stat (xs.map en)) s) (hb : ∀ x ∈ xs, bindT tg (en x) (wipeR ρ own) = some (ρ1 x)) (ht : ∀ x ∈ xs, evt cx ifs (ρ1 x) s = .ok (p x) s)
    (hi1 : ∀ x ∈ xs, p x = true → evi cx it1 (ρ1 x) s = .ok (.stat ((ys x).map en1)) s) (hb1 : ∀ x ∈ xs, ∀ y ∈ ys x, bindT tg1 (en1 y) (wipeR (ρ1 x) own1) = some (ρ2 x y)) (ht1 : ∀ x ∈ xs, ∀ y ∈ ys x, evt cx ifs1 (ρ2 x y) s = .ok (p1 x y) s)
    (he : ∀ x ∈ xs, ∀ y ∈ ys x, p1 x y = true → ev cx e (ρ2 x y) s = .ok (.v (g x y)) s) (hz : ((xs.filter p).flatMap fun x => ((ys x).filter (p1 x)).map (g x)).length ≤ 16777216) :
    ev cx (.comp2 own own1 e tg it ifs tg1 it1 ifs1) ρ s = .ok (.v (.list ((xs.filter p).flatMap fun x => ((ys x).filter (p1 x)).map (g x)))) s := by
  show (evi cx it ρ s).bind _ = _
  rw [hi, R.bind_ok]
  show (calm (turns _ (xs.map en) s)).bind madeL = _
  rw [turns_pure (g := fun x => if p x then ((ys x).filter (p1 x)).map (g x) else [])]
  · have e1 : (xs.flatMap fun x => if p x then ((ys x).filter (p1 x)).map (g x) else []) = (xs.filter p).flatMap fun x => ((ys x).filter (p1 x)).map (g x) := by
      clear hi hb ht hi1 hb1 ht1 he hz
      induction xs with
      | nil => rfl
      | cons x xs ih => rw [List.flatMap_cons, ih, List.filter_cons]; split <;> simp
    show madeL _ s = _
    rw [e1, madeL, if_pos]
    exact decide_eq_true hz
  · intro x hx
    simp only [hb x hx, ht x hx, R.bind_ok]
    cases hp : p x with
    | false => rfl
    | true =>
      simp only [if_true]
      rw [hi1 x hx hp, R.bind_ok]
      show turns _ ((ys x).map en1) s = _
      rw [turns_pure (g := fun y => if p1 x y then [g x y] else []), flatMap_if]
      intro y hy
      simp only [hb1 x hx y hy, ht1 x hx y hy, R.bind_ok]
      cases hp1 : p1 x y with
      | false => rfl
      | true => simp [he x hx y hy hp1, putX, fz]
/-! ### statements -/
theorem exs_nil : exs cx .nil ρ s = .ok (.nx ρ) s := rfl
theorem exs_nx {a : S} {r : Ss} {ρ1 : Rho} (h : ex cx a ρ s = .ok (.nx ρ1) s1) : exs cx (.cons a r) ρ s = exs cx r ρ1 s1 := by
  show (ex cx a ρ s).bind _ = _
  rw [h]
  rfl
theorem exs_rt {a : S} {r : Ss} {x : Xv} (h : ex cx a ρ s = .ok (.rt x) s1) : exs cx (.cons a r) ρ s = .ok (.rt x) s1 := by
  show (ex cx a ρ s).bind _ = _
  rw [h]
  rfl
theorem ex_ex {e : E} {x : Xv} (h : ev cx e ρ s = .ok x s1) : ex cx (.ex e) ρ s = .ok (.nx ρ) s1 := by
  show (ev cx e ρ s).bind _ = _
  rw [h]
  rfl
theorem ex_set {i : Nat} {e : E} {x : Xv} (h : ev cx e ρ s = .ok x s1) : ex cx (.set (.one i) e) ρ s = .ok (.nx (ρ.set i (some x))) s1 := by
  show (ev cx e ρ s).bind _ = _
  rw [h]
  rfl
theorem ex_new {i : Nat} {e : E} {xs : List PyData} (h : ev cx e ρ s = .ok (.v (.list xs)) s1) : ex cx (.new i e) ρ s = .ok (.nx (ρ.set i (some (.c s1.length)))) (s1 ++ [.lst xs]) := by
  show (ev cx e ρ s).bind _ = _
  rw [h]
  rfl
theorem ex_ret {e : E} {x : Xv} (h : ev cx e ρ s = .ok x s1) : ex cx (.ret e) ρ s = .ok (.rt x) s1 := by
  show (ev cx e ρ s).bind _ = _
  rw [h]
  rfl
theorem ex_retC {e : E} {xs : List PyData} (h : ev cx e ρ s = .ok (.v (.list xs)) s1) : ex cx (.retC e) ρ s = .ok (.rt (.c s1.length)) (s1 ++ [.lst xs]) := by
  show (ev cx e ρ s).bind _ = _
  rw [h]
  rfl
theorem ex_ite_t {c : E} {a b : Ss} (h : ev cx c ρ s = .ok (.v (.bool true)) s1) : ex cx (.ite c a b) ρ s = exs cx a ρ s1 := by
  show (ev cx c ρ s).bind _ = _
  rw [h]
  rfl
theorem ex_ite_f {c : E} {a b : Ss} (h : ev cx c ρ s = .ok (.v (.bool false)) s1) : ex cx (.ite c a b) ρ s = exs cx b ρ s1 := by
  show (ev cx c ρ s).bind _ = _
  rw [h]
  rfl
def forL (cx : Mi.Ctx) (tg : Tg) (b : Ss) : List PyData → Rho → Sto → Mi.R Fl := forS (fun d ρ s => match bindT tg d ρ with
      | some ρ => exs cx b ρ s
      | none => .err)
theorem ex_for {tg : Tg} {it : It} {b : Ss} {xs : List PyData} (h : evi cx it ρ s = .ok (.stat xs) s1) : ex cx (.for_ tg it b) ρ s = forL cx tg b xs ρ s1 := by
  show (evi cx it ρ s).bind _ = _
  rw [h]
  rfl
theorem forL_nil {tg : Tg} {b : Ss} : forL cx tg b [] ρ s = .ok (.nx ρ) s := rfl
theorem forL_nx {tg : Tg} {b : Ss} {d : PyData} {r : List PyData} {ρ1 ρ2 : Rho} (h : bindT tg d ρ = some ρ1) (h2 : exs cx b ρ1 s = .ok (.nx ρ2) s1) : forL cx tg b (d :: r) ρ s = forL cx tg b r ρ2 s1 := by
  show Mi.R.bind (match bindT tg d ρ with | some ρ => exs cx b ρ s | none => .err) _ = _
  rw [h]
  show (exs cx b ρ1 s).bind _ = _
  rw [h2]
  rfl
theorem forL_rt {tg : Tg} {b : Ss} {d : PyData} {r : List PyData} {ρ1 : Rho} {x : Xv} (h : bindT tg d ρ = some ρ1) (h2 : exs cx b ρ1 s = .ok (.rt x) s1) : forL cx tg b (d :: r) ρ s = .ok (.rt x) s1 := by
  show Mi.R.bind (match bindT tg d ρ with | some ρ => exs cx b ρ s | none => .err) _ = _
  rw [h]
  show (exs cx b ρ1 s).bind _ = _
  rw [h2]
  rfl
end
/-! ### calls -/
theorem back_rd {x : Xv} {d : PyData} {s' : Sto} (h : rd s' x = some d) : back false 0 x s' = .ok (.v d) [] := by
  unfold back
  rw [if_neg (by decide)]
  cases x with
  | v e => cases Option.some.inj h; rfl
  | c m => simp only [Nat.not_lt_zero, if_false, h]; rfl
  | w ns => cases h
/-- a def handed plain data hands back plain data -/
theorem call_ret {P : Prog} {k f : Nat} {fn : Fn} {as : List PyData} {d : PyData} {x : Xv} {s' : Sto} (hf : P.fn? f = some fn) (hk : fn.keep = false) (hl : as.length = fn.params)
    (h : exs (cxAt P k) fn.body (as.map (fun d => some (.v d)) ++ List.replicate (fn.slots - as.length) none) [] = .ok (.rt x) s') (hx : rd s' x = some d) (s : Sto) : callD P (k + 1) f (as.map .v) s = .ok (.v d) s := by
  have hv : ∀ l : List PyData, allV (l.map .v) = true := fun l => by
    induction l with
    | nil => rfl
    | cons a l ih => exact ih
  rw [callD, hf]
  show runAt _ fn _ s = _
  rw [runAt, hv, hk]
  show frame s (runFn (cxAt P k) fn (as.map .v) []) = _
  rw [runFn, if_pos (by rw [List.length_map]; exact hl), List.map_map, List.length_map]
  change frame s (match exs (cxAt P k) fn.body (as.map (fun d => some (.v d)) ++ List.replicate (fn.slots - as.length) none) [] with
    | .ok (.rt x) s' => back fn.keep ([] : Sto).length x s'
    | .ok (.nx _) s' => .ok (.v .none) (s'.take ([] : Sto).length)
    | .ok _ _ => .err
    | .exc c ds s' => .exc c ds (s'.take ([] : Sto).length)
    | .err => .err) = _
  rw [h]
  show frame s (back fn.keep 0 x s') = _
  rw [hk, back_rd hx]
  rfl
/-- .. lets an error out -/
theorem call_exc {P : Prog} {k f : Nat} {fn : Fn} {as : List PyData} {c : Str} {ds : List PyData} {s' : Sto} (hf : P.fn? f = some fn) (hk : fn.keep = false) (hl : as.length = fn.params)
    (h : exs (cxAt P k) fn.body (as.map (fun d => some (.v d)) ++ List.replicate (fn.slots - as.length) none) [] = .exc c ds s') (s : Sto) : callD P (k + 1) f (as.map .v) s = .exc c ds s := by
  have hv : ∀ l : List PyData, allV (l.map .v) = true := fun l => by
    induction l with
    | nil => rfl
    | cons a l ih => exact ih
  rw [callD, hf]
  show runAt _ fn _ s = _
  rw [runAt, hv, hk]
  show frame s (runFn (cxAt P k) fn (as.map .v) []) = _
  rw [runFn, if_pos (by rw [List.length_map]; exact hl), List.map_map, List.length_map]
  change frame s (match exs (cxAt P k) fn.body (as.map (fun d => some (.v d)) ++ List.replicate (fn.slots - as.length) none) [] with
    | .ok (.rt x) s' => back fn.keep ([] : Sto).length x s'
    | .ok (.nx _) s' => .ok (.v .none) (s'.take ([] : Sto).length)
    | .ok _ _ => .err
    | .exc c ds s' => .exc c ds (s'.take ([] : Sto).length)
    | .err => .err) = _
  rw [h]
  rfl
/-- a call by plain data does not look at the store -/
theorem call_at {P : Prog} {k f : Nat} {fn : Fn} {as : List PyData} {d : PyData} {s0 : Sto} (hf : P.fn? f = some fn) (hk : fn.keep = false) (h : callD P k f (as.map .v) s0 = .ok (.v d) s0) (s : Sto) : callD P k f (as.map .v) s = .ok (.v d) s := by
  have hv : ∀ l : List PyData, allV (l.map .v) = true := fun l => by
    induction l with
    | nil => rfl
    | cons a l ih => exact ih
  cases k with
  | zero => cases h
  | succ k =>
    rw [callD, hf] at h ⊢
    simp only [runAt, hv, hk] at h ⊢
    simp only [Bool.not_false, Bool.and_self, if_true] at h ⊢
    generalize runFn _ fn (as.map .v) [] = r at h ⊢
    cases r with
    | err => cases h
    | exc c ds s' => cases h
    | ok x s' =>
      cases x with
      | v e => cases h; rfl
      | c n => cases h
      | w ns => cases h
end Mi
end

section
/-! MiDat: plain data: shapes, equality, order. -/
namespace Mi
open PySem
/-- plain data of bounded depth -/
structure Sh (n : Nat) (d : PyData) : Prop where
  lay : d.canLay0 = true
  dep : d.depth ≤ n
theorem Sh.ok {n : Nat} {d : PyData} (h : Sh n d) (hn : n ≤ 64 := by decide) : okD d = true := by
  unfold okD SeqAt.shaped
  rw [h.lay, Bool.true_and]
  exact decide_eq_true (Nat.le_trans h.dep hn)
theorem sh_all {n : Nat} : ∀ {ds : List PyData}, (∀ d ∈ ds, Sh n d) → PyData.canLayAll0 ds = true ∧ PyData.depthAll ds ≤ n
  | [], _ => ⟨rfl, Nat.zero_le _⟩
  | d :: ds, h => by
    have h1 := h d (List.mem_cons_self ..)
    have h2 := sh_all (fun e he => h e (List.mem_cons_of_mem _ he))
    refine ⟨?_, ?_⟩
    · simp only [PyData.canLayAll0, h1.lay, h2.1, Bool.and_self]
    · simp only [PyData.depthAll]
      exact Nat.max_le.mpr ⟨h1.dep, h2.2⟩
theorem Sh.tup {n : Nat} {ds : List PyData} (h : ∀ d ∈ ds, Sh n d) : Sh (n + 1) (.tuple ds) := by
  obtain ⟨a, b⟩ := sh_all h
  refine ⟨by simpa only [PyData.canLay0] using a, ?_⟩
  simp only [PyData.depth]
  omega
theorem Sh.lst {n : Nat} {ds : List PyData} (h : ∀ d ∈ ds, Sh n d) : Sh (n + 1) (.list ds) := by
  obtain ⟨a, b⟩ := sh_all h
  refine ⟨by simpa only [PyData.canLay0] using a, ?_⟩
  simp only [PyData.depth]
  omega
theorem Sh.int (n : Nat) (i : Int) : Sh n (.int i) := ⟨by simp only [PyData.canLay0], by simp only [PyData.depth]; omega⟩
theorem Sh.bool (n : Nat) (i : Bool) : Sh n (.bool i) := ⟨by simp only [PyData.canLay0], by simp only [PyData.depth]; omega⟩
theorem Sh.none (n : Nat) : Sh n .none := ⟨by simp only [PyData.canLay0], by simp only [PyData.depth]; omega⟩
theorem Sh.str {n : Nat} {x : Str} (h : PyData.strOk x = true) : Sh n (.str x) := ⟨by simpa only [PyData.canLay0] using h, by simp only [PyData.depth]; omega⟩
theorem eqv_nil (xs : List PyData) : PyData.eqv (.list xs) (.list []) = xs.isEmpty := by
  cases xs <;> simp [PyData.eqv, PyData.eqvAll]
theorem eqvAll_map {α : Type} [DecidableEq α] {en : α → PyData} : ∀ (xs ys : List α), (∀ x ∈ xs, ∀ y ∈ ys, PyData.eqv (en x) (en y) = decide (x = y)) → PyData.eqvAll (xs.map en) (ys.map en) = decide (xs = ys)
  | [], [], _ => by simp [PyData.eqvAll]
  | [], _ :: _, _ => by simp [PyData.eqvAll]
  | _ :: _, [], _ => by simp [PyData.eqvAll]
  | x :: xs, y :: ys, h => by
    simp only [List.map_cons, PyData.eqvAll, List.cons.injEq]
    rw [h x (List.mem_cons_self ..) y (List.mem_cons_self ..), eqvAll_map xs ys (fun a ha b hb => h a (List.mem_cons_of_mem _ ha) b (List.mem_cons_of_mem _ hb))]
    by_cases h1 : x = y <;> by_cases h2 : xs = ys <;> simp [h1, h2]
/-- a name of one sign -/
def nm (c : Nat) : PyData := .str ⟨#[c]⟩
theorem nm_eqv (a b : Nat) : PyData.eqv (nm a) (nm b) = decide (a = b) := by
  simp only [nm, PyData.eqv]
  by_cases h : a = b
  · subst h; simp
  · have : ({ cps := #[a] } : Str) ≠ { cps := #[b] } := fun z => h (by injection z with z; injection z with z; injection z)
    simp [h, this]
theorem nm_sh {n c : Nat} (h : c < 1114112) : Sh n (nm c) := Sh.str (by simp [PyData.strOk]; exact h)
def Cs (q : List Nat) : Prop := ∀ c ∈ q, c < 1114112
theorem any_nm {c : Nat} {q : List Nat} : ((q.map nm).any fun z => PyData.eqv z (nm c)) = decide (c ∈ q) := by
  induction q with
  | nil => simp
  | cons a q ih =>
    rw [List.map_cons, List.any_cons, ih, nm_eqv]
    by_cases h : a = c
    · simp [h]
    · have : ¬ c = a := fun z => h z.symm
      simp [h, this]
theorem in_names {c : Nat} {q : List Nat} (hq : Cs q) (hc : c < 1114112) : inD (nm c) (.tuple (q.map nm)) = some (decide (c ∈ q)) ∧ inD (nm c) (.list (q.map nm)) = some (decide (c ∈ q)) := by
  have h : ∀ d ∈ q.map nm, Sh 1 d := fun d hd => by
    obtain ⟨a, ha, rfl⟩ := List.mem_map.mp hd
    exact nm_sh (hq a ha)
  unfold inD
  simp only
  rw [(nm_sh hc : Sh 1 _).ok, (Sh.tup h).ok, (Sh.lst h).ok, any_nm]
  exact ⟨rfl, rfl⟩
end Mi
end

section
/-! MiEn: Lean types as plain data: one kind of datum a type, its order, sorted lists without repetition. -/
namespace Mi
open PySem
mutual
theorem ak_eqv : ∀ (x y : PyData), PySem.W.alike x y = true → (PyData.eqv x y = true ↔ x = y)
  | .none, y, h => by cases y <;> simp_all [PySem.W.alike, PyData.eqv]
  | .bool a, y, h => by cases y <;> simp_all [PySem.W.alike, PyData.eqv]
  | .int a, y, h => by cases y <;> simp_all [PySem.W.alike, PyData.eqv]
  | .str a, y, h => by cases y <;> simp_all [PySem.W.alike, PyData.eqv]
  | .list xs, y, h => by
    cases y with
    | list ys =>
      have := ak_eqvAll xs ys (by simpa [PySem.W.alike] using h)
      simpa [PyData.eqv] using this
    | _ => simp [PySem.W.alike] at h
  | .tuple xs, y, h => by
    cases y with
    | tuple ys =>
      have := ak_eqvAll xs ys (by simpa [PySem.W.alike] using h)
      simpa [PyData.eqv] using this
    | _ => simp [PySem.W.alike] at h
  | .dict kvs, y, h => by cases y <;> simp [PySem.W.alike] at h
theorem ak_eqvAll : ∀ (xs ys : List PyData), PySem.W.alikeAll xs ys = true → (PyData.eqvAll xs ys = true ↔ xs = ys)
  | [], [], _ => by simp [PyData.eqvAll]
  | [], y :: ys, _ => by simp [PyData.eqvAll]
  | x :: xs, [], _ => by simp [PyData.eqvAll]
  | x :: xs, y :: ys, h => by
    obtain ⟨h1, h2⟩ := PySem.W.alike_all_cons h
    rw [PySem.W.eqv_all_cons, Bool.and_eq_true, ak_eqv x y h1, ak_eqvAll xs ys h2, List.cons.injEq]
end
/-- a Lean type as plain data -/
class En (α : Type) where
  en : α → PyData
  dep : Nat
  sh : ∀ x, Sh dep (en x)
  inj : ∀ x y, en x = en y → x = y
  ak : ∀ x y, PySem.W.alike (en x) (en y) = true
open En (en)
structure Nm where
  s : Str
  ok : PyData.strOk s = true
deriving DecidableEq
instance : En Nm where
  en x := .str x.s
  dep := 0
  sh x := Sh.str x.ok
  inj x y h := by cases x; cases y; injection h with h; subst h; rfl
  ak x y := by simp [PySem.W.alike]
instance : En Int where
  en x := .int x
  dep := 0
  sh x := Sh.int _ _
  inj x y h := by injection h
  ak x y := by simp [PySem.W.alike]
instance : En Bool where
  en x := .bool x
  dep := 0
  sh x := Sh.bool _ _
  inj x y h := by injection h
  ak x y := by simp [PySem.W.alike]
theorem Sh.mono {n m : Nat} {d : PyData} (h : Sh n d) (e : n ≤ m) : Sh m d := ⟨h.lay, Nat.le_trans h.dep e⟩
theorem ak_all_map {α : Type} [En α] : ∀ xs ys : List α, PySem.W.alikeAll (xs.map en) (ys.map en) = true
  | [], _ => by simp [PySem.W.alikeAll]
  | _ :: _, [] => by simp [PySem.W.alikeAll]
  | x :: xs, y :: ys => by simp [PySem.W.alikeAll, En.ak x y, ak_all_map xs ys]
theorem en_map_inj {α : Type} [En α] : ∀ xs ys : List α, xs.map en = ys.map en → xs = ys
  | [], [], _ => rfl
  | [], _ :: _, h => by simp at h
  | _ :: _, [], h => by simp at h
  | x :: xs, y :: ys, h => by
    simp only [List.map_cons, List.cons.injEq] at h
    rw [En.inj _ _ h.1, en_map_inj xs ys h.2]
instance {α : Type} [En α] : En (List α) where
  en xs := .tuple (xs.map en)
  dep := En.dep α + 1
  sh xs := Sh.tup fun d hd => by
    obtain ⟨x, _, rfl⟩ := List.mem_map.mp hd
    exact En.sh x
  inj xs ys h := by injection h with h; exact en_map_inj _ _ h
  ak xs ys := by simp only [PySem.W.alike]; exact ak_all_map xs ys
instance {α β : Type} [En α] [En β] : En (α × β) where
  en p := .tuple [en p.1, en p.2]
  dep := max (En.dep α) (En.dep β) + 1
  sh p := Sh.tup fun d hd => by
    rcases List.mem_cons.mp hd with rfl | hd
    · exact (En.sh p.1).mono (Nat.le_max_left ..)
    · rcases List.mem_cons.mp hd with rfl | hd
      · exact (En.sh p.2).mono (Nat.le_max_right ..)
      · cases hd
  inj p q h := by
    obtain ⟨a, b⟩ := p; obtain ⟨c, d⟩ := q
    simp only [PyData.tuple.injEq, List.cons.injEq, and_true] at h
    rw [En.inj _ _ h.1, En.inj _ _ h.2]
  ak p q := by simp [PySem.W.alike, PySem.W.alikeAll, En.ak]
section
variable {α : Type} [En α]
theorem En.eqv_iff (x y : α) : PyData.eqv (en x) (en y) = true ↔ x = y := by
  rw [ak_eqv _ _ (En.ak x y)]
  exact ⟨En.inj x y, fun h => by rw [h]⟩
theorem En.eqv [DecidableEq α] (x y : α) : PyData.eqv (en x) (en y) = decide (x = y) := by
  rw [Bool.eq_iff_iff, En.eqv_iff, decide_eq_true_iff]
theorem En.ok (x : α) (h : En.dep α ≤ 64 := by decide) : okD (en x) = true := (En.sh x).ok h
def lt (x y : α) : Bool := PySem.W.dataLt (en x) (en y)
theorem lt_irrefl (x : α) : lt x x = false := PyProof.Rows.lex_irrefl _
theorem lt_trans {x y z : α} (h1 : lt x y = true) (h2 : lt y z = true) : lt x z = true := PyProof.Rows.lex_trans _ _ _ h1 h2
theorem lt_tri {x y : α} (h1 : lt x y = false) (h2 : lt y x = false) : x = y := by
  have h := PyProof.Rows.lex_total _ _ h1 h2
  cases he : PyData.eqv (en x) (en y) with
  | true => exact (En.eqv_iff x y).mp he
  | false =>
    exfalso
    have h3 := (PySem.W.toks_eqv (en x) (en y) (En.ak x y)).2 he [] [.inl 0]
    have h4 := (PySem.W.toks_eqv (en x) (en y) (En.ak x y)).2 he [.inl 0] []
    rw [h] at h3 h4
    rw [PyProof.Rows.lex_irrefl, PySem.W.lex_pre] at h3
    exact absurd h3 (by decide)
theorem lt_asymm {x y : α} (h : lt x y = true) : lt y x = false := by
  cases h2 : lt y x with
  | false => rfl
  | true => have := lt_trans h h2; rw [lt_irrefl] at this; cases this
theorem lt_ne {x y : α} (h : lt x y = true) : x ≠ y := fun e => by rw [e, lt_irrefl] at h; cases h
/-! ### lists that ascend -/
def Asc (xs : List α) : Prop := xs.Pairwise fun a b => lt a b = true
theorem Asc.nodup {xs : List α} (h : Asc xs) : xs.Nodup := List.Pairwise.imp (fun h => lt_ne h) h
theorem asc_eq : ∀ {xs ys : List α}, Asc xs → Asc ys → (∀ x, x ∈ xs ↔ x ∈ ys) → xs = ys
  | [], [], _, _, _ => rfl
  | [], y :: ys, _, _, h => by have := (h y).mpr (List.mem_cons_self ..); cases this
  | x :: xs, [], _, _, h => by have := (h x).mp (List.mem_cons_self ..); cases this
  | x :: xs, y :: ys, hx, hy, h => by
    have hx' := List.pairwise_cons.mp hx
    have hy' := List.pairwise_cons.mp hy
    have e : x = y := by
      rcases List.mem_cons.mp ((h x).mp (List.mem_cons_self ..)) with e | e
      · exact e
      · rcases List.mem_cons.mp ((h y).mpr (List.mem_cons_self ..)) with e2 | e2
        · exact e2.symm
        · have a := hy'.1 x e
          have b := hx'.1 y e2
          rw [lt_asymm a] at b
          cases b
    subst e
    rw [asc_eq hx'.2 hy'.2]
    intro z
    constructor
    · intro hz
      rcases List.mem_cons.mp ((h z).mp (List.mem_cons_of_mem _ hz)) with e | e
      · have := hx'.1 z hz; rw [e, lt_irrefl] at this; cases this
      · exact e
    · intro hz
      rcases List.mem_cons.mp ((h z).mpr (List.mem_cons_of_mem _ hz)) with e | e
      · have := hy'.1 z hz; rw [e, lt_irrefl] at this; cases this
      · exact e
/-! ### sorting -/
def insT (d : α) : List α → List α
  | [] => [d]
  | e :: r => if lt e d then e :: insT d r else d :: e :: r
def isort : List α → List α
  | [] => []
  | d :: r => insT d (isort r)
theorem insT_map (d : α) : ∀ r : List α, insD (en d) (r.map en) = (insT d r).map en
  | [] => rfl
  | e :: r => by
    simp only [List.map_cons, insD, insT]
    show (if lt e d = true then _ else _) = _
    split
    · rw [List.map_cons, insT_map d r]
    · rfl
theorem isort_map : ∀ l : List α, sortD (l.map en) = (isort l).map en
  | [] => rfl
  | d :: r => by rw [List.map_cons, sortD, isort_map r, insT_map, isort]
theorem insT_perm (d : α) : ∀ r : List α, (insT d r).Perm (d :: r)
  | [] => List.Perm.refl _
  | e :: r => by
    unfold insT
    split
    · exact ((insT_perm d r).cons e).trans (List.Perm.swap d e r)
    · exact List.Perm.refl _
theorem isort_perm : ∀ l : List α, (isort l).Perm l
  | [] => List.Perm.refl _
  | d :: r => (insT_perm d _).trans ((isort_perm r).cons d)
theorem mem_isort {x : α} {l : List α} : x ∈ isort l ↔ x ∈ l := (isort_perm l).mem_iff
theorem isort_length (l : List α) : (isort l).length = l.length := (isort_perm l).length_eq
/-- none lies behind a greater one -/
def Srt (xs : List α) : Prop := xs.Pairwise fun a b => lt b a = false
theorem insT_srt (d : α) : ∀ r : List α, Srt r → Srt (insT d r)
  | [], _ => List.pairwise_singleton _ _
  | e :: r, h => by
    have h' := List.pairwise_cons.mp h
    unfold insT
    split
    · rename_i hc
      refine List.pairwise_cons.mpr ⟨fun x hx => ?_, insT_srt d r h'.2⟩
      rcases List.mem_cons.mp ((insT_perm d r).mem_iff.mp hx) with rfl | hx
      · exact lt_asymm hc
      · exact h'.1 x hx
    · rename_i hc
      have hc : lt e d = false := by simpa using hc
      refine List.pairwise_cons.mpr ⟨fun x hx => ?_, h⟩
      rcases List.mem_cons.mp hx with rfl | hx
      · exact hc
      · cases h3 : lt x d with
        | false => rfl
        | true =>
          have h4 := h'.1 x hx
          cases h5 : lt e x with
          | true => have := lt_trans h5 h3; rw [hc] at this; cases this
          | false => rw [lt_tri h5 h4] at hc; rw [hc] at h3; cases h3
theorem isort_srt : ∀ l : List α, Srt (isort l)
  | [] => List.Pairwise.nil
  | d :: r => insT_srt d _ (isort_srt r)
theorem srt_asc : ∀ {l : List α}, Srt l → l.Nodup → Asc l
  | [], _, _ => List.Pairwise.nil
  | x :: l, h, hn => by
    have h' := List.pairwise_cons.mp h
    have hn' := List.nodup_cons.mp hn
    refine List.pairwise_cons.mpr ⟨fun y hy => ?_, srt_asc h'.2 hn'.2⟩
    cases h1 : lt x y with
    | true => rfl
    | false => exact absurd (lt_tri h1 (h'.1 y hy) ▸ hy) hn'.1
theorem isort_asc {l : List α} (h : l.Nodup) : Asc (isort l) := srt_asc (isort_srt l) ((isort_perm l).nodup_iff.mpr h)
theorem isort_id {l : List α} (h : Asc l) : isort l = l := asc_eq (isort_asc h.nodup) h fun _ => mem_isort
/-! ### each once -/
variable [DecidableEq α]
def adjF (found : List α) (x : α) : List α := if found.getLast? = some x then found else found ++ [x]
def setOf (xs : List α) : List α := (isort xs).foldl adjF []
theorem adj_go : ∀ (l : List α) (found : List α), Asc found → (∀ a ∈ found, ∀ b ∈ l, lt b a = false) → Srt l → Asc (l.foldl adjF found) ∧ ∀ x, x ∈ l.foldl adjF found ↔ x ∈ found ∨ x ∈ l
  | [], found, h, _, _ => ⟨h, fun x => by simp⟩
  | y :: l, found, h, h2, h3 => by
    have h3' := List.pairwise_cons.mp h3
    rw [List.foldl_cons]
    have hf : adjF found y = if found.getLast? = some y then found else found ++ [y] := rfl
    rw [hf]
    split
    · rename_i hc
      have hm : y ∈ found := List.mem_of_getLast? hc
      obtain ⟨r1, r2⟩ := adj_go l found h (fun a ha b hb => h2 a ha b (List.mem_cons_of_mem _ hb)) h3'.2
      refine ⟨r1, fun x => ?_⟩
      rw [r2 x, List.mem_cons]
      constructor
      · rintro (h | h)
        · exact .inl h
        · exact .inr (.inr h)
      · rintro (h | rfl | h)
        · exact .inl h
        · exact .inl hm
        · exact .inr h
    · rename_i hc
      have hall : ∀ a ∈ found, lt a y = true := fun a ha => by
        cases h4 : lt a y with
        | true => rfl
        | false =>
          exfalso
          have e := lt_tri h4 (h2 a ha y (List.mem_cons_self ..))
          subst e
          refine hc ?_
          obtain ⟨r, z, rfl⟩ : ∃ r z, found = r ++ [z] := ⟨found.dropLast, found.getLast (List.ne_nil_of_mem ha), (List.dropLast_concat_getLast _).symm⟩
          rw [List.getLast?_concat]
          congr 1
          rcases List.mem_append.mp ha with ha | ha
          · have q := (List.pairwise_append.mp h).2.2 a ha z (List.mem_singleton.mpr rfl)
            rw [h2 z (List.mem_append_right _ (List.mem_singleton.mpr rfl)) a (List.mem_cons_self ..)] at q
            cases q
          · exact (List.mem_singleton.mp ha).symm
      have hA : Asc (found ++ [y]) := List.pairwise_append.mpr ⟨h, List.pairwise_singleton _ _, fun a ha b hb => by
        rw [List.mem_singleton] at hb
        subst hb
        exact hall a ha⟩
      obtain ⟨r1, r2⟩ := adj_go l (found ++ [y]) hA (fun a ha b hb => by
        rcases List.mem_append.mp ha with ha | ha
        · exact h2 a ha b (List.mem_cons_of_mem _ hb)
        · rw [List.mem_singleton] at ha
          subst ha
          exact h3'.1 b hb) h3'.2
      refine ⟨r1, fun x => ?_⟩
      rw [r2 x]
      simp only [List.mem_append, List.mem_cons, List.not_mem_nil, or_false, or_assoc]
theorem setOf_asc (xs : List α) : Asc (setOf xs) := (adj_go (isort xs) [] List.Pairwise.nil (fun _ h => by cases h) (isort_srt xs)).1
theorem mem_setOf {x : α} {xs : List α} : x ∈ setOf xs ↔ x ∈ xs := by
  rw [setOf, (adj_go (isort xs) [] List.Pairwise.nil (fun _ h => by cases h) (isort_srt xs)).2 x, mem_isort]
  simp
theorem setOf_eq {xs ys : List α} (h : ∀ x, x ∈ xs ↔ x ∈ ys) : setOf xs = setOf ys := asc_eq (setOf_asc _) (setOf_asc _) fun x => by rw [mem_setOf, mem_setOf]; exact h x
theorem setOf_id {xs : List α} (h : Asc xs) : setOf xs = xs := asc_eq (setOf_asc _) h fun _ => mem_setOf
theorem adj_len : ∀ (l found : List α), (l.foldl adjF found).length ≤ found.length + l.length := by
    intro l
    induction l with
    | nil => intro found; simp
    | cons y l ih =>
      intro found
      rw [List.foldl_cons, List.length_cons]
      refine Nat.le_trans (ih _) ?_
      unfold adjF
      split <;> simp <;> omega
theorem setOf_length (xs : List α) : (setOf xs).length ≤ xs.length := by
  have := adj_len (isort xs) []
  rw [isort_length] at this
  simpa [setOf] using this
end
end Mi
end

section
set_option maxRecDepth 100000
/-! MiSim: the evaluator as rewriting rules: one step a construct, what comes next a named continuation (so nothing is opened too early). -/
namespace Mi
open PySem
open En (en)
section
variable (cx : Mi.Ctx)
/-! ### continuations -/
def kBin (op : Operator) (b : E) (ρ : Rho) : Xv → Sto → R Xv := fun x s => (ev cx b ρ s).bind (binX op x)
def kCmp (op : CmpOp) (b : E) (ρ : Rho) : Xv → Sto → R Xv := fun x s => (ev cx b ρ s).bind (cmpX op x)
def kAnd (b : E) (ρ : Rho) : Xv → Sto → R Xv := fun x s => match x with
    | .v (.bool true) => ev cx b ρ s
    | .v (.bool false) => .ok (.v (.bool false)) s
    | _ => .err
def kOr (b : E) (ρ : Rho) : Xv → Sto → R Xv := fun x s => match x with
    | .v (.bool true) => .ok (.v (.bool true)) s
    | .v (.bool false) => ev cx b ρ s
    | _ => .err
def kIte (a b : E) (ρ : Rho) : Xv → Sto → R Xv := fun x s => match x with
    | .v (.bool true) => ev cx a ρ s
    | .v (.bool false) => ev cx b ρ s
    | _ => .err
def kOrL (b : E) (ρ : Rho) : Xv → Sto → R Xv := fun x s => match x with
    | .v (.list []) => ev cx b ρ s
    | .v (.list (d :: ds)) => .ok (.v (.list (d :: ds))) s
    | _ => .err
def kCh2 (op' : CmpOp) (c : E) (ρ : Rho) (y : Xv) : Xv → Sto → R Xv := fun k s => match k with
    | .v (.bool true) => (ev cx c ρ s).bind (cmpX op' y)
    | .v (.bool false) => .ok (.v (.bool false)) s
    | _ => .err
def kCh1 (op op' : CmpOp) (c : E) (ρ : Rho) (x : Xv) : Xv → Sto → R Xv := fun y s => (cmpX op x y s).bind (kCh2 cx op' c ρ y)
def kChain (op op' : CmpOp) (b c : E) (ρ : Rho) : Xv → Sto → R Xv := fun x s => (ev cx b ρ s).bind (kCh1 cx op op' c ρ x)
def kMeth (m : M) (es : Es) (ρ : Rho) : Xv → Sto → R Xv := fun x s => if isL x s then (evs cx es ρ s).bind (methX m x) else .err
def kIsi (ts : List String) : Xv → Sto → R Xv := fun x s => isiX x ts s
def kSub (b : E) (ρ : Rho) : Xv → Sto → R Xv := fun x s => (ev cx b ρ s).bind (subX x)
def optE (b : Bool) (e : E) (ρ : Rho) (s : Sto) : R (Option Int) := if b then (ev cx e ρ s).bind partX else .ok none s
def kSl2 (x : Xv) (l : Option Int) : Option Int → Sto → R Xv := fun h s => sliceX x l h s
def kSl1 (x : Xv) (bh : Bool) (hi : E) (ρ : Rho) : Option Int → Sto → R Xv := fun l s => (optE cx bh hi ρ s).bind (kSl2 x l)
def kSl (bl : Bool) (lo : E) (bh : Bool) (hi : E) (ρ : Rho) : Xv → Sto → R Xv := fun x s => (optE cx bl lo ρ s).bind (kSl1 cx x bh hi ρ)
def kPut (e : E) (ρ : Rho) : Bool → Sto → R (List PyData) := fun b s => if b then (ev cx e ρ s).bind putX else .ok [] s
def compB (e : E) (tg : Tg) (ifs : Es) (ρ0 : Rho) (d : PyData) (s : Sto) : R (List PyData) := match bindT tg d ρ0 with
      | some ρ1 => (evt cx ifs ρ1 s).bind (kPut cx e ρ1)
      | none => .err
def kComp (own : List Nat) (e : E) (tg : Tg) (ifs : Es) (ρ : Rho) : Src → Sto → R Xv := fun src s => (calm (walk (compB cx e tg ifs (wipeR ρ own)) src s)).bind madeL
def kIn (own1 : List Nat) (e : E) (tg1 : Tg) (it1 : It) (ifs1 : Es) (ρ1 : Rho) : Bool → Sto → R (List PyData) := fun b s => if b then (evi cx it1 ρ1 s).bind (walk (compB cx e tg1 ifs1 (wipeR ρ1 own1))) else .ok [] s
def comp2B (own1 : List Nat) (e : E) (tg : Tg) (ifs : Es) (tg1 : Tg) (it1 : It) (ifs1 : Es) (ρ0 : Rho) (d : PyData) (s : Sto) : R (List PyData) := match bindT tg d ρ0 with
      | some ρ1 => (evt cx ifs ρ1 s).bind (kIn cx own1 e tg1 it1 ifs1 ρ1)
      | none => .err
def kComp2 (own own1 : List Nat) (e : E) (tg : Tg) (ifs : Es) (tg1 : Tg) (it1 : It) (ifs1 : Es) (ρ : Rho) : Src → Sto → R Xv := fun src s => (calm (walk (comp2B cx own1 e tg ifs tg1 it1 ifs1 (wipeR ρ own)) src s)).bind madeL
def kEs1 (d : PyData) : List PyData → Sto → R (List PyData) := fun ds s => .ok (d :: ds) s
def kEs (es : Es) (ρ : Rho) : Xv → Sto → R (List PyData) := fun x s => match fz s x with
    | some (d, s) => (evs cx es ρ s).bind (kEs1 d)
    | none => .err
def kSt1 (xs : List PyData) : List PyData → Sto → R (List PyData) := fun ds s => .ok (xs ++ ds) s
def kSt (es : Es) (ρ : Rho) : Xv → Sto → R (List PyData) := fun x s => match (rd s x).bind seqOf with
    | some xs => (evs cx es ρ s).bind (kSt1 xs)
    | none => .err
def kEx1 (x : Xv) : List Xv → Sto → R (List Xv) := fun xs s => .ok (x :: xs) s
def kEx (es : Es) (ρ : Rho) : Xv → Sto → R (List Xv) := fun x s => (evx cx es ρ s).bind (kEx1 x)
def kEt (es : Es) (ρ : Rho) : Xv → Sto → R Bool := fun x s => match x with
    | .v (.bool true) => evt cx es ρ s
    | .v (.bool false) => .ok false s
    | _ => .err
def kSeq : Xv → Sto → R Src := fun x s => match x with
    | .v d => (R.of (items d) s).bind fun xs s => .ok (.stat xs) s
    | .c n => if (cellAt n s 0).isSome then .ok (.cell n) s else .err
    | .w _ => .err
def kR1 : Xv → Sto → R Src := fun x s => match x with
    | .v (.int j) => if j < 16777216 ∧ -16777216 < j then .ok (.stat (rangeL 0 j.toNat)) s else .err
    | _ => .err
def kR3 (x : Xv) : Xv → Sto → R Src := fun y s => match x, y with
    | .v (.int i), .v (.int j) => if j < 16777216 ∧ -16777216 < i ∧ -16777216 < j ∧ i < 16777216 then .ok (.stat (rangeL i (j - i).toNat)) s else .err
    | _, _ => .err
def kR2 (b : E) (ρ : Rho) : Xv → Sto → R Src := fun x s => (ev cx b ρ s).bind (kR3 x)
def kZip (b : E) (ρ : Rho) : Xv → Sto → R Src := fun x s => (ev cx b ρ s).bind (zipX x)
def kZipN (b : E) (ρ : Rho) : Xv → Sto → R Src := fun x s => (ev cx b ρ s).bind (zipNX x)
def kEnum : Xv → Sto → R Src := fun x s => match x with
    | .v (.list xs) => .ok (.stat (enumL 0 xs)) s
    | .c n => if (cellAt n s 0).isSome then .ok (.enum n) s else .err
    | _ => .err
def kTest (a b : Ss) (ρ : Rho) : Xv → Sto → R Fl := fun x s => match x with
    | .v (.bool true) => exs cx a ρ s
    | .v (.bool false) => exs cx b ρ s
    | _ => .err
def kDrop (ρ : Rho) : Xv → Sto → R Fl := fun _ s => .ok (.nx ρ) s
def kSet (t : Tg) (ρ : Rho) : Xv → Sto → R Fl := fun x s => (R.of (setX x t s ρ) s).bind fun ρ s => .ok (.nx ρ) s
def kNew (i : Nat) (ρ : Rho) : Xv → Sto → R Fl := fun x s => match newC x s with
    | some (y, s) => .ok (.nx (ρ.set i (some y))) s
    | none => .err
def kPar (ts : List (Nat × Bool)) (ρ : Rho) : List Xv → Sto → R Fl := fun xs s => .ok (.nx (setAll ts xs ρ)) s
def kSetI1 (n : Nat) (d : PyData) (ρ : Rho) : Xv → Sto → R Fl := fun y s => setIX n y d ρ s
def kSetI (i : Nat) (k : E) (ρ : Rho) : Xv → Sto → R Fl := fun x s => match fz s x, ρ[i]? with
    | some (d, s), some (some (.c n)) => (ev cx k ρ s).bind (kSetI1 n d ρ)
    | _, _ => .err
def kGet1a (x : Xv) : Xv → Sto → R Xv := fun y s => getX x y (.v .none) s
def kGet1 (k : E) (ρ : Rho) : Xv → Sto → R Xv := fun x s => if isK x s then (ev cx k ρ s).bind (kGet1a x) else .err
def kGet2b (x y : Xv) : Xv → Sto → R Xv := fun z s => getX x y z s
def kGet2a (x : Xv) (z : E) (ρ : Rho) : Xv → Sto → R Xv := fun y s => (ev cx z ρ s).bind (kGet2b x y)
def kGet2 (k z : E) (ρ : Rho) : Xv → Sto → R Xv := fun x s => if isK x s then (ev cx k ρ s).bind (kGet2a cx x z ρ) else .err
def kVals : Xv → Sto → R Src := fun x s => match x with
    | .v (.dict kvs) => if kindT kvs then .err else .ok (.stat (kvs.map (·.2))) s
    | _ => .err
def kItems : Xv → Sto → R Src := fun x s => match x with
    | .v (.dict kvs) => if kindT kvs then .err else .ok (.stat (kvs.map fun p => .tuple [p.1, p.2])) s
    | _ => .err
def kSetK1 (n : Nat) (d : PyData) (ρ : Rho) : Xv → Sto → R Fl := fun y s => setKX n y d ρ s
def kSetK (i : Nat) (k : E) (ρ : Rho) : Xv → Sto → R Fl := fun x s => match fz s x, ρ[i]? with
    | some (d, s), some (some (.c n)) => (ev cx k ρ s).bind (kSetK1 n d ρ)
    | _, _ => .err
def kRetD : Xv → Sto → R Fl := fun x s => retX x s
def kRet : Xv → Sto → R Fl := fun x s => .ok (.rt x) s
def kRetC : Xv → Sto → R Fl := fun x s => match newC x s with
    | some (y, s) => .ok (.rt y) s
    | none => .err
def bodyF (tg : Tg) (b : Ss) (d : PyData) (ρ : Rho) (s : Sto) : R Fl := match bindT tg d ρ with
      | some ρ => exs cx b ρ s
      | none => .err
def kFor (tg : Tg) (b : Ss) (ρ : Rho) : Src → Sto → R Fl := fun src s => forW (bodyF cx tg b) src ρ s
def kNext (r : Ss) : Fl → Sto → R Fl := fun fl s => match fl with
    | .nx ρ => exs cx r ρ s
    | f => .ok f s
def kP2 (y : Xv) : List Xv → Sto → R (List Xv) := fun ys s => .ok (y :: ys) s
def kP1 (n : Bool) (ts : List (Nat × Bool)) (es : Es) (ρ : Rho) : Xv → Sto → R (List Xv) := fun x s => if n then (match newC x s with
      | some (y, s) => (evp cx ts es ρ s).bind (kP2 y)
      | none => .err) else (evp cx ts es ρ s).bind (kP2 x)
end
section
variable {cx : Mi.Ctx} {ρ : Rho} {s : Sto}
/-! ### one step -/
@[simp] theorem e_var (i : Nat) : ev cx (.var i) ρ s = match ρ[i]? with
    | some (some x) => .ok x s
    | _ => .err := (rfl)
@[simp] theorem e_cst (d : PyData) : ev cx (.cst d) ρ s = .ok (.v d) s := (rfl)
@[simp] theorem e_glob (x : Nat) : ev cx (.glob x) ρ s = match cx.glob x with
    | some d => .ok (.v d) s
    | none => .err := (rfl)
@[simp] theorem e_bin (op : Operator) (a b : E) : ev cx (.bin op a b) ρ s = (ev cx a ρ s).bind (kBin cx op b ρ) := (rfl)
@[simp] theorem k_bin (op : Operator) (b : E) (x : Xv) : kBin cx op b ρ x s = (ev cx b ρ s).bind (binX op x) := (rfl)
@[simp] theorem e_neg (a : E) : ev cx (.neg a) ρ s = (ev cx a ρ s).bind negX := (rfl)
@[simp] theorem e_cmp (op : CmpOp) (a b : E) : ev cx (.cmp op a b) ρ s = (ev cx a ρ s).bind (kCmp cx op b ρ) := (rfl)
@[simp] theorem k_cmp (op : CmpOp) (b : E) (x : Xv) : kCmp cx op b ρ x s = (ev cx b ρ s).bind (cmpX op x) := (rfl)
@[simp] theorem e_chain (op op' : CmpOp) (a b c : E) : ev cx (.chain op op' a b c) ρ s = (ev cx a ρ s).bind (kChain cx op op' b c ρ) := (rfl)
@[simp] theorem k_chain (op op' : CmpOp) (b c : E) (x : Xv) : kChain cx op op' b c ρ x s = (ev cx b ρ s).bind (kCh1 cx op op' c ρ x) := (rfl)
@[simp] theorem k_ch1 (op op' : CmpOp) (c : E) (x y : Xv) : kCh1 cx op op' c ρ x y s = (cmpX op x y s).bind (kCh2 cx op' c ρ y) := (rfl)
@[simp] theorem k_ch2 (op' : CmpOp) (c : E) (y : Xv) (b : Bool) : kCh2 cx op' c ρ y (.v (.bool b)) s = if b = true then (ev cx c ρ s).bind (cmpX op' y) else .ok (.v (.bool false)) s := by cases b <;> rfl
@[simp] theorem e_and (a b : E) : ev cx (.and a b) ρ s = (ev cx a ρ s).bind (kAnd cx b ρ) := (rfl)
@[simp] theorem k_and (b : E) (c : Bool) : kAnd cx b ρ (.v (.bool c)) s = if c = true then ev cx b ρ s else .ok (.v (.bool false)) s := by cases c <;> rfl
@[simp] theorem k_or (b : E) (c : Bool) : kOr cx b ρ (.v (.bool c)) s = if c = true then .ok (.v (.bool true)) s else ev cx b ρ s := by cases c <;> rfl
@[simp] theorem k_ite (a b : E) (c : Bool) : kIte cx a b ρ (.v (.bool c)) s = if c = true then ev cx a ρ s else ev cx b ρ s := by cases c <;> rfl
@[simp] theorem k_test (a b : Ss) (c : Bool) : kTest cx a b ρ (.v (.bool c)) s = if c = true then exs cx a ρ s else exs cx b ρ s := by cases c <;> rfl
@[simp] theorem k_et (es : Es) (c : Bool) : kEt cx es ρ (.v (.bool c)) s = if c = true then evt cx es ρ s else .ok false s := by cases c <;> rfl
@[simp] theorem ite_bind {α β : Type} {c : Prop} [Decidable c] (x y : R α) (f : α → Sto → R β) : (if c then x else y).bind f = if c then x.bind f else y.bind f := by split <;> rfl
@[simp] theorem ite_ok {c : Prop} [Decidable c] (a b : Xv) (s : Sto) : (if c then R.ok a s else R.ok b s) = R.ok (if c then a else b) s := by split <;> rfl
@[simp] theorem ite_okB {c : Prop} [Decidable c] (a b : Bool) (s : Sto) : (if c then R.ok a s else R.ok b s) = R.ok (if c then a else b) s := by split <;> rfl
@[simp] theorem ite_v {c : Prop} [Decidable c] (a b : PyData) : (if c then Xv.v a else Xv.v b) = Xv.v (if c then a else b) := by split <;> rfl
@[simp] theorem ite_bl {c : Prop} [Decidable c] (a b : Bool) : (if c then PyData.bool a else PyData.bool b) = PyData.bool (if c then a else b) := by split <;> rfl
@[simp] theorem k_and_t (b : E) : kAnd cx b ρ (.v (.bool true)) s = ev cx b ρ s := (rfl)
@[simp] theorem k_and_f (b : E) : kAnd cx b ρ (.v (.bool false)) s = .ok (.v (.bool false)) s := (rfl)
@[simp] theorem e_or (a b : E) : ev cx (.or a b) ρ s = (ev cx a ρ s).bind (kOr cx b ρ) := (rfl)
@[simp] theorem k_or_t (b : E) : kOr cx b ρ (.v (.bool true)) s = .ok (.v (.bool true)) s := (rfl)
@[simp] theorem k_or_f (b : E) : kOr cx b ρ (.v (.bool false)) s = ev cx b ρ s := (rfl)
@[simp] theorem e_orL (a b : E) : ev cx (.orL a b) ρ s = (ev cx a ρ s).bind (kOrL cx b ρ) := (rfl)
@[simp] theorem e_not (a : E) : ev cx (.not a) ρ s = (ev cx a ρ s).bind notX := (rfl)
@[simp] theorem e_ite (c a b : E) : ev cx (.ite c a b) ρ s = (ev cx c ρ s).bind (kIte cx a b ρ) := (rfl)
@[simp] theorem k_ite_t (a b : E) : kIte cx a b ρ (.v (.bool true)) s = ev cx a ρ s := (rfl)
@[simp] theorem k_ite_f (a b : E) : kIte cx a b ρ (.v (.bool false)) s = ev cx b ρ s := (rfl)
@[simp] theorem e_tup (es : Es) : ev cx (.tup es) ρ s = (evs cx es ρ s).bind madeT := (rfl)
@[simp] theorem e_lst (es : Es) : ev cx (.lst es) ρ s = (evs cx es ρ s).bind madeL := (rfl)
@[simp] theorem e_call (f : Nat) (es : Es) : ev cx (.call f es) ρ s = (evx cx es ρ s).bind (cx.call f) := (rfl)
@[simp] theorem e_callK (f : Nat) (es : Es) (pm : List Nat) : ev cx (.callK f es pm) ρ s = (evx cx es ρ s).bind (callP cx.call f pm) := (rfl)
@[simp] theorem e_blt (f : B) (es : Es) : ev cx (.blt f es) ρ s = (evx cx es ρ s).bind (bltX f) := (rfl)
@[simp] theorem e_bltl (f : BL) (es : Es) : ev cx (.bltl f es) ρ s = (evx cx es ρ s).bind (bltlX f) := (rfl)
@[simp] theorem e_meth (m : M) (o : E) (es : Es) : ev cx (.meth m o es) ρ s = (ev cx o ρ s).bind (kMeth cx m es ρ) := (rfl)
@[simp] theorem k_meth (m : M) (es : Es) (x : Xv) : kMeth cx m es ρ x s = if isL x s then (evs cx es ρ s).bind (methX m x) else .err := (rfl)
@[simp] theorem e_isi (a : E) (ts : List String) : ev cx (.isi a ts) ρ s = (ev cx a ρ s).bind (kIsi ts) := (rfl)
@[simp] theorem k_isi (ts : List String) (d : PyData) : kIsi ts (.v d) s = .ok (.v (.bool (ts.any (isiD d)))) s := (rfl)
@[simp] theorem e_sub (a b : E) : ev cx (.sub a b) ρ s = (ev cx a ρ s).bind (kSub cx b ρ) := (rfl)
@[simp] theorem k_sub (b : E) (x : Xv) : kSub cx b ρ x s = (ev cx b ρ s).bind (subX x) := (rfl)
@[simp] theorem e_slice (a : E) (bl : Bool) (lo : E) (bh : Bool) (hi : E) : ev cx (.slice a bl lo bh hi) ρ s = (ev cx a ρ s).bind (kSl cx bl lo bh hi ρ) := (rfl)
@[simp] theorem k_sl (bl : Bool) (lo : E) (bh : Bool) (hi : E) (x : Xv) : kSl cx bl lo bh hi ρ x s = (optE cx bl lo ρ s).bind (kSl1 cx x bh hi ρ) := (rfl)
@[simp] theorem k_sl1 (x : Xv) (bh : Bool) (hi : E) (l : Option Int) : kSl1 cx x bh hi ρ l s = (optE cx bh hi ρ s).bind (kSl2 x l) := (rfl)
@[simp] theorem k_sl2 (x : Xv) (l h : Option Int) : kSl2 x l h s = sliceX x l h s := (rfl)
@[simp] theorem o_t (e : E) : optE cx true e ρ s = (ev cx e ρ s).bind partX := (rfl)
@[simp] theorem o_f (e : E) : optE cx false e ρ s = .ok none s := (rfl)
@[simp] theorem e_rev (a : E) : ev cx (.rev a) ρ s = (ev cx a ρ s).bind revX := (rfl)
@[simp] theorem e_setF (b : Bool) (a : E) : ev cx (.setF b a) ρ s = (ev cx a ρ s).bind (setFX b) := (rfl)
@[simp] theorem e_comp (own : List Nat) (e : E) (tg : Tg) (it : It) (ifs : Es) : ev cx (.comp own e tg it ifs) ρ s = (evi cx it ρ s).bind (kComp cx own e tg ifs ρ) := (rfl)
@[simp] theorem e_comp2 (own own1 : List Nat) (e : E) (tg : Tg) (it : It) (ifs : Es) (tg1 : Tg) (it1 : It) (ifs1 : Es) : ev cx (.comp2 own own1 e tg it ifs tg1 it1 ifs1) ρ s = (evi cx it ρ s).bind (kComp2 cx own own1 e tg ifs tg1 it1 ifs1 ρ) := (rfl)
@[simp] theorem k_put (e : E) (b : Bool) : kPut cx e ρ b s = if b then (ev cx e ρ s).bind putX else .ok [] s := (rfl)
@[simp] theorem s_nil : evs cx .nil ρ s = .ok [] s := (rfl)
@[simp] theorem s_cons (e : E) (es : Es) : evs cx (.cons e es) ρ s = (ev cx e ρ s).bind (kEs cx es ρ) := (rfl)
@[simp] theorem k_es_v (es : Es) (d : PyData) : kEs cx es ρ (.v d) s = (evs cx es ρ s).bind (kEs1 d) := (rfl)
@[simp] theorem k_es1 (d : PyData) (ds : List PyData) : kEs1 d ds s = .ok (d :: ds) s := (rfl)
@[simp] theorem s_star (e : E) (es : Es) : evs cx (.star e es) ρ s = (ev cx e ρ s).bind (kSt cx es ρ) := (rfl)
@[simp] theorem k_st_l (es : Es) (ds : List PyData) : kSt cx es ρ (.v (.list ds)) s = (evs cx es ρ s).bind (kSt1 ds) := (rfl)
@[simp] theorem k_st_t (es : Es) (ds : List PyData) : kSt cx es ρ (.v (.tuple ds)) s = (evs cx es ρ s).bind (kSt1 ds) := (rfl)
@[simp] theorem k_st1 (xs ds : List PyData) : kSt1 xs ds s = .ok (xs ++ ds) s := (rfl)
@[simp] theorem x_nil : evx cx .nil ρ s = .ok [] s := (rfl)
@[simp] theorem x_cons (e : E) (es : Es) : evx cx (.cons e es) ρ s = (ev cx e ρ s).bind (kEx cx es ρ) := (rfl)
@[simp] theorem k_ex (es : Es) (x : Xv) : kEx cx es ρ x s = (evx cx es ρ s).bind (kEx1 x) := (rfl)
@[simp] theorem k_ex1 (x : Xv) (xs : List Xv) : kEx1 x xs s = .ok (x :: xs) s := (rfl)
@[simp] theorem t_nil : evt cx .nil ρ s = .ok true s := (rfl)
@[simp] theorem t_cons (e : E) (es : Es) : evt cx (.cons e es) ρ s = (ev cx e ρ s).bind (kEt cx es ρ) := (rfl)
@[simp] theorem k_et_t (es : Es) : kEt cx es ρ (.v (.bool true)) s = evt cx es ρ s := (rfl)
@[simp] theorem k_et_f (es : Es) : kEt cx es ρ (.v (.bool false)) s = .ok false s := (rfl)
/-- one test: its answer -/
@[simp] theorem k_et_1 (b : Bool) : kEt cx .nil ρ (.v (.bool b)) s = .ok b s := by cases b <;> rfl
@[simp] theorem i_seq (e : E) : evi cx (.seq e) ρ s = (ev cx e ρ s).bind kSeq := (rfl)
@[simp] theorem k_seq_l (ds : List PyData) : kSeq (.v (.list ds)) s = .ok (.stat ds) s := (rfl)
@[simp] theorem k_seq_t (ds : List PyData) : kSeq (.v (.tuple ds)) s = .ok (.stat ds) s := (rfl)
@[simp] theorem k_seq_s (x : Str) : kSeq (.v (.str x)) s = .ok (.stat (chars x)) s := (rfl)
@[simp] theorem i_r1 (a : E) : evi cx (.range1 a) ρ s = (ev cx a ρ s).bind kR1 := (rfl)
@[simp] theorem i_r2 (a b : E) : evi cx (.range2 a b) ρ s = (ev cx a ρ s).bind (kR2 cx b ρ) := (rfl)
@[simp] theorem k_r2 (b : E) (x : Xv) : kR2 cx b ρ x s = (ev cx b ρ s).bind (kR3 x) := (rfl)
@[simp] theorem i_zip (a b : E) : evi cx (.zip a b) ρ s = (ev cx a ρ s).bind (kZip cx b ρ) := (rfl)
@[simp] theorem k_zip (b : E) (x : Xv) : kZip cx b ρ x s = (ev cx b ρ s).bind (zipX x) := (rfl)
@[simp] theorem i_zipN (a b : E) : evi cx (.zipN a b) ρ s = (ev cx a ρ s).bind (kZipN cx b ρ) := (rfl)
@[simp] theorem k_zipN (b : E) (x : Xv) : kZipN cx b ρ x s = (ev cx b ρ s).bind (zipNX x) := (rfl)
@[simp] theorem i_enum (a : E) : evi cx (.enum a) ρ s = (ev cx a ρ s).bind kEnum := (rfl)
@[simp] theorem k_enum_l (ds : List PyData) : kEnum (.v (.list ds)) s = .ok (.stat (enumL 0 ds)) s := (rfl)
@[simp] theorem p_ex (e : E) : ex cx (.ex e) ρ s = (ev cx e ρ s).bind (kDrop ρ) := (rfl)
@[simp] theorem k_drop (x : Xv) : kDrop ρ x s = .ok (.nx ρ) s := (rfl)
@[simp] theorem p_set (t : Tg) (e : E) : ex cx (.set t e) ρ s = (ev cx e ρ s).bind (kSet t ρ) := (rfl)
@[simp] theorem k_set1 (i : Nat) (x : Xv) : kSet (.one i) ρ x s = .ok (.nx (ρ.set i (some x))) s := (rfl)
@[simp] theorem p_new (i : Nat) (e : E) : ex cx (.new i e) ρ s = (ev cx e ρ s).bind (kNew i ρ) := (rfl)
@[simp] theorem k_new (i : Nat) (ds : List PyData) : kNew i ρ (.v (.list ds)) s = .ok (.nx (ρ.set i (some (.c s.length)))) (s ++ [.lst ds]) := (rfl)
@[simp] theorem p_par (ts : List (Nat × Bool)) (es : Es) : ex cx (.par ts es) ρ s = (evp cx ts es ρ s).bind (kPar ts ρ) := (rfl)
@[simp] theorem k_par (ts : List (Nat × Bool)) (xs : List Xv) : kPar ts ρ xs s = .ok (.nx (setAll ts xs ρ)) s := (rfl)
@[simp] theorem p_setI (i : Nat) (k e : E) : ex cx (.setI i k e) ρ s = (ev cx e ρ s).bind (kSetI cx i k ρ) := (rfl)
@[simp] theorem k_setI (i : Nat) (k : E) (d : PyData) : kSetI cx i k ρ (.v d) s = match ρ[i]? with
    | some (some (.c n)) => (ev cx k ρ s).bind (kSetI1 n d ρ)
    | _ => .err := by
  simp only [kSetI, fz]
  split <;> rename_i h
  · rename_i h2
    cases Option.some.inj h2
    rw [h]
  · split
    · rename_i n h2
      exact absurd h2 (h _ _ _ rfl)
    · rfl
@[simp] theorem k_setI1 (n : Nat) (d : PyData) (y : Xv) : kSetI1 n d ρ y s = setIX n y d ρ s := (rfl)
@[simp] theorem e_get1 (d k : E) : ev cx (.get1 d k) ρ s = (ev cx d ρ s).bind (kGet1 cx k ρ) := (rfl)
@[simp] theorem k_get1 (k : E) (x : Xv) : kGet1 cx k ρ x s = if isK x s then (ev cx k ρ s).bind (kGet1a x) else .err := (rfl)
@[simp] theorem k_get1a (x y : Xv) : kGet1a x y s = getX x y (.v .none) s := (rfl)
@[simp] theorem e_get2 (d k z : E) : ev cx (.get2 d k z) ρ s = (ev cx d ρ s).bind (kGet2 cx k z ρ) := (rfl)
@[simp] theorem k_get2 (k z : E) (x : Xv) : kGet2 cx k z ρ x s = if isK x s then (ev cx k ρ s).bind (kGet2a cx x z ρ) else .err := (rfl)
@[simp] theorem k_get2a (x y : Xv) (z : E) : kGet2a cx x z ρ y s = (ev cx z ρ s).bind (kGet2b x y) := (rfl)
@[simp] theorem k_get2b (x y z : Xv) : kGet2b x y z s = getX x y z s := (rfl)
@[simp] theorem isK_v (kvs : List (PyData × PyData)) : isK (.v (.dict kvs)) s = true := (rfl)
@[simp] theorem e_valsL (d : E) : ev cx (.valsL d) ρ s = (ev cx d ρ s).bind valsX := (rfl)
@[simp] theorem i_vals (d : E) : evi cx (.vals d) ρ s = (ev cx d ρ s).bind kVals := (rfl)
@[simp] theorem i_items (d : E) : evi cx (.items d) ρ s = (ev cx d ρ s).bind kItems := (rfl)
@[simp] theorem p_newD (i : Nat) (t : Bool) : ex cx (.newD i t) ρ s = .ok (.nx (ρ.set i (some (.c s.length)))) (s ++ [.dic t []]) := (rfl)
@[simp] theorem p_setK (i : Nat) (k e : E) : ex cx (.setK i k e) ρ s = (ev cx e ρ s).bind (kSetK cx i k ρ) := (rfl)
@[simp] theorem k_setK (i : Nat) (k : E) (d : PyData) : kSetK cx i k ρ (.v d) s = match ρ[i]? with
    | some (some (.c n)) => (ev cx k ρ s).bind (kSetK1 n d ρ)
    | _ => .err := by
  simp only [kSetK, fz]
  split <;> rename_i h
  · rename_i h2
    cases Option.some.inj h2
    rw [h]
  · split
    · rename_i n h2
      exact absurd h2 (h _ _ _ rfl)
    · rfl
@[simp] theorem k_setK1 (n : Nat) (d : PyData) (y : Xv) : kSetK1 n d ρ y s = setKX n y d ρ s := (rfl)
@[simp] theorem p_retD (e : E) : ex cx (.retD e) ρ s = (ev cx e ρ s).bind kRetD := (rfl)
@[simp] theorem k_retD (x : Xv) : kRetD x s = retX x s := (rfl)
@[simp] theorem p_ret (e : E) : ex cx (.ret e) ρ s = (ev cx e ρ s).bind kRet := (rfl)
@[simp] theorem k_ret (x : Xv) : kRet x s = .ok (.rt x) s := (rfl)
@[simp] theorem p_retN : ex cx .retN ρ s = .ok (.rt (.v .none)) s := (rfl)
@[simp] theorem p_retC (e : E) : ex cx (.retC e) ρ s = (ev cx e ρ s).bind kRetC := (rfl)
@[simp] theorem k_retC (ds : List PyData) : kRetC (.v (.list ds)) s = .ok (.rt (.c s.length)) (s ++ [.lst ds]) := (rfl)
@[simp] theorem p_ite (c : E) (a b : Ss) : ex cx (.ite c a b) ρ s = (ev cx c ρ s).bind (kTest cx a b ρ) := (rfl)
@[simp] theorem k_test_t (a b : Ss) : kTest cx a b ρ (.v (.bool true)) s = exs cx a ρ s := (rfl)
@[simp] theorem k_test_f (a b : Ss) : kTest cx a b ρ (.v (.bool false)) s = exs cx b ρ s := (rfl)
@[simp] theorem p_for (tg : Tg) (it : It) (b : Ss) : ex cx (.for_ tg it b) ρ s = (evi cx it ρ s).bind (kFor cx tg b ρ) := (rfl)
@[simp] theorem k_for (tg : Tg) (b : Ss) (ds : List PyData) : kFor cx tg b ρ (.stat ds) s = forS (bodyF cx tg b) ds ρ s := (rfl)
def kRaise (c : Str) (ds : List PyData) (s : Sto) : R Fl := .exc c ds s
@[simp] theorem p_raise (c : Str) (es : Es) : ex cx (.raise c es) ρ s = (evs cx es ρ s).bind (kRaise c) := (rfl)
@[simp] theorem k_raise (c : Str) (ds : List PyData) : kRaise c ds s = .exc c ds s := (rfl)
@[simp] theorem p_try (b : Ss) (hs : List Hd) : ex cx (.try_ b hs) ρ s = kTry hs ρ (exs cx b ρ s) := (rfl)
@[simp] theorem try_ok (hs : List Hd) (f : Fl) : kTry hs ρ (.ok f s) = .ok f s := (rfl)
/-- the clause that takes the error -/
theorem try_hit {hs : List Hd} {c : Str} {ds vs : List PyData} {h : Hd} (h1 : hdOf c hs = some h) (h2 : hdVs ds h.its = some vs) : kTry hs ρ (.exc c ds s) = .ok (.nx ((ρ.set h.tgt (some (.v (.list vs)))).set h.err none)) s := by
  simp only [kTry, h1, h2]
@[simp] theorem p_pass : ex cx .pass ρ s = .ok (.nx ρ) s := (rfl)
@[simp] theorem p_brk : ex cx .brk ρ s = .ok (.bk ρ) s := (rfl)
@[simp] theorem p_cont : ex cx .cont ρ s = .ok (.ct ρ) s := (rfl)
@[simp] theorem q_nil : exs cx .nil ρ s = .ok (.nx ρ) s := (rfl)
@[simp] theorem q_cons (a : S) (r : Ss) : exs cx (.cons a r) ρ s = (ex cx a ρ s).bind (kNext cx r) := (rfl)
@[simp] theorem k_nx (r : Ss) : kNext cx r (.nx ρ) s = exs cx r ρ s := (rfl)
@[simp] theorem k_rt (r : Ss) (x : Xv) : kNext cx r (.rt x) s = .ok (.rt x) s := (rfl)
@[simp] theorem k_bk (r : Ss) : kNext cx r (.bk ρ) s = .ok (.bk ρ) s := (rfl)
@[simp] theorem k_ct (r : Ss) : kNext cx r (.ct ρ) s = .ok (.ct ρ) s := (rfl)
@[simp] theorem f_one (i : Nat) (b : Ss) (d : PyData) : bodyF cx (.one i) b d ρ s = exs cx b (ρ.set i (some (.v d))) s := (rfl)
theorem f_bind {tg : Tg} {b : Ss} {d : PyData} {ρ1 : Rho} (h : bindT tg d ρ = some ρ1) : bodyF cx tg b d ρ s = exs cx b ρ1 s := by rw [bodyF, h]
@[simp] theorem c_one (e : E) (i : Nat) (ifs : Es) (d : PyData) : compB cx e (.one i) ifs ρ d s = (evt cx ifs (ρ.set i (some (.v d))) s).bind (kPut cx e (ρ.set i (some (.v d)))) := (rfl)
theorem c_bind {e : E} {tg : Tg} {ifs : Es} {d : PyData} {ρ1 : Rho} (h : bindT tg d ρ = some ρ1) : compB cx e tg ifs ρ d s = (evt cx ifs ρ1 s).bind (kPut cx e ρ1) := by rw [compB, h]
@[simp] theorem c2_one (own1 : List Nat) (e : E) (i : Nat) (ifs : Es) (tg1 : Tg) (it1 : It) (ifs1 : Es) (d : PyData) : comp2B cx own1 e (.one i) ifs tg1 it1 ifs1 ρ d s = (evt cx ifs (ρ.set i (some (.v d))) s).bind (kIn cx own1 e tg1 it1 ifs1 (ρ.set i (some (.v d)))) := (rfl)
theorem c2_bind {own1 : List Nat} {e : E} {tg : Tg} {ifs : Es} {tg1 : Tg} {it1 : It} {ifs1 : Es} {d : PyData} {ρ1 : Rho} (h : bindT tg d ρ = some ρ1) : comp2B cx own1 e tg ifs tg1 it1 ifs1 ρ d s = (evt cx ifs ρ1 s).bind (kIn cx own1 e tg1 it1 ifs1 ρ1) := by rw [comp2B, h]
@[simp] theorem k_in (own1 : List Nat) (e : E) (tg1 : Tg) (it1 : It) (ifs1 : Es) (b : Bool) : kIn cx own1 e tg1 it1 ifs1 ρ b s = if b then (evi cx it1 ρ s).bind (walk (compB cx e tg1 ifs1 (wipeR ρ own1))) else .ok [] s := (rfl)
@[simp] theorem w_stat (f : PyData → Sto → R (List PyData)) (ds : List PyData) : walk f (.stat ds) s = turns f ds s := (rfl)
@[simp] theorem k_comp (own : List Nat) (e : E) (tg : Tg) (ifs : Es) (ds : List PyData) : kComp cx own e tg ifs ρ (.stat ds) s = (calm (turns (compB cx e tg ifs (wipeR ρ own)) ds s)).bind madeL := (rfl)
@[simp] theorem k_comp2 (own own1 : List Nat) (e : E) (tg : Tg) (ifs : Es) (tg1 : Tg) (it1 : It) (ifs1 : Es) (ds : List PyData) : kComp2 cx own own1 e tg ifs tg1 it1 ifs1 ρ (.stat ds) s = (calm (turns (comp2B cx own1 e tg ifs tg1 it1 ifs1 (wipeR ρ own)) ds s)).bind madeL := (rfl)
@[simp] theorem calm_ok' {α : Type} (a : α) : calm (R.ok a s) = .ok a s := (rfl)
@[simp] theorem wipe_nil : wipeR ρ [] = ρ := (rfl)
@[simp] theorem wipe_cons (i : Nat) (is : List Nat) : wipeR ρ (i :: is) = (wipeR ρ is).set i none := (rfl)
@[simp] theorem put_v (d : PyData) : putX (.v d) s = .ok [d] s := (rfl)
@[simp] theorem b_one (i : Nat) (d : PyData) : bindT (.one i) d ρ = some (ρ.set i (some (.v d))) := (rfl)
@[simp] theorem b_two (i j : Nat) (a b : PyData) : bindT (.tup [i, j]) (.tuple [a, b]) ρ = some ((ρ.set i (some (.v a))).set j (some (.v b))) := (rfl)
@[simp] theorem pp_nil : evp cx [] .nil ρ s = .ok [] s := (rfl)
@[simp] theorem pp_cons (i : Nat) (n : Bool) (ts : List (Nat × Bool)) (e : E) (es : Es) : evp cx ((i, n) :: ts) (.cons e es) ρ s = (ev cx e ρ s).bind (kP1 cx n ts es ρ) := (rfl)
@[simp] theorem k_p1f (ts : List (Nat × Bool)) (es : Es) (x : Xv) : kP1 cx false ts es ρ x s = (evp cx ts es ρ s).bind (kP2 x) := (rfl)
@[simp] theorem k_p1t (ts : List (Nat × Bool)) (es : Es) (ds : List PyData) : kP1 cx true ts es ρ (.v (.list ds)) s = (evp cx ts es ρ (s ++ [.lst ds])).bind (kP2 (.c s.length)) := (rfl)
@[simp] theorem k_p2 (x : Xv) (xs : List Xv) : kP2 x xs s = .ok (x :: xs) s := (rfl)
@[simp] theorem sa_nil (xs : List Xv) : setAll [] xs ρ = ρ := (rfl)
@[simp] theorem sa_cons (t : Nat × Bool) (ts : List (Nat × Bool)) (x : Xv) (xs : List Xv) : setAll (t :: ts) (x :: xs) ρ = setAll ts xs (ρ.set t.1 (some x)) := (rfl)
/-! ### values -/
@[simp] theorem a_add (i j : Int) : binX .Add (.v (.int i)) (.v (.int j)) s = .ok (.v (.int (i + j))) s := (rfl)
@[simp] theorem a_sub (i j : Int) : binX .Sub (.v (.int i)) (.v (.int j)) s = .ok (.v (.int (i - j))) s := (rfl)
theorem a_mul (i j : Int) (h : mulOk i j = true) : binX .Mult (.v (.int i)) (.v (.int j)) s = .ok (.v (.int (i * j))) s := by simp [binX, rd, binL, binD, h]
theorem a_mod (i j : Int) (h : 0 < j) : binX .Mod (.v (.int i)) (.v (.int j)) s = .ok (.v (.int (i % j))) s := by simp [binX, rd, binL, binD, h]
theorem a_fdiv (i j : Int) (h : 0 < j) (h2 : j < 1073741824) : binX .FloorDiv (.v (.int i)) (.v (.int j)) s = .ok (.v (.int (i / j))) s := by simp [binX, rd, binL, binD, h, h2]
theorem op_addL (xs ys : List PyData) (h : xs.length + ys.length ≤ 16777216) : binX .Add (.v (.list xs)) (.v (.list ys)) s = .ok (.v (.list (xs ++ ys))) s := by simp [binX, rd, binL, szOk, h]
theorem op_addT (xs ys : List PyData) (h : xs.length + ys.length ≤ 16777216) : binX .Add (.v (.tuple xs)) (.v (.tuple ys)) s = .ok (.v (.tuple (xs ++ ys))) s := by simp [binX, rd, binL, binD, szOk, h]
@[simp] theorem neg_i (i : Int) : negX (.v (.int i)) s = .ok (.v (.int (-i))) s := (rfl)
@[simp] theorem not_b (b : Bool) : notX (.v (.bool b)) s = .ok (.v (.bool (!b))) s := (rfl)
@[simp] theorem len_l (xs : List PyData) : bltX .len [.v (.list xs)] s = .ok (.v (.int xs.length)) s := (rfl)
@[simp] theorem len_t (xs : List PyData) : bltX .len [.v (.tuple xs)] s = .ok (.v (.int xs.length)) s := (rfl)
@[simp] theorem tup_l (xs : List PyData) : bltX .tup [.v (.list xs)] s = .ok (.v (.tuple xs)) s := (rfl)
@[simp] theorem tup_t (xs : List PyData) : bltX .tup [.v (.tuple xs)] s = .ok (.v (.tuple xs)) s := (rfl)
@[simp] theorem list_l (xs : List PyData) : bltlX .list [.v (.list xs)] s = .ok (.v (.list xs)) s := (rfl)
@[simp] theorem list_t (xs : List PyData) : bltlX .list [.v (.tuple xs)] s = .ok (.v (.list xs)) s := (rfl)
@[simp] theorem int_i (i : Int) : bltX .int [.v (.int i)] s = .ok (.v (.int i)) s := (rfl)
@[simp] theorem int_b (b : Bool) : bltX .int [.v (.bool b)] s = .ok (.v (.int (if b then 1 else 0))) s := (rfl)
@[simp] theorem abs_i (i : Int) : bltX .abs [.v (.int i)] s = .ok (.v (.int (if i < 0 then -i else i))) s := (rfl)
theorem sorted_l {α : Type} [En α] {xs : List α} (h : sortOk (xs.map en) = true) : bltlX .sorted [.v (.list (xs.map en))] s = .ok (.v (.list ((isort xs).map en))) s := by
  simp [bltlX, rdAll, rd, bltL, h, isort_map]
theorem sorted_t {α : Type} [En α] {xs : List α} (h : sortOk (xs.map en) = true) : bltlX .sorted [.v (.tuple (xs.map en))] s = .ok (.v (.list ((isort xs).map en))) s := by
  simp [bltlX, rdAll, rd, bltL, h, isort_map]
@[simp] theorem allB_map {α : Type} (p : α → Bool) : ∀ xs : List α, allB (xs.map fun x => .bool (p x)) = some (xs.all p)
  | [] => rfl
  | x :: xs => by simp [allB, allB_map p xs]
@[simp] theorem anyB_map {α : Type} (p : α → Bool) : ∀ xs : List α, anyB (xs.map fun x => .bool (p x)) = some (xs.any p)
  | [] => rfl
  | x :: xs => by simp [anyB, anyB_map p xs]
@[simp] theorem all_l (xs : List PyData) : bltX .all [.v (.list xs)] s = match (allB xs).map PyData.bool with
    | some d => .ok (.v d) s
    | none => .err := (rfl)
@[simp] theorem any_l (xs : List PyData) : bltX .any [.v (.list xs)] s = match (anyB xs).map PyData.bool with
    | some d => .ok (.v d) s
    | none => .err := (rfl)
/-! comparisons -/
@[simp] theorem lt_i (i j : Int) : cmpX .Lt (.v (.int i)) (.v (.int j)) s = .ok (.v (.bool (decide (i < j)))) s := (rfl)
@[simp] theorem gt_i (i j : Int) : cmpX .Gt (.v (.int i)) (.v (.int j)) s = .ok (.v (.bool (decide (j < i)))) s := (rfl)
@[simp] theorem le_i (i j : Int) : cmpX .LtE (.v (.int i)) (.v (.int j)) s = .ok (.v (.bool (decide (i ≤ j)))) s := (rfl)
@[simp] theorem ge_i (i j : Int) : cmpX .GtE (.v (.int i)) (.v (.int j)) s = .ok (.v (.bool (decide (j ≤ i)))) s := (rfl)
theorem eq_v {a b : PyData} (ha : okD a = true) (hb : okD b = true) : cmpX .Eq (.v a) (.v b) s = .ok (.v (.bool (PyData.eqv a b))) s := by simp [cmpX, rd, cmpD, ha, hb]
theorem ne_v {a b : PyData} (ha : okD a = true) (hb : okD b = true) : cmpX .NotEq (.v a) (.v b) s = .ok (.v (.bool (!PyData.eqv a b))) s := by simp [cmpX, rd, cmpD, ha, hb]
@[simp] theorem eq_i (i j : Int) : cmpX .Eq (.v (.int i)) (.v (.int j)) s = .ok (.v (.bool (decide (i = j)))) s := by
  rw [eq_v rfl rfl]
  simp [PyData.eqv]; rfl
@[simp] theorem ne_i (i j : Int) : cmpX .NotEq (.v (.int i)) (.v (.int j)) s = .ok (.v (.bool (!decide (i = j)))) s := by
  rw [ne_v rfl rfl]
  simp [PyData.eqv]; rfl
@[simp] theorem eq_b (i j : Bool) : cmpX .Eq (.v (.bool i)) (.v (.bool j)) s = .ok (.v (.bool (i == j))) s := by
  rw [eq_v rfl rfl]
  simp [PyData.eqv]
@[simp] theorem ne_b (i j : Bool) : cmpX .NotEq (.v (.bool i)) (.v (.bool j)) s = .ok (.v (.bool (!(i == j)))) s := by
  rw [ne_v rfl rfl]
  simp [PyData.eqv]
@[simp] theorem is_n (d : PyData) : cmpX .Is (.v d) (.v .none) s = .ok (.v (.bool (match d with | .none => true | _ => false))) s := (rfl)
section
variable {α : Type} [En α] [DecidableEq α]
theorem eq_en (x y : α) (h : En.dep α ≤ 64 := by decide) : cmpX .Eq (.v (en x)) (.v (en y)) s = .ok (.v (.bool (decide (x = y)))) s := by rw [eq_v (En.ok x h) (En.ok y h), En.eqv]
theorem ne_en (x y : α) (h : En.dep α ≤ 64 := by decide) : cmpX .NotEq (.v (en x)) (.v (en y)) s = .ok (.v (.bool (!decide (x = y)))) s := by rw [ne_v (En.ok x h) (En.ok y h), En.eqv]
theorem any_en (x : α) (ys : List α) : ((ys.map en).any fun z => PyData.eqv z (en x)) = decide (x ∈ ys) := by
  rw [Bool.eq_iff_iff, decide_eq_true_iff, List.any_eq_true]
  constructor
  · rintro ⟨d, hd, e⟩
    obtain ⟨y, hy, rfl⟩ := List.mem_map.mp hd
    rw [En.eqv_iff] at e
    exact e ▸ hy
  · intro h
    exact ⟨en x, List.mem_map.mpr ⟨x, h, rfl⟩, (En.eqv_iff x x).mpr rfl⟩
theorem okL (ys : List α) (h : En.dep α ≤ 63) : okD (.list (ys.map en)) = true := Sh.ok (n := En.dep α + 1) (Sh.lst fun d hd => by
    obtain ⟨x, _, rfl⟩ := List.mem_map.mp hd
    exact En.sh x) (by omega)
theorem okT (ys : List α) (h : En.dep α ≤ 63) : okD (.tuple (ys.map en)) = true := Sh.ok (n := En.dep α + 1) (Sh.tup fun d hd => by
    obtain ⟨x, _, rfl⟩ := List.mem_map.mp hd
    exact En.sh x) (by omega)
theorem in_l (x : α) (ys : List α) (h : En.dep α ≤ 63 := by decide) : cmpX .In (.v (en x)) (.v (.list (ys.map en))) s = .ok (.v (.bool (decide (x ∈ ys)))) s := by
  simp [cmpX, rd, cmpD, inD, En.ok x (Nat.le_succ_of_le h), okL ys h]
  rw [← List.any_map, any_en]
theorem in_t (x : α) (ys : List α) (h : En.dep α ≤ 63 := by decide) : cmpX .In (.v (en x)) (.v (.tuple (ys.map en))) s = .ok (.v (.bool (decide (x ∈ ys)))) s := by
  simp [cmpX, rd, cmpD, inD, En.ok x (Nat.le_succ_of_le h), okT ys h]
  rw [← List.any_map, any_en]
theorem nin_l (x : α) (ys : List α) (h : En.dep α ≤ 63 := by decide) : cmpX .NotIn (.v (en x)) (.v (.list (ys.map en))) s = .ok (.v (.bool (!decide (x ∈ ys)))) s := by
  simp [cmpX, rd, cmpD, inD, En.ok x (Nat.le_succ_of_le h), okL ys h]
  rw [← List.any_map, any_en]
theorem nin_t (x : α) (ys : List α) (h : En.dep α ≤ 63 := by decide) : cmpX .NotIn (.v (en x)) (.v (.tuple (ys.map en))) s = .ok (.v (.bool (!decide (x ∈ ys)))) s := by
  simp [cmpX, rd, cmpD, inD, En.ok x (Nat.le_succ_of_le h), okT ys h]
  rw [← List.any_map, any_en]
end
/-! typed rows: tuples -/
section
variable {α : Type} [En α]
@[simp] theorem seq_en (xs : List α) : kSeq (.v (en xs)) s = .ok (.stat (xs.map en)) s := (rfl)
@[simp] theorem len_en (xs : List α) : bltX .len [.v (en xs)] s = .ok (.v (.int xs.length)) s := by
  rw [show en xs = PyData.tuple (xs.map en) from rfl, len_t, List.length_map]
@[simp] theorem list_en (xs : List α) : bltlX .list [.v (en xs)] s = .ok (.v (.list (xs.map en))) s := (rfl)
@[simp] theorem tup_en (xs : List α) : bltX .tup [.v (en xs)] s = .ok (.v (en xs)) s := (rfl)
theorem in_en [DecidableEq α] (x : α) (ys : List α) (h : En.dep α ≤ 63) : cmpX .In (.v (en x)) (.v (en ys)) s = .ok (.v (.bool (decide (x ∈ ys)))) s := in_t x ys h
theorem nin_en [DecidableEq α] (x : α) (ys : List α) (h : En.dep α ≤ 63) : cmpX .NotIn (.v (en x)) (.v (en ys)) s = .ok (.v (.bool (!decide (x ∈ ys)))) s := nin_t x ys h
theorem eq_nil {xs : List α} (h : En.dep α ≤ 60) : cmpX .Eq (.v (.list (xs.map en))) (.v (.list [])) s = .ok (.v (.bool xs.isEmpty)) s := by
  rw [eq_v (Sh.ok (n := En.dep α + 1) (Sh.lst fun d hd => by
    obtain ⟨x, _, rfl⟩ := List.mem_map.mp hd
    exact En.sh x) (by omega)) rfl, eqv_nil]
  simp
end
theorem filter_isEmpty {β : Type} (p : β → Bool) (xs : List β) : (xs.filter p).isEmpty = !xs.any p := by
  rw [Bool.eq_iff_iff, List.isEmpty_iff, List.filter_eq_nil_iff, Bool.not_eq_true', List.any_eq_false]
/-! ### cells -/
@[simp] theorem atI_last {α : Type} (f : α → PyData) (xs : List α) : L2.atI (xs.map f) (-1) = xs.getLast?.map f := by
  unfold L2.atI L2.ixN
  rw [if_neg (by decide), List.length_map]
  by_cases h : xs = []
  · subst h; rfl
  · have h1 : 0 < xs.length := List.length_pos_iff.mpr h
    rw [if_pos (by omega)]
    simp only [Option.bind_some]
    rw [List.getLast?_eq_getElem?, List.getElem?_map]
    congr 2
    omega
theorem atI_nn {α : Type} (xs : List α) (i : Int) (h : 0 ≤ i) : L2.atI xs i = xs[i.toNat]? := by
  unfold L2.atI L2.ixN
  rw [if_pos h]
  by_cases h2 : i < xs.length
  · rw [if_pos h2]; rfl
  · rw [if_neg h2, List.getElem?_eq_none (by omega)]; rfl
@[simp] theorem atI_0 {α : Type} (x : α) (xs : List α) : L2.atI (x :: xs) 0 = some x := by rw [atI_nn _ _ (by decide)]; rfl
@[simp] theorem atI_1 {α : Type} (x y : α) (xs : List α) : L2.atI (x :: y :: xs) 1 = some y := by rw [atI_nn _ _ (by decide)]; rfl
@[simp] theorem atI_2 {α : Type} (x y z : α) (xs : List α) : L2.atI (x :: y :: z :: xs) 2 = some z := by rw [atI_nn _ _ (by decide)]; rfl
theorem sub_l {xs : List PyData} {i : Int} {d : PyData} (h2 : L2.atI xs i = some d) : subX (.v (.list xs)) (.v (.int i)) s = .ok (.v d) s := by simp [subX, rd, ixD, h2]
theorem sub_t {xs : List PyData} {i : Int} {d : PyData} (h2 : L2.atI xs i = some d) : subX (.v (.tuple xs)) (.v (.int i)) s = .ok (.v d) s := by simp [subX, rd, ixD, h2]
theorem cut_from {α : Type} (xs : List α) (i : Int) (h : 0 ≤ i) : cutD xs (some i) none = xs.drop i.toNat := by
  unfold cutD
  simp only [HT.sIx]
  rw [if_neg (by omega)]
  by_cases h2 : i.toNat ≤ xs.length
  · rw [Nat.min_eq_left h2, List.take_of_length_le (by rw [List.length_drop]; exact Nat.le_refl _)]
  · rw [Nat.min_eq_right (by omega), List.drop_of_length_le (Nat.le_refl _), List.drop_of_length_le (by omega), List.take_nil]
theorem cut_to {α : Type} (xs : List α) (i : Int) (h : 0 ≤ i) : cutD xs none (some i) = xs.take i.toNat := by
  unfold cutD
  simp only [HT.sIx]
  rw [if_neg (by omega), Nat.sub_zero, List.drop_zero]
  by_cases h2 : i.toNat ≤ xs.length
  · rw [Nat.min_eq_left h2]
  · rw [Nat.min_eq_right (by omega), List.take_of_length_le (Nat.le_refl _), List.take_of_length_le (by omega)]
theorem cut_mid {α : Type} (xs : List α) (i j : Int) (h : 0 ≤ i) (hj : 0 ≤ j) : cutD xs (some i) (some j) = (xs.take j.toNat).drop i.toNat := by
  unfold cutD
  simp only [HT.sIx]
  rw [if_neg (by omega), if_neg (by omega)]
  apply List.ext_getElem?
  intro n
  rw [List.getElem?_take, List.getElem?_drop, List.getElem?_drop, List.getElem?_take]
  by_cases hn : xs.length ≤ i.toNat + n
  · rw [List.getElem?_eq_none (by omega : xs.length ≤ i.toNat + n)]
    by_cases h2 : i.toNat ≤ xs.length
    · rw [List.getElem?_eq_none (by omega)]; simp
    · rw [List.getElem?_eq_none (by omega)]; simp
  · rw [Nat.min_eq_left (by omega : i.toNat ≤ xs.length)]
    have : (n < min j.toNat xs.length - i.toNat) ↔ (i.toNat + n < j.toNat) := by omega
    simp only [this]
@[simp] theorem cut_1 {α : Type} (xs : List α) : cutD xs (some 1) none = xs.tail := by rw [cut_from _ _ (by decide)]; simp
@[simp] theorem part_i (i : Int) : partX (.v (.int i)) s = .ok (some i) s := (rfl)
@[simp] theorem sl_l (xs : List PyData) (l h : Option Int) : sliceX (.v (.list xs)) l h s = .ok (.v (.list (cutD xs l h))) s := (rfl)
@[simp] theorem sl_t (xs : List PyData) (l h : Option Int) : sliceX (.v (.tuple xs)) l h s = .ok (.v (.tuple (cutD xs l h))) s := (rfl)
theorem len_c {n : Nat} {xs : List PyData} (h : s[n]? = some (.lst xs)) : bltX .len [.c n] s = .ok (.v (.int xs.length)) s := by simp [bltX, rdAll, rd, h, bltD]
theorem tup_c {n : Nat} {xs : List PyData} (h : s[n]? = some (.lst xs)) : bltX .tup [.c n] s = .ok (.v (.tuple xs)) s := by simp [bltX, rdAll, rd, h, bltD]
theorem sub_c {n : Nat} {xs : List PyData} (h : s[n]? = some (.lst xs)) {i : Int} {d : PyData} (h2 : L2.atI xs i = some d) : subX (.c n) (.v (.int i)) s = .ok (.v d) s := by simp [subX, rd, h, ixD, h2]
theorem isL_c {n : Nat} {xs : List PyData} (h : s[n]? = some (.lst xs)) : isL (.c n) s = true := by simp [isL, h]
theorem app_c {n : Nat} {xs : List PyData} (h : s[n]? = some (.lst xs)) {d : PyData} (h2 : xs.length < 16777216) : methX .append (.c n) [d] s = .ok (.v .none) (s.set n (.lst (xs ++ [d]))) := by simp [methX, appX, h, h2]
/-! ### for -/
/-- a for, then the rest -/
theorem for_then {α : Type} {g : α → PyData} {tg : Tg} {b : Ss} {r : Fl → Sto → R Fl} (I : List α → Rho → Sto → Prop) (Post : R Fl → Prop) : ∀ (post pre : List α) {ρ : Rho} {s : Sto}, I pre ρ s →
    (∀ pre' x post', pre ++ post = pre' ++ x :: post' → ∀ ρ s, I pre' ρ s → (∃ ρ' s', bodyF cx tg b (g x) ρ s = .ok (.nx ρ') s' ∧ I (pre' ++ [x]) ρ' s') ∨ (∃ ρ' s', bodyF cx tg b (g x) ρ s = .ok (.ct ρ') s' ∧ I (pre' ++ [x]) ρ' s') ∨ ∃ v s', bodyF cx tg b (g x) ρ s = .ok (.rt v) s' ∧ Post (r (.rt v) s')) →
    (∀ ρ' s', I (pre ++ post) ρ' s' → Post (r (.nx ρ') s')) → Post ((forS (bodyF cx tg b) (post.map g) ρ s).bind r)
  | [], pre, ρ, s, h0, _, he => he ρ s (by rw [List.append_nil]; exact h0)
  | x :: post, pre, ρ, s, h0, hs, he => by
    have e : pre ++ x :: post = pre ++ [x] ++ post := by simp
    rcases hs pre x post rfl ρ s h0 with ⟨ρ1, s1, h1, i1⟩ | ⟨ρ1, s1, h1, i1⟩ | ⟨v, s1, h1, r1⟩
    · rw [List.map_cons, forS, h1]
      exact for_then I Post post (pre ++ [x]) i1 (fun pre' y post' q => hs pre' y post' (by rw [e]; exact q)) (fun ρ' s' h => he ρ' s' (by rw [e]; exact h))
    · rw [List.map_cons, forS, h1]
      exact for_then I Post post (pre ++ [x]) i1 (fun pre' y post' q => hs pre' y post' (by rw [e]; exact q)) (fun ρ' s' h => he ρ' s' (by rw [e]; exact h))
    · rw [List.map_cons, forS, h1]
      exact r1
/-- .. that returns nothing -/
theorem for_fold {α : Type} {g : α → PyData} {tg : Tg} {b : Ss} {r : Fl → Sto → R Fl} (I : List α → Rho → Sto → Prop) (Post : R Fl → Prop) (xs : List α) {ρ : Rho} {s : Sto} (h0 : I [] ρ s)
    (hs : ∀ pre x post, xs = pre ++ x :: post → ∀ ρ s, I pre ρ s → ∃ ρ' s', bodyF cx tg b (g x) ρ s = .ok (.nx ρ') s' ∧ I (pre ++ [x]) ρ' s')
    (he : ∀ ρ' s', I xs ρ' s' → Post (r (.nx ρ') s')) : Post ((forS (bodyF cx tg b) (xs.map g) ρ s).bind r) :=
  for_then I Post xs [] h0 (fun pre x post e ρ s h => .inl (hs pre x post e ρ s h)) he
/-! ### the turns of a comprehension -/
@[simp] theorem turns_map {α : Type} (f : PyData → Sto → R (List PyData)) (g : α → PyData) (xs : List α) : turns f (xs.map g) s = turns f (xs.map g) s := (rfl)
theorem turns_ok {α : Type} {f : PyData → Sto → R (List PyData)} {g : α → PyData} (h : α → List PyData) {xs : List α} (hf : ∀ x ∈ xs, f (g x) s = .ok (h x) s) : turns f (xs.map g) s = .ok (xs.flatMap h) s := turns_pure hf
/-- each item's value, if its tests hold -/
theorem turns_if {α : Type} {f : PyData → Sto → R (List PyData)} {g : α → PyData} (p : α → Bool) (h : α → PyData) {xs : List α} (hf : ∀ x ∈ xs, f (g x) s = if p x then .ok [h x] s else .ok [] s) : turns f (xs.map g) s = .ok ((xs.filter p).map h) s := by
  rw [turns_ok (fun x => if p x then [h x] else []), flatMap_if]
  intro x hx
  rw [hf x hx]
  split <;> rfl
theorem turns_all {α : Type} {f : PyData → Sto → R (List PyData)} {g : α → PyData} (h : α → PyData) {xs : List α} (hf : ∀ x ∈ xs, f (g x) s = .ok [h x] s) : turns f (xs.map g) s = .ok (xs.map h) s := by
  rw [turns_ok (fun x => [h x]) hf, List.map_eq_flatMap]
theorem madeL_ok {ys : List PyData} (h : ys.length ≤ 16777216) : madeL ys s = .ok (.v (.list ys)) s := by rw [madeL, if_pos]; exact decide_eq_true h
theorem madeT_ok {ys : List PyData} (h : ys.length ≤ 16777216) : madeT ys s = .ok (.v (.tuple ys)) s := by rw [madeT, if_pos]; exact decide_eq_true h
end
end Mi
end

section
set_option maxRecDepth 100000
/-! MiLib: contracts of the package's small defs. -/
namespace Mi
open PySem
open En (en)
/-- a list, or a tuple -/
def sq (b : Bool) (ds : List PyData) : PyData := if b then .list ds else .tuple ds
def F_set_of : Fn :=
  ⟨1, 3, false, (.cons (.new 1 (.lst .nil)) (.cons (.for_ (.one 2) (.seq (.bltl .sorted (.cons (.var 0) .nil))) (.cons (.ite (.or (.cmp .Eq (.blt .len (.cons (.var 1) .nil)) (.cst (.int (0)))) (.cmp .NotEq (.sub (.var 1) (.neg (.cst (.int (1))))) (.var 2))) (.cons (.ex (.meth .append (.var 1) (.cons (.var 2) .nil))) .nil) .nil) .nil)) (.cons (.ret (.blt .tup (.cons (.var 1) .nil))) .nil)))⟩
theorem sortOk_of {α : Type} [En α] {xs : List α} (hd : En.dep α ≤ 60) (hl : xs.length ≤ 16777216) (ht : (∀ x ∈ xs, ∃ a r, en x = .tuple (a :: r)) ∨ ∀ x ∈ xs, (∀ r, en x ≠ .tuple r) ∧ en x ≠ .none) : sortOk (xs.map en) = true := by
  have h1 : okD (.list (xs.map en)) = true := by
    refine Sh.ok (n := En.dep α + 1) (Sh.lst fun d hd => ?_) (by omega)
    obtain ⟨x, _, rfl⟩ := List.mem_map.mp hd
    exact En.sh x
  have h2 : eachIn (xs.map en) = true := by
    unfold eachIn
    rw [h1, Bool.true_and, List.all_eq_true]
    intro d hd
    rw [List.all_eq_true]
    intro e he
    obtain ⟨x, _, rfl⟩ := List.mem_map.mp hd
    obtain ⟨y, _, rfl⟩ := List.mem_map.mp he
    exact En.ak x y
  unfold sortOk
  rw [h2, Bool.true_and, Bool.and_eq_true]
  refine ⟨decide_eq_true (by rw [List.length_map]; exact hl), ?_⟩
  rw [Bool.or_eq_true, List.all_eq_true, List.all_eq_true]
  rcases ht with ht | ht
  · left
    intro d hd
    obtain ⟨x, hx, rfl⟩ := List.mem_map.mp hd
    obtain ⟨a, r, e⟩ := ht x hx
    rw [e]
  · right
    intro d hd
    obtain ⟨x, hx, rfl⟩ := List.mem_map.mp hd
    obtain ⟨h1, h2⟩ := ht x hx
    cases e : en x with
    | tuple r => exact absurd e (h1 r)
    | none => exact absurd e h2
    | _ => rfl
theorem c_set_of {P : Prog} {f : Nat} (hf : P.fn? f = some F_set_of) {α : Type} [En α] [DecidableEq α] (b : Bool) (xs : List α) (hd : En.dep α ≤ 60) (hl : xs.length ≤ 16777216) (ht : (∀ x ∈ xs, ∃ a r, en x = .tuple (a :: r)) ∨ ∀ x ∈ xs, (∀ r, en x ≠ .tuple r) ∧ en x ≠ .none)
    (k : Nat) (s : Sto) : callD P (k + 1) f [.v (sq b (xs.map en))] s = .ok (.v (.tuple ((setOf xs).map en))) s := by
  refine call_ret (as := [_]) (x := .v (.tuple ((setOf xs).map en))) (s' := [.lst ((setOf xs).map en)]) hf rfl rfl ?_ rfl s
  have so := sortOk_of hd hl ht
  have hl' : ∀ pre x post, isort xs = pre ++ x :: post → (pre.foldl adjF []).length < 16777216 := by
    intro pre x post he
    have h1 := isort_length xs
    rw [he, List.length_append, List.length_cons] at h1
    have := adj_len pre []
    simp at this
    omega
  cases b <;> simp [F_set_of, sq, sorted_l so, sorted_t so, madeL_ok]
  all_goals
    refine for_fold (fun pre ρ s => ∃ o, ρ = [some (.v _), some (.c 0), o] ∧ s = [.lst ((pre.foldl adjF []).map en)]) (fun r => r = _) (isort xs) ⟨none, rfl, rfl⟩ ?_ ?_
    · rintro pre x post he _ _ ⟨o, rfl, rfl⟩
      simp [len_c]
      by_cases h : (pre.foldl adjF []) = []
      · simp [h, isL_c, app_c, adjF]
      · obtain ⟨z, hz⟩ : ∃ z, (pre.foldl adjF []).getLast? = some z := ⟨_, List.getLast?_eq_getLast h⟩
        simp [h, sub_c, hz, ne_en z x (by omega), adjF, isL_c, app_c, hl' pre x post he]
        by_cases hx : z = x
        · simp [hx]
        · simp [hx]
    · rintro _ _ ⟨o, rfl, rfl⟩
      simp [tup_c, setOf]

/-! ### tupled -/
/-- names: texts -/
class Atom (α : Type) [En α] : Prop where
  str : ∀ x : α, ∃ z, en x = .str z
instance : Atom Nm := ⟨fun x => ⟨x.s, rfl⟩⟩
theorem Atom.flat {α : Type} [En α] [Atom α] (x : α) : (∀ r, en x ≠ .tuple r) ∧ en x ≠ .none := by
  obtain ⟨z, e⟩ := Atom.str x
  rw [e]
  exact ⟨fun r h => (nomatch h), fun h => (nomatch h)⟩
@[simp] theorem isi_lt_sq (b : Bool) (ds : List PyData) : ["list", "tuple"].any (isiD (sq b ds)) = true := by cases b <;> rfl
@[simp] theorem isi_lt_str (z : Str) : ["list", "tuple"].any (isiD (.str z)) = false := rfl
@[simp] theorem seq_sq (b : Bool) (ds : List PyData) {s : Sto} : kSeq (.v (sq b ds)) s = .ok (.stat ds) s := by cases b <;> rfl
theorem any_cons' (t : String) (ts : List String) (d : PyData) : (t :: ts).any (isiD d) = (isiD d t || ts.any (isiD d)) := rfl
def F_tupled : Fn :=
  ⟨1, 2, false, (.cons (.ret (.ite (.isi (.var 0) ["list", "tuple"]) (.blt .tup (.cons (.comp [1] (.call 0 (.cons (.var 1) .nil)) (.one 1) (.seq (.var 0)) .nil) .nil)) (.var 0))) .nil)⟩
section
variable {P : Prog}
theorem c_tupled_str (hf : P.fn? 0 = some F_tupled) (z : Str) (k : Nat) (s : Sto) : callD P (k + 1) 0 [.v (.str z)] s = .ok (.v (.str z)) s := by
  refine call_ret (as := [_]) (x := .v (.str z)) (s' := []) hf rfl rfl ?_ rfl s
  simp [F_tupled, -List.any_cons, -List.any_nil]
theorem c_tupled_sq (hf : P.fn? 0 = some F_tupled) {α : Type} {g h : α → PyData} (b : Bool) (xs : List α) (hl : xs.length ≤ 16777216) (k : Nat) (hx : ∀ x ∈ xs, ∀ s, callD P k 0 [.v (g x)] s = .ok (.v (h x)) s) (s : Sto) :
    callD P (k + 1) 0 [.v (sq b (xs.map g))] s = .ok (.v (.tuple (xs.map h))) s := by
  refine call_ret (as := [_]) (x := .v (.tuple (xs.map h))) (s' := []) hf rfl rfl ?_ rfl s
  simp [F_tupled, -List.any_cons, -List.any_nil]
  rw [turns_all h]
  · simp [madeL_ok, hl]
  · intro x hx'
    simp [hx x hx']

/-! ### classes: rows of rows of names, lists or tuples -/
def mx {α : Type} [En α] (o i : Bool) (c : List (List α)) : PyData := sq o (c.map fun r => sq i (r.map en))
theorem mx_tt {α : Type} [En α] (c : List (List α)) : mx false false c = en c := rfl
section
variable {α : Type} [En α] [DecidableEq α] {s : Sto}
theorem in_sq (b : Bool) (x : α) (ys : List α) (h : En.dep α ≤ 63) : cmpX .In (.v (en x)) (.v (sq b (ys.map en))) s = .ok (.v (.bool (decide (x ∈ ys)))) s := by
  cases b
  · exact in_t x ys h
  · exact in_l x ys h
theorem sub0_sq (b : Bool) {x : α} {ys : List α} (h : ys.head? = some x) : subX (.v (sq b (ys.map en))) (.v (.int 0)) s = .ok (.v (en x)) s := by
  cases ys with
  | nil => cases h
  | cons y ys => cases Option.some.inj h; cases b <;> simp [sq, sub_l, sub_t]
end
section
variable {α : Type} [En α] [DecidableEq α] [Atom α]
theorem c_tupled_nm (hf : P.fn? 0 = some F_tupled) (x : α) (k : Nat) (s : Sto) : callD P (k + 1) 0 [.v (en x)] s = .ok (.v (en x)) s := by
  obtain ⟨z, e⟩ := Atom.str x
  rw [e]
  exact c_tupled_str hf z k s
theorem c_tupled_row (hf : P.fn? 0 = some F_tupled) (b : Bool) (r : List α) (hl : r.length ≤ 16777216) (k : Nat) (s : Sto) : callD P (k + 2) 0 [.v (sq b (r.map en))] s = .ok (.v (en r)) s :=
  c_tupled_sq hf b r hl (k + 1) (fun x _ s => c_tupled_nm hf x k s) s
theorem c_tupled_mx (hf : P.fn? 0 = some F_tupled) (o i : Bool) (c : List (List α)) (hl : c.length ≤ 16777216) (hr : ∀ r ∈ c, r.length ≤ 16777216) (k : Nat) (s : Sto) : callD P (k + 3) 0 [.v (mx o i c)] s = .ok (.v (en c)) s :=
  c_tupled_sq hf o c hl (k + 2) (fun r h s => c_tupled_row hf i r (hr r h) k s) s
def F_class_of : Fn :=
  ⟨2, 3, false, (.cons (.ret (.sub (.comp [2] (.call 0 (.cons (.var 2) .nil)) (.one 2) (.seq (.var 0)) (.cons (.cmp .In (.var 1) (.var 2)) .nil)) (.cst (.int (0))))) .nil)⟩
/-- sizes -/
structure Sm (c : List (List α)) : Prop where
  len : c.length ≤ 1000
  row : ∀ r ∈ c, r.length ≤ 1000
theorem c_class_of (hf : P.fn? 0 = some F_tupled) (h2 : P.fn? 2 = some F_class_of) (o i : Bool) {c : List (List α)} (hc : Sm c) (hd : En.dep α ≤ 60) {x : α} {r : List α} (hx : (c.filter fun r => decide (x ∈ r)).head? = some r) (k : Nat) (s : Sto) :
    callD P (k + 3) 2 [.v (mx o i c), .v (en x)] s = .ok (.v (en r)) s := by
  refine call_ret (as := [_, _]) (x := .v (en r)) (s' := []) h2 rfl rfl ?_ rfl s
  simp [F_class_of, mx]
  have hl := hc.len
  rw [turns_if (fun r => decide (x ∈ r)) (fun r => en r)]
  · simp only [calm_ok', R.bind_ok]
    rw [madeL_ok (by rw [List.length_map]; exact Nat.le_trans (List.length_filter_le ..) (by omega))]
    cases hq : c.filter fun r => decide (x ∈ r) with
    | nil => rw [hq] at hx; cases hx
    | cons q l =>
      rw [hq] at hx
      cases Option.some.inj hx
      simp [sub_l]
  · intro r hr
    have := hc.row r hr
    simp [in_sq i x r (by omega), c_tupled_row hf i r (by omega) k]

/-! a list of names as a list -/
structure Ls (α : Type) where
  l : List α
deriving DecidableEq
instance : En (Ls α) where
  en r := .list (r.l.map en)
  dep := En.dep α + 1
  sh r := Sh.lst fun d hd => by
    obtain ⟨x, _, rfl⟩ := List.mem_map.mp hd
    exact En.sh x
  inj r q h := by
    cases r; cases q
    injection h with h
    exact congrArg Ls.mk (en_map_inj _ _ h)
  ak r q := by simp only [PySem.W.alike]; exact ak_all_map _ _
theorem nin_ll (r : List α) (ys : List (List α)) (h : En.dep α ≤ 60) {s : Sto} : cmpX .NotIn (.v (.list (r.map en))) (.v (.list (ys.map fun r => .list (r.map en)))) s = .ok (.v (.bool (!decide (r ∈ ys)))) s := by
  have e : (ys.map fun r => PyData.list (r.map en)) = (ys.map Ls.mk).map en := by rw [List.map_map]; rfl
  rw [e]
  refine (nin_l (Ls.mk r) (ys.map Ls.mk) (show En.dep α + 1 ≤ 63 by omega)).trans ?_
  congr 4
  rw [Bool.eq_iff_iff, decide_eq_true_iff, decide_eq_true_iff, List.mem_map]
  exact ⟨fun ⟨q, h, e⟩ => by injection e with e; exact e ▸ h, fun h => ⟨r, h, rfl⟩⟩
@[simp] theorem b_en (i j : Nat) {β γ : Type} [En β] [En γ] (p : β × γ) (ρ : Rho) : bindT (.tup [i, j]) (en p) ρ = some ((ρ.set i (some (.v (en p.1)))).set j (some (.v (en p.2)))) := rfl
@[simp] theorem f_en (i j : Nat) {β γ : Type} [En β] [En γ] (p : β × γ) {cx : Mi.Ctx} {b : Ss} {ρ : Rho} {s : Sto} : bodyF cx (.tup [i, j]) b (en p) ρ s = exs cx b ((ρ.set i (some (.v (en p.1)))).set j (some (.v (en p.2)))) s := rfl
@[simp] theorem list_sq (b : Bool) (ds : List PyData) {s : Sto} : bltlX .list [.v (sq b ds)] s = .ok (.v (.list ds)) s := by cases b <;> rfl
def nearT (lots : List (List α)) (p : α × α) : List (List α) := lots.filter fun lot => decide (p.1 ∈ lot) || decide (p.2 ∈ lot)
def putT (lots : List (List α)) (p : α × α) : List (List α) := (lots.filter fun lot => !decide (lot ∈ nearT lots p)) ++ [(nearT lots p).flatten]
def together (c : List (List α)) (ps : List (α × α)) : List (List α) := setOf ((ps.foldl putT c).map setOf)
def F_put_together : Fn :=
  ⟨2, 9, false, (.cons (.set (.one 3) (.comp [2] (.bltl .list (.cons (.var 2) .nil)) (.one 2) (.seq (.var 0)) .nil)) (.cons (.for_ (.tup [4, 5]) (.seq (.var 1)) (.cons (.set (.one 7) (.comp [6] (.var 6) (.one 6) (.seq (.var 3)) (.cons (.or (.cmp .In (.var 4) (.var 6)) (.cmp .In (.var 5) (.var 6))) .nil))) (.cons (.set (.one 3) (.bin .Add (.comp [6] (.var 6) (.one 6) (.seq (.var 3)) (.cons (.cmp .NotIn (.var 6) (.var 7)) .nil)) (.lst (.cons (.comp2 [6, 8] [8] (.var 8) (.one 6) (.seq (.var 7)) .nil (.one 8) (.seq (.var 6)) .nil) .nil)))) .nil))) (.cons (.ret (.call 1 (.cons (.comp [6] (.call 1 (.cons (.var 6) .nil)) (.one 6) (.seq (.var 3)) .nil) .nil))) .nil)))⟩
/-- together no more than m rows, no more than n names, none empty -/
structure Lots (m n : Nat) (c : List (List α)) : Prop where
  len : c.length ≤ m
  sum : (c.map List.length).sum ≤ n
  ne : ∀ r ∈ c, r ≠ []
theorem sum_filter (p : List α → Bool) : ∀ c : List (List α), ((c.filter p).map List.length).sum ≤ (c.map List.length).sum
  | [] => Nat.le_refl _
  | r :: c => by
    have := sum_filter p c
    rw [List.filter_cons]
    split <;> simp <;> omega
theorem sum_split (p : List α → Bool) : ∀ c : List (List α), ((c.filter p).map List.length).sum + ((c.filter fun r => !p r).map List.length).sum = (c.map List.length).sum
  | [] => rfl
  | r :: c => by
    have := sum_split p c
    rw [List.filter_cons, List.filter_cons]
    cases p r <;> simp <;> omega
theorem len_split {β : Type} (p : β → Bool) : ∀ c : List β, (c.filter p).length + (c.filter fun r => !p r).length = c.length
  | [] => rfl
  | r :: c => by
    have := len_split p c
    rw [List.filter_cons, List.filter_cons]
    cases p r <;> simp <;> omega
theorem nin_near (lots : List (List α)) (p : α × α) : (lots.filter fun lot => !decide (lot ∈ nearT lots p)) = lots.filter fun lot => !(decide (p.1 ∈ lot) || decide (p.2 ∈ lot)) := by
  refine List.filter_congr fun r hr => ?_
  congr 1
  rw [Bool.eq_iff_iff, decide_eq_true_iff]
  unfold nearT
  rw [List.mem_filter]
  exact ⟨fun h => h.2, fun h => ⟨hr, h⟩⟩
theorem Lots.put {m n : Nat} {c : List (List α)} (h : Lots m n c) {p : α × α} (hp : ∃ r ∈ c, p.1 ∈ r) : Lots m n (putT c p) := by
  have e := sum_split (fun lot => decide (p.1 ∈ lot) || decide (p.2 ∈ lot)) c
  obtain ⟨r, hr, hpr⟩ := hp
  have hrn : r ∈ nearT c p := by unfold nearT; rw [List.mem_filter]; exact ⟨hr, by simp [hpr]⟩
  have hlen : (nearT c p).length + (c.filter fun lot => !(decide (p.1 ∈ lot) || decide (p.2 ∈ lot))).length = c.length := by
    have := len_split (fun lot => decide (p.1 ∈ lot) || decide (p.2 ∈ lot)) c
    unfold nearT
    omega
  have hpos : 0 < (nearT c p).length := List.length_pos_of_mem hrn
  refine ⟨?_, ?_, ?_⟩
  · unfold putT
    rw [nin_near, List.length_append, List.length_singleton]
    have := h.len
    omega
  · unfold putT
    rw [nin_near, List.map_append, List.sum_append]
    simp only [List.map_cons, List.map_nil, List.sum_cons, List.sum_nil, Nat.add_zero, List.length_flatten]
    have := h.sum
    unfold nearT
    omega
  · intro q hq
    unfold putT at hq
    rcases List.mem_append.mp hq with hq | hq
    · exact h.ne q (List.mem_filter.mp hq).1
    · rw [List.mem_singleton] at hq
      subst hq
      intro z
      have : p.1 ∈ (nearT c p).flatten := List.mem_flatten.mpr ⟨r, hrn, hpr⟩
      rw [z] at this
      cases this
theorem put_mem {c : List (List α)} {p : α × α} {x : α} : (∃ r ∈ putT c p, x ∈ r) ↔ ∃ r ∈ c, x ∈ r := by
  unfold putT
  rw [nin_near]
  constructor
  · rintro ⟨r, hr, hx⟩
    rcases List.mem_append.mp hr with hr | hr
    · exact ⟨r, (List.mem_filter.mp hr).1, hx⟩
    · rw [List.mem_singleton] at hr
      subst hr
      obtain ⟨q, hq, hx⟩ := List.mem_flatten.mp hx
      exact ⟨q, (List.mem_filter.mp hq).1, hx⟩
  · rintro ⟨r, hr, hx⟩
    by_cases h : (decide (p.1 ∈ r) || decide (p.2 ∈ r)) = true
    · exact ⟨_, List.mem_append_right _ (List.mem_singleton.mpr rfl), List.mem_flatten.mpr ⟨r, List.mem_filter.mpr ⟨hr, h⟩, hx⟩⟩
    · exact ⟨r, List.mem_append_left _ (List.mem_filter.mpr ⟨hr, by simp [h]⟩), hx⟩
theorem foldl_mem {ps : List (α × α)} {x : α} : ∀ {c : List (List α)}, (∃ r ∈ ps.foldl putT c, x ∈ r) ↔ ∃ r ∈ c, x ∈ r := by
  induction ps with
  | nil => intro c; exact Iff.rfl
  | cons p ps ih => intro c; rw [List.foldl_cons, ih, put_mem]
theorem Lots.fold {m n : Nat} : ∀ {ps : List (α × α)} {c : List (List α)}, Lots m n c → (∀ p ∈ ps, ∃ r ∈ c, p.1 ∈ r) → Lots m n (ps.foldl putT c)
  | [], _, h, _ => h
  | p :: ps, c, h, hp => Lots.fold (ps := ps) (c := putT c p) (h.put (hp p (List.mem_cons_self ..))) fun q hq => put_mem.mpr (hp q (List.mem_cons_of_mem _ hq))
theorem le_sum {c : List (List α)} {r : List α} (h : r ∈ c) : r.length ≤ (c.map List.length).sum := by
  induction c with
  | nil => cases h
  | cons q c ih =>
    rcases List.mem_cons.mp h with rfl | h
    · simp
    · have := ih h; simp; omega
theorem c_put_together (h1 : P.fn? 1 = some F_set_of) (h3 : P.fn? 3 = some F_put_together) {c : List (List α)} {ps : List (α × α)} (hc : Lots 1000 10000 c) (hp : ∀ p ∈ ps, ∃ r ∈ c, p.1 ∈ r) (hd : En.dep α ≤ 50) (k : Nat) (s : Sto) :
    callD P (k + 2) 3 [.v (en c), .v (.list (ps.map en))] s = .ok (.v (en (together c ps))) s := by
  refine call_ret (as := [_, _]) (x := .v (en (together c ps))) (s' := []) h3 rfl rfl ?_ rfl s
  have hl := hc.len
  simp [F_put_together]
  rw [turns_all (fun r => PyData.list (r.map en))]
  · simp [madeL_ok (show (c.map fun r => PyData.list (r.map en)).length ≤ 16777216 by rw [List.length_map]; omega)]
    refine for_fold (fun pre ρ s => ∃ a b x y z, ρ = [a, b, none, some (.v (.list ((pre.foldl putT c).map fun r => .list (r.map en)))), x, y, none, z, none] ∧ s = []) (fun r => r = _) ps ⟨_, _, _, _, _, rfl, rfl⟩ ?_ ?_
    · rintro pre p post he _ _ ⟨a, b, x, y, z, rfl, rfl⟩
      have hq : Lots 1000 10000 (pre.foldl putT c) := hc.fold fun q hq => hp q (by rw [he]; exact List.mem_append_left _ hq)
      have hql := hq.len
      have hqs := hq.sum
      simp
      rw [turns_if (fun lot => decide (p.1 ∈ lot) || decide (p.2 ∈ lot)) (fun r => PyData.list (r.map en))]
      · simp only [calm_ok', R.bind_ok]
        rw [show (pre.foldl putT c).filter (fun lot => decide (p.1 ∈ lot) || decide (p.2 ∈ lot)) = nearT (pre.foldl putT c) p from rfl]
        have hn1 : (nearT (pre.foldl putT c) p).length ≤ 1000 := Nat.le_trans (List.length_filter_le ..) hql
        have hn2 : ((nearT (pre.foldl putT c) p).map List.length).sum ≤ 10000 := Nat.le_trans (sum_filter _ _) hqs
        rw [madeL_ok (by rw [List.length_map]; omega)]
        simp
        rw [turns_if (fun lot => !decide (lot ∈ nearT (pre.foldl putT c) p)) (fun r => PyData.list (r.map en))]
        · simp only [calm_ok', R.bind_ok]
          rw [madeL_ok (by rw [List.length_map]; exact Nat.le_trans (List.length_filter_le ..) (by omega))]
          simp
          rw [turns_ok (fun r : List α => r.map en)]
          · simp only [calm_ok', R.bind_ok]
            have e2 : ((nearT (pre.foldl putT c) p).flatMap fun r => r.map (en : α → PyData)) = (nearT (pre.foldl putT c) p).flatten.map en := by rw [List.map_flatten, List.flatMap_def]
            rw [e2, madeL_ok (by rw [List.length_map, List.length_flatten]; omega)]
            simp
            rw [madeL_ok (by simp)]
            simp
            rw [op_addL _ _ (by simp only [List.length_map, List.length_singleton]; have := List.length_filter_le (fun lot => !decide (lot ∈ nearT (pre.foldl putT c) p)) (pre.foldl putT c); omega)]
            simp [putT]
          · intro r hr
            simp
            rw [turns_all (en : α → PyData)]
            intro x hx
            simp
        · intro r hr
          simp [nin_ll r _ (by omega)]
      · intro r hr
        simp [in_l _ r (by omega)]
    · rintro _ _ ⟨a, b, x, y, z, rfl, rfl⟩
      have hq : Lots 1000 10000 (ps.foldl putT c) := hc.fold hp
      have hql := hq.len
      have hqs := hq.sum
      simp
      rw [turns_all (fun r => en (setOf r))]
      · simp only [calm_ok', R.bind_ok]
        rw [madeL_ok (by rw [List.length_map]; omega)]
        simp [-List.map_map]
        have e3 : ((ps.foldl putT c).map fun r => en (setOf r)) = ((ps.foldl putT c).map setOf).map en := by rw [List.map_map]; rfl
        rw [e3]
        have := c_set_of h1 true ((ps.foldl putT c).map setOf) (show En.dep α + 1 ≤ 60 by omega) (by rw [List.length_map]; omega) (.inl fun r hr => by
          obtain ⟨q, hq', rfl⟩ := List.mem_map.mp hr
          cases hz : setOf q with
          | nil =>
            have hne := hq.ne q hq'
            cases q with
            | nil => exact absurd rfl hne
            | cons y q => have : y ∈ setOf (y :: q) := mem_setOf.mpr (List.mem_cons_self ..); rw [hz] at this; cases this
          | cons y t => exact ⟨en y, t.map en, rfl⟩) k []
        rw [show sq true = PyData.list from rfl] at this
        simp [this, together, -List.map_map]
        rfl
      · intro r hr
        have := c_set_of h1 true r (show En.dep α ≤ 60 by omega) (by have := le_sum hr; omega) (.inr fun x _ => Atom.flat x) k []
        rw [show sq true = PyData.list from rfl] at this
        simp [this]
        rfl
  · intro r hr
    simp
end
end
end Mi
end

section
set_option maxRecDepth 100000
/-! MiTpd: tupled of any datum; data that a Lean value is, lists in the place of tuples or not. -/
namespace Mi
open PySem
open En (en)
/-- tuples in the place of lists -/
def tupD : PyData → PyData
  | .list xs => .tuple (tupA xs)
  | .tuple xs => .tuple (tupA xs)
  | d => d
where tupA : List PyData → List PyData
  | [] => []
  | d :: r => tupD d :: tupA r
theorem tupA_map : ∀ xs : List PyData, tupD.tupA xs = xs.map tupD
  | [] => rfl
  | d :: r => by rw [tupD.tupA, tupA_map r]; rfl
theorem tupD_list (xs : List PyData) : tupD (.list xs) = .tuple (xs.map tupD) := by rw [tupD, tupA_map]
theorem tupD_tuple (xs : List PyData) : tupD (.tuple xs) = .tuple (xs.map tupD) := by rw [tupD, tupA_map]
/-- so deep at most, no row too long -/
inductive Fits : Nat → PyData → Prop
  | none {n : Nat} : Fits n .none
  | bool {n : Nat} (b : Bool) : Fits n (.bool b)
  | int {n : Nat} (i : Int) : Fits n (.int i)
  | str {n : Nat} (x : Str) : Fits n (.str x)
  | list {n : Nat} {ds : List PyData} : ds.length ≤ 16777216 → (∀ d ∈ ds, Fits n d) → Fits (n + 1) (.list ds)
  | tuple {n : Nat} {ds : List PyData} : ds.length ≤ 16777216 → (∀ d ∈ ds, Fits n d) → Fits (n + 1) (.tuple ds)
theorem Fits.mono {n m : Nat} {d : PyData} (h : Fits n d) (e : n ≤ m) : Fits m d := by
  induction h generalizing m with
  | none => exact .none
  | bool b => exact .bool b
  | int i => exact .int i
  | str x => exact .str x
  | list hl _ ih => obtain ⟨m', rfl⟩ : ∃ m', m = m' + 1 := ⟨m - 1, by omega⟩; exact .list hl fun d hd => ih d hd (by omega)
  | tuple hl _ ih => obtain ⟨m', rfl⟩ : ∃ m', m = m' + 1 := ⟨m - 1, by omega⟩; exact .tuple hl fun d hd => ih d hd (by omega)
section
variable {P : Prog}
theorem c_tupled (hf : P.fn? 0 = some F_tupled) : ∀ {n : Nat} {d : PyData}, Fits n d → ∀ (k : Nat) (s : Sto), callD P (k + n + 1) 0 [.v d] s = .ok (.v (tupD d)) s := by
  intro n d h
  induction h with
  | none => exact fun k s => call_ret (as := [_]) (x := .v .none) (s' := []) hf rfl rfl (by simp [F_tupled, isiD, tyOf]) rfl s
  | bool b => exact fun k s => call_ret (as := [_]) (x := .v (.bool b)) (s' := []) hf rfl rfl (by simp [F_tupled, isiD, tyOf]) rfl s
  | int i => exact fun k s => call_ret (as := [_]) (x := .v (.int i)) (s' := []) hf rfl rfl (by simp [F_tupled, isiD, tyOf]) rfl s
  | str x => exact fun k s => call_ret (as := [_]) (x := .v (.str x)) (s' := []) hf rfl rfl (by simp [F_tupled, isiD, tyOf]) rfl s
  | list hl _ ih =>
    intro k s
    rename_i n ds _
    have := c_tupled_sq hf (g := id) (h := tupD) true ds hl (k + n + 1) (fun d hd s => ih d hd k s) s
    rw [List.map_id] at this
    rw [tupD_list]
    exact this
  | tuple hl _ ih =>
    intro k s
    rename_i n ds _
    have := c_tupled_sq hf (g := id) (h := tupD) false ds hl (k + n + 1) (fun d hd s => ih d hd k s) s
    rw [List.map_id] at this
    rw [tupD_tuple]
    exact this
end
/-- types without lists in them -/
class Tp (α : Type) [En α] : Prop where
  t : ∀ x : α, tupD (en x) = en x
instance : Tp Nm := ⟨fun _ => rfl⟩
instance : Tp Int := ⟨fun _ => rfl⟩
instance : Tp Bool := ⟨fun _ => rfl⟩
instance {α : Type} [En α] [Tp α] : Tp (List α) := ⟨fun xs => by
  show tupD (.tuple (xs.map en)) = .tuple (xs.map en)
  rw [tupD_tuple, List.map_map]
  congr 1
  exact List.map_congr_left fun x _ => Tp.t x⟩
instance {α β : Type} [En α] [En β] [Tp α] [Tp β] : Tp (α × β) := ⟨fun p => by
  show tupD (.tuple [en p.1, en p.2]) = .tuple [en p.1, en p.2]
  rw [tupD_tuple, List.map_cons, List.map_cons, List.map_nil, Tp.t, Tp.t]⟩
/-- lists in the place of tuples -/
def lstD : PyData → PyData
  | .list xs => .list (lstA xs)
  | .tuple xs => .list (lstA xs)
  | d => d
where lstA : List PyData → List PyData
  | [] => []
  | d :: r => lstD d :: lstA r
theorem lstA_map : ∀ xs : List PyData, lstD.lstA xs = xs.map lstD
  | [] => rfl
  | d :: r => by rw [lstD.lstA, lstA_map r]; rfl
theorem lstD_list (xs : List PyData) : lstD (.list xs) = .list (xs.map lstD) := by rw [lstD, lstA_map]
theorem lstD_tuple (xs : List PyData) : lstD (.tuple xs) = .list (xs.map lstD) := by rw [lstD, lstA_map]
theorem tup_lst {n : Nat} {d : PyData} (h : Fits n d) : tupD (lstD d) = tupD d := by
  induction h with
  | list hl _ ih => rw [lstD_list, tupD_list, tupD_list, List.map_map]; congr 1; exact List.map_congr_left fun x hx => ih x hx
  | tuple hl _ ih => rw [lstD_tuple, tupD_list, tupD_tuple, List.map_map]; congr 1; exact List.map_congr_left fun x hx => ih x hx
  | _ => rfl
theorem Fits.lst {n : Nat} {d : PyData} (h : Fits n d) : Fits n (lstD d) := by
  induction h with
  | none => exact .none
  | bool b => exact .bool b
  | int i => exact .int i
  | str x => exact .str x
  | list hl _ ih =>
    rw [lstD_list]
    exact .list (by rw [List.length_map]; exact hl) fun d hd => by obtain ⟨x, hx, rfl⟩ := List.mem_map.mp hd; exact ih x hx
  | tuple hl _ ih =>
    rw [lstD_tuple]
    exact .list (by rw [List.length_map]; exact hl) fun d hd => by obtain ⟨x, hx, rfl⟩ := List.mem_map.mp hd; exact ih x hx
/-- the datum is x, tuples or lists -/
structure Is {α : Type} [En α] (n : Nat) (d : PyData) (x : α) : Prop where
  t : tupD d = en x
  f : Fits n d
theorem Is.of {α : Type} [En α] [Tp α] {n : Nat} {x : α} (h : Fits n (en x)) : Is n (en x) x := ⟨Tp.t x, h⟩
theorem Is.lst {α : Type} [En α] {n : Nat} {d : PyData} {x : α} (h : Is n d x) : Is n (lstD d) x := ⟨by rw [tup_lst h.f]; exact h.t, h.f.lst⟩
theorem Is.c {P : Prog} (hf : P.fn? 0 = some F_tupled) {α : Type} [En α] {n : Nat} {d : PyData} {x : α} (h : Is n d x) (k : Nat) (s : Sto) : callD P (k + n + 1) 0 [.v d] s = .ok (.v (en x)) s := by
  rw [c_tupled hf h.f, h.t]
theorem fits_nm (n : Nat) (x : Nm) : Fits n (en x) := .str _
theorem fits_int (n : Nat) (x : Int) : Fits n (en x) := .int _
theorem fits_row {α : Type} [En α] {n : Nat} {xs : List α} (hl : xs.length ≤ 16777216) (h : ∀ x ∈ xs, Fits n (en x)) : Fits (n + 1) (en xs) :=
  .tuple (by rw [List.length_map]; exact hl) fun d hd => by obtain ⟨x, hx, rfl⟩ := List.mem_map.mp hd; exact h x hx
theorem fits_pair {α β : Type} [En α] [En β] {n : Nat} {p : α × β} (h1 : Fits n (en p.1)) (h2 : Fits n (en p.2)) : Fits (n + 1) (en p) :=
  .tuple (by simp) fun d hd => by
    rcases List.mem_cons.mp hd with rfl | hd
    · exact h1
    · rcases List.mem_cons.mp hd with rfl | hd
      · exact h2
      · cases hd
end Mi
end

section
set_option maxRecDepth 100000
namespace Mi
open PySem
def F_table_of : Fn :=
  ⟨1, 1, false, (.cons (.ret (.blt .dict (.cons (.call 0 (.cons (.var 0) .nil)) .nil))) .nil)⟩
def F_groups : Fn :=
  ⟨1, 1, false, (.cons (.ret (.blt .tup (.cons (.call 387 (.cons (.var 0) .nil)) .nil))) .nil)⟩
def F_people : Fn :=
  ⟨1, 3, false, (.cons (.ret (.call 1 (.cons (.comp2 [1, 2] [2] (.var 2) (.one 1) (.vals (.call 387 (.cons (.var 0) .nil))) .nil (.one 2) (.seq (.var 1)) .nil) .nil))) .nil)⟩
def F_check_groups (z : S) : Fn :=
  ⟨2, 4, false, (.cons (.set (.one 2) (.call 189 (.cons (.var 0) .nil))) (.cons (.for_ (.one 3) (.seq (.var 1)) (.cons (.ite (.cmp .NotIn (.var 3) (.var 2)) (.cons z .nil) .nil) .nil)) .nil))⟩
def F_check_people (z : S) : Fn :=
  ⟨2, 4, false, (.cons (.set (.one 2) (.call 328 (.cons (.var 0) .nil))) (.cons (.for_ (.one 3) (.seq (.var 1)) (.cons (.ite (.cmp .NotIn (.var 3) (.var 2)) (.cons z .nil) .nil) .nil)) .nil))⟩
def F_members_of : Fn :=
  ⟨2, 2, false, (.cons (.ex (.call 148 (.cons (.var 0) (.cons (.tup (.cons (.var 1) .nil)) .nil)))) (.cons (.ret (.sub (.call 387 (.cons (.var 0) .nil)) (.var 1))) .nil))⟩
def F_groups_of : Fn :=
  ⟨2, 4, false, (.cons (.ex (.call 150 (.cons (.var 0) (.cons (.tup (.cons (.var 1) .nil)) .nil)))) (.cons (.ret (.blt .tup (.cons (.comp [2, 3] (.var 2) (.tup [2, 3]) (.seq (.call 0 (.cons (.var 0) .nil))) (.cons (.cmp .In (.var 1) (.var 3)) .nil)) .nil))) .nil))⟩
def F_memberships : Fn :=
  ⟨1, 4, false, (.cons (.ret (.blt .tup (.cons (.comp2 [1, 2, 3] [3] (.tup (.cons (.var 1) (.cons (.var 3) .nil))) (.tup [1, 2]) (.seq (.call 0 (.cons (.var 0) .nil))) .nil (.one 3) (.seq (.var 2)) .nil) .nil))) .nil)⟩
def F_in_both : Fn :=
  ⟨3, 5, false, (.cons (.ex (.call 148 (.cons (.var 0) (.cons (.tup (.cons (.var 1) (.cons (.var 2) .nil))) .nil)))) (.cons (.set (.one 3) (.call 387 (.cons (.var 0) .nil))) (.cons (.ret (.blt .tup (.cons (.comp [4] (.var 4) (.one 4) (.seq (.sub (.var 3) (.var 1))) (.cons (.cmp .In (.var 4) (.sub (.var 3) (.var 2))) .nil)) .nil))) .nil)))⟩
def F_parts : Fn :=
  ⟨1, 11, false, (.cons (.set (.one 1) (.lst .nil)) (.cons (.for_ (.tup [2, 3]) (.seq (.call 0 (.cons (.var 0) .nil))) (.cons (.set (.one 6) (.comp [4] (.var 4) (.one 4) (.seq (.var 1)) (.cons (.blt .any (.cons (.comp [5] (.cmp .In (.var 5) (.sub (.var 4) (.cst (.int (1))))) (.one 5) (.seq (.var 3)) .nil) .nil)) .nil))) (.cons (.set (.one 7) (.comp [4] (.var 4) (.one 4) (.seq (.var 1)) (.cons (.cmp .NotIn (.var 4) (.var 6)) .nil))) (.cons (.set (.one 8) (.tup (.cons (.lst (.cons (.var 2) .nil)) (.cons (.bltl .list (.cons (.var 3) .nil)) .nil)))) (.cons (.for_ (.tup [9, 10]) (.seq (.var 6)) (.cons (.set (.one 8) (.tup (.cons (.bin .Add (.sub (.var 8) (.cst (.int (0)))) (.var 9)) (.cons (.bin .Add (.sub (.var 8) (.cst (.int (1)))) (.var 10)) .nil)))) .nil)) (.cons (.set (.one 1) (.lst (.star (.var 7) (.cons (.var 8) .nil)))) .nil)))))) (.cons (.ret (.call 1 (.cons (.comp [9, 10] (.call 1 (.cons (.var 9) .nil)) (.tup [9, 10]) (.seq (.var 1)) .nil) .nil))) .nil)))⟩
def F_with_group (z : S) : Fn :=
  ⟨3, 3, false, (.cons (.ite (.cmp .In (.var 1) (.call 189 (.cons (.var 0) .nil))) (.cons z .nil) .nil) (.cons (.ret (.blt .tup (.cons (.bltl .sorted (.cons (.lst (.star (.call 0 (.cons (.var 0) .nil)) (.cons (.tup (.cons (.var 1) (.cons (.call 0 (.cons (.var 2) .nil)) .nil))) .nil))) .nil)) .nil))) .nil))⟩
def F_cut_to : Fn :=
  ⟨2, 3, false, (.cons (.ex (.call 148 (.cons (.var 0) (.cons (.var 1) .nil)))) (.cons (.ret (.blt .tup (.cons (.comp [2] (.var 2) (.one 2) (.seq (.call 0 (.cons (.var 0) .nil))) (.cons (.cmp .In (.sub (.var 2) (.cst (.int (0)))) (.var 1)) .nil)) .nil))) .nil))⟩
def F_without_group : Fn :=
  ⟨2, 3, false, (.cons (.ex (.call 148 (.cons (.var 0) (.cons (.tup (.cons (.var 1) .nil)) .nil)))) (.cons (.ret (.blt .tup (.cons (.comp [2] (.var 2) (.one 2) (.seq (.call 0 (.cons (.var 0) .nil))) (.cons (.cmp .NotEq (.sub (.var 2) (.cst (.int (0)))) (.var 1)) .nil)) .nil))) .nil))⟩
def F_with_members : Fn :=
  ⟨3, 5, false, (.cons (.ret (.blt .tup (.cons (.comp [3, 4] (.tup (.cons (.var 3) (.cons (.ite (.cmp .Eq (.var 3) (.var 1)) (.call 1 (.cons (.var 2) .nil)) (.var 4)) .nil))) (.tup [3, 4]) (.seq (.call 0 (.cons (.var 0) .nil))) .nil) .nil))) .nil)⟩
def F_with_member : Fn :=
  ⟨3, 3, false, (.cons (.ret (.call 413 (.cons (.var 0) (.cons (.var 1) (.cons (.lst (.star (.call 297 (.cons (.var 0) (.cons (.var 1) .nil))) (.cons (.var 2) .nil))) .nil))))) .nil)⟩
def F_without_member (z : S) : Fn :=
  ⟨3, 5, false, (.cons (.set (.one 4) (.comp [3] (.var 3) (.one 3) (.seq (.call 297 (.cons (.var 0) (.cons (.var 1) .nil)))) (.cons (.cmp .NotEq (.var 3) (.var 2)) .nil))) (.cons (.ex (.call 150 (.cons (.var 0) (.cons (.tup (.cons (.var 2) .nil)) .nil)))) (.cons (.ite (.cmp .Eq (.blt .len (.cons (.var 4) .nil)) (.cst (.int (0)))) (.cons z .nil) .nil) (.cons (.ret (.call 413 (.cons (.var 0) (.cons (.var 1) (.cons (.var 4) .nil))))) .nil))))⟩
def F_groups_renamed (z : S) : Fn :=
  ⟨2, 7, false, (.cons (.set (.one 2) (.blt .dict (.cons (.call 0 (.cons (.var 1) .nil)) .nil))) (.cons (.set (.one 5) (.comp [3, 4] (.tup (.cons (.get2 (.var 2) (.var 3) (.var 3)) (.cons (.var 4) .nil))) (.tup [3, 4]) (.seq (.call 0 (.cons (.var 0) .nil))) .nil)) (.cons (.ite (.cmp .Lt (.blt .len (.cons (.call 1 (.cons (.comp [6] (.sub (.var 6) (.cst (.int (0)))) (.one 6) (.seq (.var 5)) .nil) .nil)) .nil)) (.blt .len (.cons (.var 5) .nil))) (.cons z .nil) .nil) (.cons (.ret (.blt .tup (.cons (.bltl .sorted (.cons (.var 5) .nil)) .nil))) .nil))))⟩
def F_people_renamed (z : S) : Fn :=
  ⟨2, 8, false, (.cons (.par [(2, false), (3, false)] (.cons (.blt .dict (.cons (.call 0 (.cons (.var 1) .nil)) .nil)) (.cons (.call 328 (.cons (.var 0) .nil)) .nil))) (.cons (.ite (.cmp .Lt (.blt .len (.cons (.call 1 (.cons (.comp [4] (.get2 (.var 2) (.var 4) (.var 4)) (.one 4) (.seq (.var 3)) .nil) .nil)) .nil)) (.blt .len (.cons (.var 3) .nil))) (.cons z .nil) .nil) (.cons (.ret (.blt .tup (.cons (.comp [5, 6] (.tup (.cons (.var 5) (.cons (.call 1 (.cons (.comp [7] (.get2 (.var 2) (.var 7) (.var 7)) (.one 7) (.seq (.var 6)) .nil) .nil)) .nil))) (.tup [5, 6]) (.seq (.call 0 (.cons (.var 0) .nil))) .nil) .nil))) .nil)))⟩
def F_turned : Fn :=
  ⟨1, 2, false, (.cons (.ret (.blt .tup (.cons (.comp [1] (.tup (.cons (.var 1) (.cons (.call 190 (.cons (.var 0) (.cons (.var 1) .nil))) .nil))) (.one 1) (.seq (.call 328 (.cons (.var 0) .nil))) .nil) .nil))) .nil)⟩
end Mi
end

section
set_option maxRecDepth 100000
/-! MiBook: contracts of the package's books. -/
namespace Mi
open PySem
open En (en)
abbrev Book := List (Nm × List Nm)
/-- the defs of books -/
structure LibB (P : Prog) : Prop where
  tupled : P.fn? 0 = some F_tupled
  set_of : P.fn? 1 = some F_set_of
  table_of : P.fn? 387 = some F_table_of
  groups : P.fn? 189 = some F_groups
  people : P.fn? 328 = some F_people
  check_groups : ∃ z, P.fn? 148 = some (F_check_groups z)
  check_people : ∃ z, P.fn? 150 = some (F_check_people z)
  members_of : P.fn? 297 = some F_members_of
  groups_of : P.fn? 190 = some F_groups_of
  memberships : P.fn? 298 = some F_memberships
  in_both : P.fn? 206 = some F_in_both
/-- sizes; no group twice -/
structure BkS (b : Book) : Prop where
  len : b.length ≤ 1000
  mem : ∀ g ∈ b, g.2.length ≤ 1000
  nd : (b.map (·.1)).Nodup
def groupsT (b : Book) : List Nm := b.map (·.1)
def peopleT (b : Book) : List Nm := setOf (b.flatMap (·.2))
def tabT (b : Book) : List (PyData × PyData) := b.map fun g => (en g.1, en g.2)
def membersT (b : Book) (g : Nm) : List Nm := (b.lookup g).getD []
def homesT (b : Book) (p : Nm) : List Nm := (b.filter fun g => decide (p ∈ g.2)).map (·.1)
def tiesT (b : Book) : List (Nm × Nm) := b.flatMap fun g => g.2.map fun p => (g.1, p)
def bothT (b : Book) (x y : Nm) : List Nm := (membersT b x).filter fun p => decide (p ∈ membersT b y)
theorem keq_nm (x y : Nm) : keqD (en x) (en y) = decide (x = y) := by
  show keq1 (.str x.s) (.str y.s) = _
  rw [keq1]
  by_cases h : x = y
  · subst h; simp
  · have : x.s ≠ y.s := fun e => h (by cases x; cases y; cases e; rfl)
    simp [h, this]
theorem kind_nm {α : Type} (f : α → Nm) (g : α → PyData) (xs : List α) : kindT (xs.map fun a => (en (f a), g a)) = false := by cases xs <;> rfl
theorem look_nm {α : Type} (f : α → Nm) (g : α → PyData) (x : Nm) : ∀ xs : List α, lookD (xs.map fun a => (en (f a), g a)) (en x) = (xs.find? fun a => decide (f a = x)).map g
  | [] => rfl
  | a :: r => by
    rw [List.map_cons, lookD, keq_nm, List.find?_cons]
    by_cases h : f a = x
    · simp [h]
    · simp [h, look_nm f g x r]
theorem put_new_nm {α : Type} (f : α → Nm) (g : α → PyData) (x : Nm) (v : PyData) {xs : List α} (h : x ∉ xs.map f) : putD (xs.map fun a => (en (f a), g a)) (en x) v = (xs.map fun a => (en (f a), g a)) ++ [(en x, v)] := by
  have : ((xs.map fun a => (en (f a), g a)).any fun p => keqD p.1 (en x)) = false := by
    rw [List.any_map, List.any_eq_false]
    intro a ha
    show ¬ keqD (en (f a)) (en x) = true
    rw [keq_nm, decide_eq_true_iff]
    exact fun e => h (by rw [← e]; exact List.mem_map_of_mem ha)
  unfold putD
  rw [this]
  rfl
theorem merge_nm {α : Type} (f : α → Nm) (g : α → PyData) : ∀ (ys xs : List α), ((xs ++ ys).map f).Nodup → mergeD (xs.map fun a => (en (f a), g a)) (ys.map fun a => (en (f a), g a)) = (xs ++ ys).map fun a => (en (f a), g a)
  | [], xs, _ => by rw [List.append_nil]; rfl
  | y :: ys, xs, h => by
    rw [List.map_cons, mergeD, put_new_nm f g (f y) (g y)]
    · have := merge_nm f g ys (xs ++ [y]) (by rw [List.append_assoc]; exact h)
      rw [List.map_append] at this
      rw [show (xs.map fun a => (en (f a), g a)) ++ [(en (f y), g y)] = (xs.map fun a => (en (f a), g a)) ++ [y].map fun a => (en (f a), g a) from rfl, this, List.append_assoc]
      rfl
    · rw [List.map_append, List.map_cons, List.nodup_append] at h
      intro hm
      exact h.2.2 _ hm _ (List.mem_cons_self ..) rfl
theorem pairs_nm {α : Type} (f : α → Nm) (g : α → PyData) : ∀ xs : List α, pairsD (xs.map fun a => .tuple [en (f a), g a]) = some (xs.map fun a => (en (f a), g a))
  | [] => rfl
  | a :: r => by
    rw [List.map_cons]
    show (if keyD (en (f a)) then _ else _) = _
    rw [show keyD (en (f a)) = true from rfl, if_pos rfl, pairs_nm f g r]
    rfl
/-- dict(..) of pairs with unlike names -/
theorem dict_nm {α : Type} (f : α → Nm) (g : α → PyData) (xs : List α) (h : (xs.map f).Nodup) (b : Bool) (s : Sto) : bltX .dict [.v (sq b (xs.map fun a => .tuple [en (f a), g a]))] s = .ok (.v (.dict (xs.map fun a => (en (f a), g a)))) s := by
  have := merge_nm f g xs [] h
  rw [List.map_nil, List.nil_append] at this
  cases b <;> simp [sq, bltX, rdAll, rd, bltD, pairs_nm, this]
theorem mem_ten {α : Type} [En α] (x : α) (ys : List α) [DecidableEq α] (h : En.dep α ≤ 63) {s : Sto} : cmpX .In (.v (en x)) (.v (en ys)) s = .ok (.v (.bool (decide (x ∈ ys)))) s := in_t x ys h
theorem nmem_ten {α : Type} [En α] (x : α) (ys : List α) [DecidableEq α] (h : En.dep α ≤ 63) {s : Sto} : cmpX .NotIn (.v (en x)) (.v (en ys)) s = .ok (.v (.bool (!decide (x ∈ ys)))) s := nin_t x ys h
@[simp] theorem mem_nm (x : Nm) (ys : List Nm) {s : Sto} : cmpX .In (.v (en x)) (.v (en ys)) s = .ok (.v (.bool (decide (x ∈ ys)))) s := in_t x ys
@[simp] theorem nmem_nm (x : Nm) (ys : List Nm) {s : Sto} : cmpX .NotIn (.v (en x)) (.v (en ys)) s = .ok (.v (.bool (!decide (x ∈ ys)))) s := nin_t x ys
theorem tup_map {α β : Type} [En β] (f : α → β) (xs : List α) : PyData.tuple (xs.map fun a => en (f a)) = en (xs.map f) := by
  show _ = PyData.tuple ((xs.map f).map en)
  rw [List.map_map]
  rfl
theorem c_set_nm {P : Prog} (hf : P.fn? 1 = some F_set_of) (xs : List Nm) (hl : xs.length ≤ 16777216) (k : Nat) (s : Sto) : callD P (k + 1) 1 [.v (.list (xs.map en))] s = .ok (.v (en (setOf xs))) s :=
  c_set_of hf true xs (by decide) hl (.inr fun x _ => Atom.flat x) k s
theorem flat_len {α β : Type} (f : α → List β) (n : Nat) : ∀ (xs : List α), (∀ x ∈ xs, (f x).length ≤ n) → (xs.flatMap f).length ≤ xs.length * n
  | [], _ => by simp
  | x :: xs, h => by
    rw [List.flatMap_cons, List.length_append, List.length_cons, Nat.add_mul, Nat.one_mul]
    have := flat_len f n xs fun y hy => h y (List.mem_cons_of_mem _ hy)
    have := h x (List.mem_cons_self ..)
    omega
theorem BkS.flat {b : Book} (h : BkS b) : (b.flatMap (·.2)).length ≤ 1000000 := by
  have := flat_len (·.2) 1000 b h.mem
  have := h.len
  have : b.length * 1000 ≤ 1000 * 1000 := Nat.mul_le_mul_right _ h.len
  omega
theorem call_nx {P : Prog} {k f : Nat} {fn : Fn} {as : List PyData} (hf : P.fn? f = some fn) (hk : fn.keep = false) (hl : as.length = fn.params)
    (h : ∃ ρ s', exs (cxAt P k) fn.body (as.map (fun d => some (.v d)) ++ List.replicate (fn.slots - as.length) none) [] = .ok (.nx ρ) s') (s : Sto) : callD P (k + 1) f (as.map .v) s = .ok (.v .none) s := by
  obtain ⟨ρ, s', h⟩ := h
  have hv : ∀ l : List PyData, allV (l.map .v) = true := fun l => by
    induction l with
    | nil => rfl
    | cons d r ih => exact ih
  rw [callD, hf]
  show runAt _ fn _ s = _
  rw [runAt, hv, hk]
  simp only [Bool.not_false, Bool.and_true, if_true]
  rw [runFn, if_pos (by rw [List.length_map]; exact hl), List.map_map, List.length_map]
  rw [show (some ∘ Xv.v) = fun d : PyData => some (Xv.v d) from rfl, h]
  rfl
section
variable {P : Prog} (L : LibB P) {d : PyData} {b : Book} {n : Nat}
include L
theorem c_table_of (I : Is n d b) (hB : BkS b) (k : Nat) (s : Sto) : callD P (k + n + 2) 387 [.v d] s = .ok (.v (.dict (tabT b))) s := by
  refine call_ret (as := [_]) (x := .v (.dict (tabT b))) (s' := []) L.table_of rfl rfl ?_ rfl s
  have := dict_nm (fun g : Nm × List Nm => g.1) (fun g => en g.2) b hB.nd false []
  simp [F_table_of, I.c L.tupled]
  rw [show bltX .dict [Xv.v (en b)] [] = _ from this]
  rfl
theorem c_groups (I : Is n d b) (hB : BkS b) (k : Nat) (s : Sto) : callD P (k + n + 3) 189 [.v d] s = .ok (.v (en (groupsT b))) s := by
  refine call_ret (as := [_]) (x := .v (en (groupsT b))) (s' := []) L.groups rfl rfl ?_ rfl s
  have hk : kindT (tabT b) = false := kind_nm (fun g : Nm × List Nm => g.1) (fun g => en g.2) b
  have : bltX .tup [.v (.dict (tabT b))] [] = .ok (.v (en (groupsT b))) [] := by
    simp [bltX, rdAll, rd, bltD, hk]
    show PyData.tuple ((tabT b).map (·.1)) = .tuple ((groupsT b).map en)
    rw [tabT, groupsT, List.map_map, List.map_map]
    rfl
  simp [F_groups, c_table_of L I hB, this]
theorem c_people (I : Is n d b) (hB : BkS b) (k : Nat) (s : Sto) : callD P (k + n + 3) 328 [.v d] s = .ok (.v (en (peopleT b))) s := by
  refine call_ret (as := [_]) (x := .v (en (peopleT b))) (s' := []) L.people rfl rfl ?_ rfl s
  have hk : kindT (tabT b) = false := kind_nm (fun g : Nm × List Nm => g.1) (fun g => en g.2) b
  have hv : ∀ s, kVals (.v (.dict (tabT b))) s = .ok (.stat (b.map fun g => en g.2)) s := fun s => by
    simp only [kVals, hk]
    rw [tabT, List.map_map]
    rfl
  simp [F_people, c_table_of L I hB, hv]
  rw [turns_ok (g := fun g : Nm × List Nm => en g.2) (fun g => g.2.map en)]
  · rw [← List.map_flatMap]
    simp only [calm_ok', R.bind_ok]
    rw [madeL_ok (by rw [List.length_map]; exact Nat.le_trans hB.flat (by decide))]
    have := c_set_nm L.set_of (b.flatMap (·.2)) (Nat.le_trans hB.flat (by decide)) (k + n + 1) []
    simp [this, peopleT]
  · intro g hg
    simp
    rw [turns_all (en : Nm → PyData)]
    intro x hx
    simp
theorem c_check_groups (I : Is n d b) (hB : BkS b) {some : List Nm} (h : ∀ x ∈ some, x ∈ groupsT b) (k : Nat) (s : Sto) : callD P (k + n + 4) 148 [.v d, .v (en some)] s = .ok (.v .none) s := by
  obtain ⟨z, hz⟩ := L.check_groups
  refine call_nx (as := [_, _]) hz rfl rfl ?_ s
  have hg := c_groups L I hB
  have key : ∀ r : Fl → Sto → R Fl, (∀ ρ s, r (.nx ρ) s = .ok (.nx ρ) s) → ∃ ρ s', (forS (bodyF (cxAt P (k + n + 3)) (.one 3) (.cons (.ite (.cmp .NotIn (.var 3) (.var 2)) (.cons z .nil) .nil) .nil)) (some.map en) [Option.some (.v d), Option.some (.v (en some)), Option.some (.v (en (groupsT b))), none] []).bind r = .ok (.nx ρ) s' := by
    intro r hr
    refine for_fold (fun pre ρ s => ∃ o, ρ = [Option.some (.v d), Option.some (.v (en some)), Option.some (.v (en (groupsT b))), o]) (fun q => ∃ ρ s', q = .ok (.nx ρ) s') some ⟨_, rfl⟩ ?_ ?_
    · rintro pre x post he _ s ⟨o, rfl⟩
      have hx : x ∈ groupsT b := h x (by rw [he]; simp)
      exact ⟨_, _, by simp [hx]; exact ⟨rfl, rfl⟩, _, rfl⟩
    · rintro ρ s ⟨o, rfl⟩
      exact ⟨_, _, hr _ _⟩
  obtain ⟨ρ, s', e⟩ := key (kNext (cxAt P (k + n + 3)) .nil) (fun ρ s => by simp)
  exact ⟨ρ, s', by simp [F_check_groups, hg]; exact e⟩
theorem c_check_people (I : Is n d b) (hB : BkS b) {some : List Nm} (h : ∀ x ∈ some, x ∈ peopleT b) (k : Nat) (s : Sto) : callD P (k + n + 4) 150 [.v d, .v (en some)] s = .ok (.v .none) s := by
  obtain ⟨z, hz⟩ := L.check_people
  refine call_nx (as := [_, _]) hz rfl rfl ?_ s
  have hg := c_people L I hB
  have key : ∀ r : Fl → Sto → R Fl, (∀ ρ s, r (.nx ρ) s = .ok (.nx ρ) s) → ∃ ρ s', (forS (bodyF (cxAt P (k + n + 3)) (.one 3) (.cons (.ite (.cmp .NotIn (.var 3) (.var 2)) (.cons z .nil) .nil) .nil)) (some.map en) [Option.some (.v d), Option.some (.v (en some)), Option.some (.v (en (peopleT b))), none] []).bind r = .ok (.nx ρ) s' := by
    intro r hr
    refine for_fold (fun pre ρ s => ∃ o, ρ = [Option.some (.v d), Option.some (.v (en some)), Option.some (.v (en (peopleT b))), o]) (fun q => ∃ ρ s', q = .ok (.nx ρ) s') some ⟨_, rfl⟩ ?_ ?_
    · rintro pre x post he _ s ⟨o, rfl⟩
      have hx : x ∈ peopleT b := h x (by rw [he]; simp)
      exact ⟨_, _, by simp [hx]; exact ⟨rfl, rfl⟩, _, rfl⟩
    · rintro ρ s ⟨o, rfl⟩
      exact ⟨_, _, hr _ _⟩
  obtain ⟨ρ, s', e⟩ := key (kNext (cxAt P (k + n + 3)) .nil) (fun ρ s => by simp)
  exact ⟨ρ, s', by simp [F_check_people, hg]; exact e⟩
omit L in
theorem look_tab (g : Nm) : lookD (tabT b) (en g) = (b.find? fun p => decide (p.1 = g)).map fun p => en p.2 := look_nm (fun p : Nm × List Nm => p.1) (fun p => en p.2) g b
omit L in
theorem find_lookup (g : Nm) : ∀ b : Book, (b.find? fun p => decide (p.1 = g)).map (·.2) = b.lookup g
  | [] => rfl
  | p :: r => by
    obtain ⟨x, ms⟩ := p
    rw [List.find?_cons, List.lookup_cons]
    by_cases h : x = g
    · subst h; simp
    · have h2 : (g == x) = false := by simp [Ne.symm h]
      simp [h, h2, find_lookup g r]
omit L in
theorem tab_get {g : Nm} (h : g ∈ groupsT b) : lookD (tabT b) (en g) = some (en (membersT b g)) := by
  rw [look_tab, membersT, ← find_lookup]
  cases e : b.find? fun p => decide (p.1 = g) with
  | some p => rfl
  | none =>
    rw [List.find?_eq_none] at e
    obtain ⟨p, hp, rfl⟩ := List.mem_map.mp h
    exact absurd (e p hp) (by simp)
omit L in
theorem sub_tab {g : Nm} (h : g ∈ groupsT b) (s : Sto) : subX (.v (.dict (tabT b))) (.v (en g)) s = .ok (.v (en (membersT b g))) s := by
  have hk : kindT (tabT b) = false := kind_nm (fun g : Nm × List Nm => g.1) (fun g => en g.2) b
  have h2 : keyOk false (en g) = true := rfl
  simp [subX, rd, ixD, hk, h2, tab_get h]
theorem c_members_of (I : Is n d b) (hB : BkS b) {g : Nm} (h : g ∈ groupsT b) (k : Nat) (s : Sto) : callD P (k + n + 5) 297 [.v d, .v (en g)] s = .ok (.v (en (membersT b g))) s := by
  refine call_ret (as := [_, _]) (x := .v (en (membersT b g))) (s' := []) L.members_of rfl rfl ?_ rfl s
  have h1 := c_check_groups L I hB (some := [g]) (fun x hx => by cases List.mem_singleton.mp hx; exact h) k
  have h2 := c_table_of L I hB (k + 2)
  rw [show k + 2 + n + 2 = k + n + 4 by omega] at h2
  rw [show (en [g] : PyData) = .tuple [en g] from rfl] at h1
  simp [F_members_of, madeT_ok, h1, h2, sub_tab h]
theorem c_groups_of (I : Is n d b) (hB : BkS b) {p : Nm} (h : p ∈ peopleT b) (k : Nat) (s : Sto) : callD P (k + n + 5) 190 [.v d, .v (en p)] s = .ok (.v (en (homesT b p))) s := by
  refine call_ret (as := [_, _]) (x := .v (en (homesT b p))) (s' := []) L.groups_of rfl rfl ?_ rfl s
  have h1 := c_check_people L I hB (some := [p]) (fun x hx => by cases List.mem_singleton.mp hx; exact h) k
  have h2 := I.c L.tupled (k + 3)
  rw [show k + 3 + n + 1 = k + n + 4 by omega] at h2
  rw [show (en [p] : PyData) = .tuple [en p] from rfl] at h1
  simp [F_groups_of, madeT_ok, h1, h2]
  rw [turns_if (fun g : Nm × List Nm => decide (p ∈ g.2)) (fun g => en g.1)]
  · simp only [calm_ok', R.bind_ok]
    rw [madeL_ok (by rw [List.length_map]; exact Nat.le_trans (List.length_filter_le ..) (by have := hB.len; omega))]
    simp [homesT]
    exact tup_map _ _
  · intro g hg
    rw [c_bind (by rw [show (en g : PyData) = .tuple [en g.1, en g.2] from rfl]; exact b_two ..)]
    simp
theorem c_memberships (I : Is n d b) (hB : BkS b) (k : Nat) (s : Sto) : callD P (k + n + 2) 298 [.v d] s = .ok (.v (en (tiesT b))) s := by
  refine call_ret (as := [_]) (x := .v (en (tiesT b))) (s' := []) L.memberships rfl rfl ?_ rfl s
  have h2 := I.c L.tupled k
  simp [F_memberships, h2]
  rw [turns_ok (fun g : Nm × List Nm => g.2.map fun p => en (g.1, p))]
  · have e : (b.flatMap fun g => g.2.map fun p => (en (g.1, p) : PyData)) = (tiesT b).map en := by
      rw [tiesT, List.map_flatMap]
      simp [List.map_map]
      rfl
    rw [e]
    simp only [calm_ok', R.bind_ok]
    rw [madeL_ok]
    · simp
      rfl
    · rw [List.length_map, tiesT]
      have := flat_len (fun g : Nm × List Nm => g.2.map fun p => (g.1, p)) 1000 b (fun g hg => by rw [List.length_map]; exact hB.mem g hg)
      have h3 : b.length * 1000 ≤ 1000 * 1000 := Nat.mul_le_mul_right _ hB.len
      omega
  · intro g hg
    rw [c2_bind (by rw [show (en g : PyData) = .tuple [en g.1, en g.2] from rfl]; exact b_two ..)]
    simp
    rw [turns_all (fun p : Nm => (en (g.1, p) : PyData))]
    intro p hp
    simp [madeT_ok]
    rfl
theorem c_in_both (I : Is n d b) (hB : BkS b) {x y : Nm} (hx : x ∈ groupsT b) (hy : y ∈ groupsT b) (k : Nat) (s : Sto) : callD P (k + n + 5) 206 [.v d, .v (en x), .v (en y)] s = .ok (.v (en (bothT b x y))) s := by
  refine call_ret (as := [_, _, _]) (x := .v (en (bothT b x y))) (s' := []) L.in_both rfl rfl ?_ rfl s
  have h1 := c_check_groups L I hB (some := [x, y]) (fun z hz => by
    rcases List.mem_cons.mp hz with rfl | hz
    · exact hx
    · cases List.mem_singleton.mp hz; exact hy) k
  have h2 := c_table_of L I hB (k + 2)
  rw [show k + 2 + n + 2 = k + n + 4 by omega] at h2
  rw [show (en [x, y] : PyData) = .tuple [en x, en y] from rfl] at h1
  simp [F_in_both, madeT_ok, h1, h2, sub_tab hx]
  rw [turns_if (fun p : Nm => decide (p ∈ membersT b y)) (en : Nm → PyData)]
  · simp only [calm_ok', R.bind_ok]
    rw [madeL_ok]
    · simp [bothT]
      rfl
    · rw [List.length_map]
      refine Nat.le_trans (List.length_filter_le ..) ?_
      unfold membersT
      cases e : b.lookup x with
      | none => simp
      | some ms =>
        have : (x, ms) ∈ b := by
          rw [← find_lookup] at e
          obtain ⟨p, hp, rfl⟩ := Option.map_eq_some_iff.mp e
          have h4 := List.find?_some hp
          have h5 := List.mem_of_find?_eq_some hp
          simp at h4
          rw [← h4]
          exact h5
        have := hB.mem _ this
        simp at this ⊢
        omega
  · intro p hp
    simp [sub_tab hy]
end
end Mi
end

section
set_option maxRecDepth 100000
/-! MiBookX: names that a book has not: the errors. -/
namespace Mi
open PySem
open En (en)
structure LibX (P : Prog) : Prop where
  b : LibB P
  cg : P.fn? 148 = some (F_check_groups (.raise "NoGroup" (.cons (.var 3) .nil)))
  cp : P.fn? 150 = some (F_check_people (.raise "NoPerson" (.cons (.var 3) .nil)))
section
variable {P : Prog} (L : LibX P) {n : Nat} {d : PyData} {b : Book}
include L
theorem x_group (I : Is n d b) (hB : BkS b) {x : Nm} {r : List PyData} (hx : x ∉ groupsT b) (k : Nat) (s : Sto) : callD P (k + n + 4) 148 [.v d, .v (.tuple (en x :: r))] s = .exc "NoGroup" [en x] s := by
  have hg := c_groups L.b I hB
  refine call_exc (as := [_, _]) (s' := []) L.cg rfl rfl ?_ s
  simp [F_check_groups, hg, forS, hx, fz]
theorem x_group2 (I : Is n d b) (hB : BkS b) {x y : Nm} {r : List PyData} (hy : y ∈ groupsT b) (hx : x ∉ groupsT b) (k : Nat) (s : Sto) : callD P (k + n + 4) 148 [.v d, .v (.tuple (en y :: en x :: r))] s = .exc "NoGroup" [en x] s := by
  have hg := c_groups L.b I hB
  refine call_exc (as := [_, _]) (s' := []) L.cg rfl rfl ?_ s
  simp [F_check_groups, hg, forS, hx, hy, fz]
theorem x_person (I : Is n d b) (hB : BkS b) {x : Nm} {r : List PyData} (hx : x ∉ peopleT b) (k : Nat) (s : Sto) : callD P (k + n + 4) 150 [.v d, .v (.tuple (en x :: r))] s = .exc "NoPerson" [en x] s := by
  have hg := c_people L.b I hB
  refine call_exc (as := [_, _]) (s' := []) L.cp rfl rfl ?_ s
  simp [F_check_people, hg, forS, hx, fz]
theorem x_members_of (I : Is n d b) (hB : BkS b) {g : Nm} (h : g ∉ groupsT b) (k : Nat) (s : Sto) : callD P (k + n + 5) 297 [.v d, .v (en g)] s = .exc "NoGroup" [en g] s := by
  refine call_exc (as := [_, _]) (s' := []) L.b.members_of rfl rfl ?_ s
  have h1 := x_group L I hB (r := []) h k
  simp [F_members_of, madeT_ok, h1]
theorem x_groups_of (I : Is n d b) (hB : BkS b) {p : Nm} (h : p ∉ peopleT b) (k : Nat) (s : Sto) : callD P (k + n + 5) 190 [.v d, .v (en p)] s = .exc "NoPerson" [en p] s := by
  refine call_exc (as := [_, _]) (s' := []) L.b.groups_of rfl rfl ?_ s
  have h1 := x_person L I hB (r := []) h k
  simp [F_groups_of, madeT_ok, h1]
theorem x_in_both (I : Is n d b) (hB : BkS b) {x y : Nm} (hx : x ∉ groupsT b) (k : Nat) (s : Sto) : callD P (k + n + 5) 206 [.v d, .v (en x), .v (en y)] s = .exc "NoGroup" [en x] s := by
  refine call_exc (as := [_, _, _]) (s' := []) L.b.in_both rfl rfl ?_ s
  have h1 := x_group L I hB (r := [en y]) hx k
  simp [F_in_both, madeT_ok, h1]
theorem x_in_both2 (I : Is n d b) (hB : BkS b) {x y : Nm} (hx : x ∈ groupsT b) (hy : y ∉ groupsT b) (k : Nat) (s : Sto) : callD P (k + n + 5) 206 [.v d, .v (en x), .v (en y)] s = .exc "NoGroup" [en y] s := by
  refine call_exc (as := [_, _, _]) (s' := []) L.b.in_both rfl rfl ?_ s
  have h1 := x_group2 L I hB (r := []) hx hy k
  simp [F_in_both, madeT_ok, h1]
end
end Mi
end

section
set_option maxRecDepth 100000
/-! MiLaw: contracts of the laws' own draws. -/
namespace Mi
open PySem
open En (en)
/-- a def handed a cell: what it answers -/
theorem call_c {P : Prog} {k f : Nat} {fn : Fn} {as : List Xv} {d : PyData} {s s' : Sto} (hf : P.fn? f = some fn) (hk : fn.keep = false) (hv : allV as = false) (hl : as.length = fn.params)
    (h : exs (cxAt P k) fn.body (as.map some ++ List.replicate (fn.slots - as.length) none) s = .ok (.rt (.v d)) s') : callD P (k + 1) f as s = .ok (.v d) (s'.take s.length) := by
  rw [callD, hf]
  show runAt _ fn _ s = _
  rw [runAt, hv]
  show runFn (cxAt P k) fn as s = _
  rw [runFn, if_pos hl, h]
  show back fn.keep s.length (.v d) s' = _
  rw [hk]
  rfl
/-- .. that hands back a cell of its own: its list -/
theorem call_cc {P : Prog} {k f : Nat} {fn : Fn} {as : List Xv} {xs : List PyData} {m : Nat} {s s' : Sto} (hf : P.fn? f = some fn) (hk : fn.keep = false) (hv : allV as = false) (hl : as.length = fn.params)
    (h : exs (cxAt P k) fn.body (as.map some ++ List.replicate (fn.slots - as.length) none) s = .ok (.rt (.c m)) s') (hm : s.length ≤ m) (he : s'[m]? = some (.lst xs)) : callD P (k + 1) f as s = .ok (.v (.list xs)) (s'.take s.length) := by
  rw [callD, hf]
  show runAt _ fn _ s = _
  rw [runAt, hv]
  show runFn (cxAt P k) fn as s = _
  rw [runFn, if_pos hl, h]
  show back fn.keep s.length (.c m) s' = _
  rw [hk]
  unfold back
  rw [if_neg (by decide)]
  simp only
  rw [if_neg (by omega)]
  simp [rd, he]
/-- a def that makes a cell -/
theorem call_k {P : Prog} {k f : Nat} {fn : Fn} {as : List Xv} {xs : List PyData} {m : Nat} {s s' : Sto} (hf : P.fn? f = some fn) (hk : fn.keep = true) (hl : as.length = fn.params)
    (h : exs (cxAt P k) fn.body (as.map some ++ List.replicate (fn.slots - as.length) none) s = .ok (.rt (.c m)) s') (hm : s.length ≤ m) (he : s'[m]? = some (.lst xs)) : callD P (k + 1) f as s = .ok (.c s.length) (s'.take s.length ++ [.lst xs]) := by
  rw [callD, hf]
  show runAt _ fn _ s = _
  rw [runAt, hk]
  show (if (allV as && !true) = true then _ else runFn (cxAt P k) fn as s) = _
  rw [if_neg (by simp), runFn, if_pos hl, h]
  show back fn.keep s.length (.c m) s' = _
  rw [hk]
  unfold back
  rw [if_pos rfl]
  simp only
  rw [if_pos hm, he]
theorem set_take (s : Sto) (b : Nat) (c : Cell) : (s.set b c).take s.length = s.set b c := by
  rw [List.take_of_length_le]
  rw [List.length_set]
  exact Nat.le_refl _
/-! ### draws -/
structure Bx where
  a : Int
  m : Int
  c : Int
def Bx.cell (b : Bx) : Cell := .lst [.int b.a, .int b.m, .int b.c]
def takeF (b : Bx) (n : Int) : Int := if 0 < b.a then b.a % n else
  let c := b.c + 1
  let once := ((b.m + 48271 * c) * (39373 + c)) % 2147483647
  let far := once % 40009 + 7
  let twice := ((once + c + b.m / 1000003) * far) % 2147483629
  ((twice * 48271 + once) % 2147483587 / 64) % n
def nextF (b : Bx) (n : Int) : Bx := if 0 < b.a then { b with a := b.a / n } else { b with c := b.c + 1 }
theorem takeF_nn (b : Bx) {n : Int} (h : 0 < n) : 0 ≤ takeF b n := by
  unfold takeF
  split
  · exact Int.emod_nonneg _ (by omega)
  · exact Int.emod_nonneg _ (by omega)
theorem takeF_lt (b : Bx) {n : Int} (h : 0 < n) : takeF b n < n := by
  unfold takeF
  split
  · exact Int.emod_lt_of_pos _ h
  · exact Int.emod_lt_of_pos _ h
/-- fewer than n draws so far -/
def Bx.le (b : Bx) (n : Int) : Prop := 0 ≤ b.c ∧ b.c ≤ n
theorem Bx.le.next {b : Bx} {n : Int} (h : b.le n) (j : Int) : (nextF b j).le (n + 1) := by
  unfold nextF
  split
  · exact ⟨h.1, by have := h.2; show b.c ≤ _; omega⟩
  · exact ⟨by have := h.1; show 0 ≤ b.c + 1; omega, by have := h.2; show b.c + 1 ≤ _; omega⟩
theorem Bx.le.mono {b : Bx} {n m : Int} (h : b.le n) (e : n ≤ m) : b.le m := ⟨h.1, Int.le_trans h.2 e⟩
def F_take : Fn :=
  ⟨2, 6, false, (.cons (.ite (.cmp .Gt (.sub (.var 0) (.cst (.int (0)))) (.cst (.int (0)))) (.cons (.set (.one 2) (.bin .Mod (.blt .int (.cons (.sub (.var 0) (.cst (.int (0)))) .nil)) (.var 1))) (.cons (.setI 0 (.cst (.int (0))) (.bin .FloorDiv (.sub (.var 0) (.cst (.int (0)))) (.var 1))) (.cons (.ret (.var 2)) .nil))) .nil) (.cons (.setI 0 (.cst (.int (2))) (.bin .Add (.sub (.var 0) (.cst (.int (2)))) (.cst (.int (1))))) (.cons (.set (.one 3) (.bin .Mod (.blt .int (.cons (.bin .Mult (.bin .Add (.sub (.var 0) (.cst (.int (1)))) (.bin .Mult (.cst (.int (48271))) (.sub (.var 0) (.cst (.int (2)))))) (.bin .Add (.cst (.int (39373))) (.sub (.var 0) (.cst (.int (2)))))) .nil)) (.cst (.int (2147483647))))) (.cons (.set (.one 4) (.bin .Add (.bin .Mod (.blt .int (.cons (.var 3) .nil)) (.cst (.int (40009)))) (.cst (.int (7))))) (.cons (.set (.one 5) (.bin .Mod (.blt .int (.cons (.bin .Mult (.bin .Add (.bin .Add (.var 3) (.sub (.var 0) (.cst (.int (2))))) (.bin .FloorDiv (.sub (.var 0) (.cst (.int (1)))) (.cst (.int (1000003))))) (.var 4)) .nil)) (.cst (.int (2147483629))))) (.cons (.ret (.bin .Mod (.blt .int (.cons (.bin .FloorDiv (.bin .Mod (.blt .int (.cons (.bin .Add (.bin .Mult (.var 5) (.cst (.int (48271)))) (.var 3)) .nil)) (.cst (.int (2147483587)))) (.cst (.int (64)))) .nil)) (.var 1))) .nil))))))⟩
theorem mulOk_r {i j : Int} (h1 : -(2 ^ 64) < j) (h2 : j < 2 ^ 64) : mulOk i j = true := by
  unfold mulOk
  rw [Bool.or_eq_true]
  exact .inr (decide_eq_true ⟨h1, h2⟩)
theorem mulOk_l {i j : Int} (h1 : -(2 ^ 64) < i) (h2 : i < 2 ^ 64) : mulOk i j = true := by
  unfold mulOk
  rw [Bool.or_eq_true]
  exact .inl (decide_eq_true ⟨h1, h2⟩)
theorem setI_c {n m : Nat} {j : Int} {xs : List PyData} {d : PyData} {ρ : Rho} {s : Sto} (h : s[n]? = some (.lst xs)) (h2 : L2.ixN xs.length j = some m) : setIX n (.v (.int j)) d ρ s = .ok (.nx ρ) (s.set n (.lst (xs.set m d))) := by simp [setIX, h, h2]
theorem c_take {P : Prog} (h8 : P.fn? 8 = some F_take) {b : Nat} {bx : Bx} {s : Sto} (hb : s[b]? = some bx.cell) {n : Int} (hn : 0 < n) (hn2 : n < 1073741824) (hc : bx.le 1000000000) (k : Nat) :
    callD P (k + 1) 8 [.c b, .v (.int n)] s = .ok (.v (.int (takeF bx n))) (s.set b (nextF bx n).cell) := by
  have hlt : b < s.length := (List.getElem?_eq_some_iff.mp hb).1
  have hb' : s[b]? = some (.lst [.int bx.a, .int bx.m, .int bx.c]) := hb
  have key : exs (cxAt P k) F_take.body ([Xv.c b, .v (.int n)].map some ++ List.replicate (F_take.slots - 2) none) s = .ok (.rt (.v (.int (takeF bx n)))) (s.set b (nextF bx n).cell) := by
    have c0 := hc.1
    have c1 := hc.2
    by_cases ha : 0 < bx.a
    · simp [F_take, sub_c hb', ha, a_mod _ _ hn, a_fdiv _ _ hn hn2, setI_c hb', L2.ixN, takeF, nextF, Bx.cell]
    · have hb2 : (s.set b (.lst [.int bx.a, .int bx.m, .int (bx.c + 1)]))[b]? = some (.lst [.int bx.a, .int bx.m, .int (bx.c + 1)]) := List.getElem?_set_self hlt
      simp [F_take, sub_c hb', ha, a_mod, a_fdiv, setI_c hb', L2.ixN, takeF, nextF, Bx.cell, sub_c hb2, a_mul _ _ (mulOk_l (i := 48271) (by decide) (by decide)), hn]
      rw [a_mul _ _ (mulOk_r (by omega) (by omega))]
      simp [a_mod, a_fdiv, sub_c hb2]
      rw [a_mul _ _ (mulOk_r (by omega) (by omega))]
      simp [a_mod]
      rw [a_mul _ _ (mulOk_r (by decide) (by decide))]
      simp [a_mod, a_fdiv, hn]
  have := call_c h8 rfl rfl rfl key
  rw [set_take] at this
  exact this

def F_of : Fn := ⟨2, 2, false, (.cons (.ret (.sub (.var 1) (.call 8 (.cons (.var 0) (.cons (.blt .len (.cons (.var 1) .nil)) .nil))))) .nil)⟩
theorem c_of {P : Prog} (h8 : P.fn? 8 = some F_take) (h10 : P.fn? 10 = some F_of) {b : Nat} {bx : Bx} {s : Sto} (hb : s[b]? = some bx.cell) (hc : bx.le 1000000000) {q : PyData} {ds : List PyData} (hq : q = .list ds ∨ q = .tuple ds) (h0 : ds ≠ []) (hl : ds.length < 1000000000) (k : Nat) :
    ∃ d ∈ ds, ds[(takeF bx ds.length).toNat]? = some d ∧ callD P (k + 2) 10 [.c b, .v q] s = .ok (.v d) (s.set b (nextF bx ds.length).cell) := by
  have h1 : 0 < ds.length := List.length_pos_iff.mpr h0
  have t0 := takeF_nn bx (n := ds.length) (by omega)
  have t1 := takeF_lt bx (n := ds.length) (by omega)
  have hi : (takeF bx ds.length).toNat < ds.length := by omega
  refine ⟨_, List.getElem_mem hi, List.getElem?_eq_getElem hi, ?_⟩
  have ha : L2.atI ds (takeF bx ds.length) = some ds[(takeF bx ds.length).toNat] := by rw [atI_nn _ _ t0, List.getElem?_eq_getElem hi]
  have ht := c_take h8 hb (n := ds.length) (by omega) (by omega) hc k
  have := call_c (k := k + 1) (as := [.c b, .v q]) (d := ds[(takeF bx ds.length).toNat]) (s := s) (s' := s.set b (nextF bx ds.length).cell) h10 rfl rfl rfl (by
    rcases hq with rfl | rfl
    · simp [F_of, ht, sub_l ha]
    · simp [F_of, ht, sub_t ha])
  rw [set_take] at this
  exact this
/-! ### the script's first numbers -/
def F_cells : Fn :=
  ⟨2, 6, false, (.cons (.new 2 (.orL (.bltl .list (.cons (.slice (.var 0) false (.cst .none) true (.var 1)) .nil)) (.lst (.cons (.cst (.int (0))) .nil)))) (.cons (.for_ (.tup [3, 4]) (.enum (.slice (.var 0) true (.var 1) true (.cst (.int (63))))) (.cons (.set (.one 5) (.bin .Mod (.blt .int (.cons (.var 3) .nil)) (.var 1))) (.cons (.setI 2 (.var 5) (.bin .Add (.sub (.var 2) (.var 5)) (.bin .Mult (.var 4) (.bin .Add (.var 3) (.cst (.int (2))))))) .nil))) (.cons (.ret (.var 2)) .nil)))⟩
theorem enum_ints : ∀ (xs : List Int) (i : Nat), enumL i (xs.map PyData.int) = (xs.zipIdx i).map fun p => .tuple [.int p.2, .int p.1]
  | [], _ => rfl
  | x :: xs, i => by
    simp only [List.map_cons, enumL, List.zipIdx_cons]
    rw [show ((i : Int) + 1) = ((i + 1 : Nat) : Int) by omega, enum_ints xs (i + 1)]
theorem c_cells {P : Prog} (h9 : P.fn? 9 = some F_cells) (ns : List Int) (hl : ns.length ≤ 63) (t : Nat) (ht : 0 < t) (ht2 : t ≤ 63) (k : Nat) (s : Sto) :
    ∃ cs : List Int, cs ≠ [] ∧ cs.length ≤ t ∧ callD P (k + 1) 9 [.w ns, .v (.int t)] s = .ok (.v (.list (cs.map .int))) s := by
  have hcut : cutD ns none (some (t : Int)) = ns.take t := by rw [cut_to _ _ (by omega)]; rfl
  have hcut2 : cutD ns (some (t : Int)) (some 63) = ns.drop t := by
    rw [cut_mid _ _ _ (by omega) (by omega)]
    rw [show Int.toNat 63 = 63 from rfl, List.take_of_length_le hl]; rfl
  have key : ∃ cs : List Int, cs ≠ [] ∧ cs.length ≤ t ∧ ∃ s', exs (cxAt P k) F_cells.body ([Xv.w ns, .v (.int t)].map some ++ List.replicate (F_cells.slots - 2) none) s = .ok (.rt (.c s.length)) (s ++ s') ∧ s' = [.lst (cs.map .int)] := by
    have hz : (0 : Int) = ((0 : Nat) : Int) := rfl
    have go : ∀ c0 : List Int, c0 ≠ [] → c0.length ≤ t → (ns.drop t ≠ [] → c0.length = t) → ∃ cs : List Int, cs ≠ [] ∧ cs.length ≤ t ∧ ∃ s', (forS (bodyF (cxAt P k) (.tup [3, 4]) (.cons (.set (.one 5) (.bin .Mod (.blt .int (.cons (.var 3) .nil)) (.var 1))) (.cons (.setI 2 (.var 5) (.bin .Add (.sub (.var 2) (.var 5)) (.bin .Mult (.var 4) (.bin .Add (.var 3) (.cst (.int (2))))))) .nil))) (((ns.drop t).zipIdx 0).map fun p => PyData.tuple [.int p.2, .int p.1])
        [some (.w ns), some (.v (.int t)), some (.c s.length), none, none, none] (s ++ [.lst (c0.map .int)])).bind (kNext (cxAt P k) (.cons (.ret (.var 2)) .nil)) = .ok (.rt (.c s.length)) (s ++ s') ∧ s' = [.lst (cs.map .int)] := by
      intro c0 h1 h2 h3
      refine for_fold (cx := cxAt P k) (fun pre ρ s1 => ∃ x y z cs, ρ = [some (.w ns), some (.v (.int t)), some (.c s.length), x, y, z] ∧ s1 = s ++ [.lst ((cs : List Int).map .int)] ∧ cs.length = c0.length) (fun r => ∃ cs : List Int, cs ≠ [] ∧ cs.length ≤ t ∧ ∃ s', r = .ok (.rt (.c s.length)) (s ++ s') ∧ s' = [.lst (cs.map .int)]) ((ns.drop t).zipIdx 0) ⟨_, _, _, c0, rfl, rfl, rfl⟩ ?_ ?_
      · rintro pre p post he _ _ ⟨x, y, z, cs, rfl, rfl, hcs⟩
        have hne : ns.drop t ≠ [] := fun e => by rw [e] at he; simp at he
        have hlen := h3 hne
        have hs : (s ++ [Cell.lst (cs.map PyData.int)])[s.length]? = some (.lst (cs.map .int)) := by simp
        have hm0 : (0 : Int) ≤ (p.2 : Int) % t := Int.emod_nonneg _ (by omega)
        have hm1 : (p.2 : Int) % t < t := Int.emod_lt_of_pos _ (by omega)
        have hi : ((p.2 : Int) % t).toNat < cs.length := by omega
        have ha : L2.atI (cs.map PyData.int) ((p.2 : Int) % t) = some (.int cs[((p.2 : Int) % t).toNat]) := by
          rw [atI_nn _ _ hm0, List.getElem?_map, List.getElem?_eq_getElem hi]; rfl
        have hp2 : p.2 < 63 := by
          have hm : p ∈ (ns.drop t).zipIdx 0 := by rw [he]; simp
          have := (List.mem_zipIdx hm).2.1
          rw [List.length_drop] at this
          omega
        have hix : L2.ixN (cs.map PyData.int).length ((p.2 : Int) % t) = some ((p.2 : Int) % t).toNat := by
          unfold L2.ixN
          rw [if_pos hm0, List.length_map, if_pos (by omega)]
        refine ⟨[some (.w ns), some (.v (.int t)), some (.c s.length), some (.v (.int p.2)), some (.v (.int p.1)), some (.v (.int (p.2 % t)))], s ++ [.lst ((cs.set ((p.2 : Int) % t).toNat (cs[((p.2 : Int) % t).toNat] + p.1 * ((p.2 : Int) + 2))).map .int)], ?_, _, _, _, _, rfl, rfl, by rw [List.length_set]; exact hcs⟩
        rw [f_bind (b_two ..)]
        simp [a_mod _ _ (show (0 : Int) < t by omega), sub_c hs ha, a_mul _ _ (mulOk_r (i := p.1) (j := (p.2 : Int) + 2) (by omega) (by omega)), setI_c hs hix]
      · rintro _ _ ⟨x, y, z, cs, rfl, rfl, hcs⟩
        refine ⟨cs, ?_, by omega, _, by simp, rfl⟩
        intro e
        rw [e] at hcs
        exact h1 (List.length_eq_zero_iff.mp (by simpa using hcs.symm))
    have hw : sliceX (.w ns) none (some (t : Int)) s = .ok (.v (.list ((ns.take t).map .int))) s := by simp [sliceX, hcut]
    have hw2 : ∀ s, sliceX (.w ns) (some (t : Int)) (some 63) s = .ok (.v (.list ((ns.drop t).map .int))) s := fun s => by simp [sliceX, hcut2]
    simp only [F_cells, List.map_cons, List.map_nil, List.replicate, List.cons_append, List.nil_append, q_cons, p_new, e_orL, e_bltl, x_cons, e_slice, e_var, List.getElem?_cons_zero, R.bind_ok, k_sl, o_f, k_sl1, o_t, List.getElem?_cons_succ, part_i, k_sl2, hw, k_ex, x_nil, k_ex1, list_l]
    cases hx : ns.take t with
    | nil =>
      have := go [0] (by simp) (by simp; omega) (fun h => by
        exfalso
        apply h
        have hz2 := congrArg List.length hx
        rw [List.length_take, List.length_nil] at hz2
        rw [List.drop_of_length_le]
        omega)
      simp only [List.map_nil, kOrL, e_lst, s_cons, e_cst, R.bind_ok, k_es_v, s_nil, k_es1, madeL_ok (show [PyData.int 0].length ≤ 16777216 by simp), k_new, k_nx, q_cons, p_for, i_enum, e_slice, e_var, List.set_cons_succ, List.set_cons_zero, List.getElem?_cons_zero, k_sl, o_t, List.getElem?_cons_succ, part_i, k_sl1, k_sl2, hw2, k_enum_l, k_for]
      rw [show (0 : Int) = ((0 : Nat) : Int) from rfl, enum_ints]
      exact this
    | cons y ys =>
      have := go (ns.take t) (by rw [hx]; simp) (by rw [List.length_take]; omega) (fun h => by
        rw [List.length_take]
        have : t < ns.length := by
          rcases Nat.lt_or_ge t ns.length with h1 | h1
          · exact h1
          · exact absurd (List.drop_of_length_le h1) h
        omega)
      simp only [List.map_cons, kOrL, R.bind_ok, k_new, k_nx, q_cons, p_for, i_enum, e_slice, e_var, List.set_cons_succ, List.set_cons_zero, List.getElem?_cons_zero, k_sl, o_t, List.getElem?_cons_succ, part_i, k_sl1, k_sl2, e_cst, hw2, k_enum_l, k_for]
      rw [show (0 : Int) = ((0 : Nat) : Int) from rfl, enum_ints, ← List.map_cons, ← hx]
      exact this
  obtain ⟨cs, h1, h2, s', h3, rfl⟩ := key
  refine ⟨cs, h1, h2, ?_⟩
  have := call_cc (as := [.w ns, .v (.int t)]) (xs := cs.map .int) h9 rfl rfl rfl h3 (Nat.le_refl _) (by simp)
  rw [this]
  simp
end Mi
end

section
set_option maxRecDepth 100000
/-! MiLaw2: boxes, the comparison, the end of a law. -/
namespace Mi
open PySem
open En (en)
def F_box (cst : Int) : Fn :=
  ⟨2, 3, true, (.cons (.set (.one 2) (.ite (.cmp .Lt (.var 1) (.blt .len (.cons (.var 0) .nil))) (.sub (.var 0) (.var 1)) (.cst (.int (0))))) (.cons (.retC (.lst (.cons (.bin .Mult (.blt .abs (.cons (.var 2) .nil)) (.blt .int (.cons (.cmp .GtE (.blt .abs (.cons (.var 2) .nil)) (.bin .Pow (.cst (.int (10))) (.cst (.int (18))))) .nil))) (.cons (.bin .Add (.bin .Add (.bin .Mod (.blt .int (.cons (.var 2) .nil)) (.cst (.int (2305843009213693951)))) (.bin .Mult (.cst (.int (39373))) (.var 1))) (.cst (.int cst))) (.cons (.cst (.int (0))) .nil))))) .nil))⟩
theorem op_pow18 {s : Sto} : binX .Pow (.v (.int 10)) (.v (.int 18)) s = .ok (.v (.int 1000000000000000000)) s := by simp [binX, rd, binL, binD]
theorem c_box {P : Prog} {cst : Int} (h7 : P.fn? 7 = some (F_box cst)) (cs : List Int) (j : Nat) (hj : j < cs.length) (k : Nat) (s : Sto) :
    ∃ bx : Bx, bx.c = 0 ∧ callD P (k + 1) 7 [.v (.list (cs.map .int)), .v (.int j)] s = .ok (.c s.length) (s ++ [bx.cell]) := by
  have ha : L2.atI (cs.map PyData.int) (j : Int) = some (.int cs[j]) := by
    rw [atI_nn _ _ (by omega), List.getElem?_map, Int.toNat_natCast, List.getElem?_eq_getElem hj]; rfl
  obtain ⟨A, hA⟩ : ∃ A : Int, A = if cs[j] < 0 then -cs[j] else cs[j] := ⟨_, rfl⟩
  refine ⟨⟨A * (if 1000000000000000000 ≤ A then 1 else 0), cs[j] % 2305843009213693951 + 39373 * j + cst, 0⟩, rfl, ?_⟩
  have := call_k (k := k) (as := [.v (.list (cs.map .int)), .v (.int j)]) (m := s.length) (s := s) (xs := [.int (A * (if 1000000000000000000 ≤ A then 1 else 0)), .int (cs[j] % 2305843009213693951 + 39373 * j + cst), .int 0]) (s' := s ++ [Bx.cell ⟨A * (if 1000000000000000000 ≤ A then 1 else 0), cs[j] % 2305843009213693951 + 39373 * j + cst, 0⟩]) h7 rfl rfl (by
    have hm : mulOk A (if 1000000000000000000 ≤ A then 1 else 0) = true := by
      refine mulOk_r ?_ ?_
      · by_cases h : 1000000000000000000 ≤ A
        · rw [if_pos h]; decide
        · rw [if_neg h]; decide
      · by_cases h : 1000000000000000000 ≤ A
        · rw [if_pos h]; decide
        · rw [if_neg h]; decide
    simp [F_box, sub_l ha, hj, op_pow18]
    rw [← hA, a_mul _ _ hm]
    simp [a_mod, a_mul _ _ (mulOk_l (i := 39373) (by decide) (by decide)), madeL_ok, Bx.cell]) (Nat.le_refl _) (by simp [Bx.cell])
  rw [this]
  simp [Bx.cell]
/-! ### same -/
def F_same : Fn :=
  ⟨2, 4, false, (.cons (.ite (.isi (.var 1) ["list", "tuple"]) (.cons (.ite (.or (.cmp .NotEq (.isi (.var 0) ["list"]) (.isi (.var 1) ["list"])) (.cmp .NotEq (.isi (.var 0) ["tuple"]) (.isi (.var 1) ["tuple"]))) (.cons (.ret (.cst (.bool false))) .nil) .nil) (.cons (.ret (.and (.cmp .Eq (.blt .len (.cons (.var 0) .nil)) (.blt .len (.cons (.var 1) .nil))) (.blt .all (.cons (.comp [2, 3] (.call 11 (.cons (.var 2) (.cons (.var 3) .nil))) (.tup [2, 3]) (.zip (.var 0) (.var 1)) .nil) .nil)))) .nil)) .nil) (.cons (.ite (.or (.cmp .Is (.var 1) (.cst .none)) (.isi (.var 1) ["bool", "str"])) (.cons (.ret (.and (.cmp .Eq (.var 0) (.var 1)) (.and (.cmp .Eq (.isi (.var 0) ["bool"]) (.isi (.var 1) ["bool"])) (.cmp .Eq (.cmp .Is (.var 0) (.cst .none)) (.cmp .Is (.var 1) (.cst .none)))))) .nil) .nil) (.cons (.ret (.and (.isi (.var 0) ["int"]) (.and (.not (.isi (.var 0) ["bool"])) (.cmp .Eq (.var 0) (.var 1))))) .nil)))⟩
theorem sh_mem {n : Nat} {ds : List PyData} (h1 : PyData.canLayAll0 ds = true) (h2 : PyData.depthAll ds ≤ n) : ∀ d ∈ ds, Sh n d := by
  induction ds with
  | nil => intro d hd; cases hd
  | cons a ds ih =>
    simp only [PyData.canLayAll0, Bool.and_eq_true] at h1
    simp only [PyData.depthAll] at h2
    intro d hd
    rcases List.mem_cons.mp hd with rfl | hd
    · exact ⟨h1.1, by omega⟩
    · exact ih h1.2 (by omega) d hd
theorem Sh.items_l {n : Nat} {ds : List PyData} (h : Sh (n + 1) (.list ds)) : ∀ d ∈ ds, Sh n d := sh_mem (by simpa only [PyData.canLay0] using h.lay) (by have := h.dep; simp only [PyData.depth] at this; omega)
theorem Sh.items_t {n : Nat} {ds : List PyData} (h : Sh (n + 1) (.tuple ds)) : ∀ d ∈ ds, Sh n d := sh_mem (by simpa only [PyData.canLay0] using h.lay) (by have := h.dep; simp only [PyData.depth] at this; omega)
mutual
theorem eqv_self : ∀ d : PyData, d.canLay0 = true → PyData.eqv d d = true
  | .none, _ => by simp [PyData.eqv]
  | .bool b, _ => by simp [PyData.eqv]
  | .int b, _ => by simp [PyData.eqv]
  | .str b, _ => by simp [PyData.eqv]
  | .list ds, h => by simp only [PyData.eqv]; exact eqvAll_self ds (by simpa only [PyData.canLay0] using h)
  | .tuple ds, h => by simp only [PyData.eqv]; exact eqvAll_self ds (by simpa only [PyData.canLay0] using h)
  | .dict _, h => by simp [PyData.canLay0] at h
theorem eqvAll_self : ∀ ds : List PyData, PyData.canLayAll0 ds = true → PyData.eqvAll ds ds = true
  | [], _ => by simp [PyData.eqvAll]
  | d :: ds, h => by
    simp only [PyData.canLayAll0, Bool.and_eq_true] at h
    simp only [PyData.eqvAll, Bool.and_eq_true]
    exact ⟨eqv_self d h.1, eqvAll_self ds h.2⟩
end
theorem zipL_self : ∀ ds : List PyData, zipL ds ds = ds.map fun d => .tuple [d, d]
  | [] => rfl
  | d :: ds => by rw [zipL, zipL_self ds]; rfl
/-- lengths within bounds, all the way down -/
inductive Fit : PyData → Prop
  | none : Fit .none
  | bool (b : Bool) : Fit (.bool b)
  | int (i : Int) : Fit (.int i)
  | str (x : Str) : Fit (.str x)
  | list {ds : List PyData} : ds.length ≤ 16777216 → (∀ d ∈ ds, Fit d) → Fit (.list ds)
  | tuple {ds : List PyData} : ds.length ≤ 16777216 → (∀ d ∈ ds, Fit d) → Fit (.tuple ds)
theorem c_same {P : Prog} (h11 : P.fn? 11 = some F_same) : ∀ (n : Nat), n ≤ 64 → ∀ (d : PyData), Sh n d → Fit d → ∀ (k : Nat) (s : Sto), callD P (k + n + 1) 11 [.v d, .v d] s = .ok (.v (.bool true)) s := by
  intro n
  induction n with
  | zero =>
    intro hn d h hf k s
    refine call_ret (as := [_, _]) (x := .v (.bool true)) (s' := []) h11 rfl rfl ?_ rfl s
    have ok := h.ok (by omega)
    cases d with
    | list ds => have := h.dep; simp [PyData.depth] at this
    | tuple ds => have := h.dep; simp [PyData.depth] at this
    | dict ds => have := h.lay; simp [PyData.canLay0] at this
    | none => simp [F_same, eq_v ok ok, isiD, tyOf, PyData.eqv]
    | bool b => simp [F_same, eq_v ok ok, isiD, tyOf, PyData.eqv]
    | int b => simp [F_same, eq_v ok ok, isiD, tyOf, PyData.eqv]
    | str b => simp [F_same, eq_v ok ok, isiD, tyOf, PyData.eqv]
  | succ n ih =>
    intro hn d h hf k s
    refine call_ret (as := [_, _]) (x := .v (.bool true)) (s' := []) h11 rfl rfl ?_ rfl s
    have ok := h.ok hn
    cases d with
    | list ds =>
      cases hf with
      | list hl hf =>
      simp [F_same, isiD, tyOf, zipX, zipL_self]
      rw [turns_all (fun _ => PyData.bool true)]
      · simp only [calm_ok', R.bind_ok]
        rw [madeL_ok (by rw [List.length_map]; exact hl)]
        simp
      · intro x hx
        rw [c_bind (b_two ..)]
        simp [show k + (n + 1) = k + n + 1 from rfl, ih (by omega) x (h.items_l x hx) (hf x hx) k]
    | tuple ds =>
      cases hf with
      | tuple hl hf =>
      simp [F_same, isiD, tyOf, zipX, zipL_self]
      rw [turns_all (fun _ => PyData.bool true)]
      · simp only [calm_ok', R.bind_ok]
        rw [madeL_ok (by rw [List.length_map]; exact hl)]
        simp
      · intro x hx
        rw [c_bind (b_two ..)]
        simp [show k + (n + 1) = k + n + 1 from rfl, ih (by omega) x (h.items_t x hx) (hf x hx) k]
    | dict ds => have := h.lay; simp [PyData.canLay0] at this
    | none => simp [F_same, eq_v ok ok, isiD, tyOf, PyData.eqv]
    | bool b => simp [F_same, eq_v ok ok, isiD, tyOf, PyData.eqv]
    | int b => simp [F_same, eq_v ok ok, isiD, tyOf, PyData.eqv]
    | str b => simp [F_same, eq_v ok ok, isiD, tyOf, PyData.eqv]

theorem turnsC_ok {f : PyData → Sto → R (List PyData)} {at_ : Sto → Nat → Option (Option PyData)} {s : Sto} {zs : List PyData} (h : PyData → List PyData) (hat : ∀ i, at_ s i = some zs[i]?) (hf : ∀ z ∈ zs, f z s = .ok (h z) s) : ∀ (k i : Nat), i ≤ zs.length → zs.length < k + i → turnsC f at_ k i s = .ok ((zs.drop i).flatMap h) s
  | 0, i, hi, hk => by omega
  | k + 1, i, hi, hk => by
    rw [turnsC, hat i]
    by_cases hi : i < zs.length
    · rw [List.getElem?_eq_getElem hi]
      simp only
      rw [hf _ (List.getElem_mem hi), R.bind_ok, turnsC_ok h hat hf k (i + 1) (by omega) (by omega), R.bind_ok, List.drop_eq_getElem_cons hi, List.flatMap_cons]
    · rw [List.getElem?_eq_none (by omega), List.drop_of_length_le (by omega)]
      rfl
theorem isi_c {n : Nat} {xs : List PyData} {s : Sto} (h : s[n]? = some (.lst xs)) (ts : List String) : kIsi ts (.c n) s = .ok (.v (.bool (ts.any (isiD (.list xs))))) s := by simp [kIsi, isiX, rd, h]
theorem zip_cv {n : Nat} {xs ys : List PyData} {s : Sto} (h : s[n]? = some (.lst xs)) : zipX (.c n) (.v (.list ys)) s = .ok (.zip (.c n) (.v (.list ys))) s := by simp [zipX, cellAt, h]
theorem c_same_c {P : Prog} (h11 : P.fn? 11 = some F_same) {n m : Nat} (hn : n ≤ 60) {xs : List PyData} {s : Sto} (hm : s[m]? = some (.lst xs)) (h : Sh (n + 1) (.list xs)) (hf : Fit (.list xs)) (hl : xs.length < 1000000) (k : Nat) : callD P (k + n + 2) 11 [.c m, .v (.list xs)] s = .ok (.v (.bool true)) s := by
  have hx : ∀ x ∈ xs, Fit x := by cases hf with | list _ h => exact h
  have := call_c (k := k + n + 1) (as := [.c m, .v (.list xs)]) (d := .bool true) (s := s) (s' := s) h11 rfl rfl rfl (by
    simp [F_same, isi_c hm, isiD, tyOf, len_c hm, zip_cv hm, kComp, walk]
    rw [turnsC_ok (zs := xs.map fun d => .tuple [d, d]) (fun _ => [PyData.bool true]) ?_ ?_ fuel 0 (Nat.zero_le _) (by rw [List.length_map]; exact hl)]
    · rw [List.drop_zero, List.flatMap_map]
      simp only [calm_ok', R.bind_ok]
      have e2 : (xs.flatMap fun _ => [PyData.bool true]) = xs.map fun _ => .bool true := by rw [List.map_eq_flatMap]
      rw [e2, madeL_ok (by rw [List.length_map]; omega)]
      simp
    · intro i
      simp only [zipAt, xvAt, cellAt, hm]
      rw [List.getElem?_map]
      cases xs[i]? <;> rfl
    · intro z hz
      obtain ⟨d, hd, rfl⟩ := List.mem_map.mp hz
      rw [c_bind (b_two ..)]
      simp [c_same h11 n (by omega) d (h.items_l d hd) (hx d hd) k])
  simpa using this
/-! ### the end of a law -/
theorem range_map (n : Nat) : ∀ i : Nat, rangeL i n = (List.range n).map fun j => .int ((i + j : Nat) : Int) := by
  induction n with
  | zero => intro i; rfl
  | succ n ih =>
    intro i
    rw [rangeL, show ((i : Int) + 1) = ((i + 1 : Nat) : Int) by omega, ih (i + 1), List.range_succ_eq_map, List.map_cons, List.map_map]
    congr 1
    refine List.map_congr_left fun j _ => ?_
    show PyData.int _ = PyData.int _
    congr 1
    simp only [Nat.succ_eq_add_one]
    omega
theorem range0 (n : Nat) : rangeL 0 n = (List.range n).map fun j : Nat => PyData.int j := by
  have := range_map n 0
  simpa using this
theorem turns_ex {α : Type} {f : PyData → Sto → R (List PyData)} {g : α → PyData} (h : α → List PyData) : ∀ {xs : List α}, (∀ x ∈ xs, ∀ s, ∃ s', f (g x) s = .ok (h x) s') → ∀ s, ∃ s', turns f (xs.map g) s = .ok (xs.flatMap h) s'
  | [], _, s => ⟨s, rfl⟩
  | x :: xs, hf, s => by
    obtain ⟨s1, e1⟩ := hf x (List.mem_cons_self ..) s
    obtain ⟨s2, e2⟩ := turns_ex h (xs := xs) (fun y hy => hf y (List.mem_cons_of_mem _ hy)) s1
    exact ⟨s2, by simp [turns, e1, e2]⟩
def F_law (hand right : Nat) (t : Int) : Fn :=
  ⟨1, 3, false, (.cons (.ite (.not (.call hand .nil)) (.cons (.ret (.cst (.bool false))) .nil) .nil) (.cons (.set (.one 1) (.call 9 (.cons (.var 0) (.cons (.cst (.int t)) .nil)))) (.cons (.ret (.blt .all (.cons (.comp [2] (.call right (.cons (.call 7 (.cons (.var 1) (.cons (.var 2) .nil))) .nil)) (.one 2) (.range1 (.blt .len (.cons (.var 1) .nil))) .nil) .nil))) .nil)))⟩
theorem r1_nat {s : Sto} (n : Nat) (h : n < 16777216) : kR1 (.v (.int n)) s = .ok (.stat ((List.range n).map fun j : Nat => PyData.int j)) s := by
  simp only [kR1]
  rw [if_pos (by omega), ← range0]
  rfl
theorem law_all {P : Prog} {cst : Int} {right : Nat} {k : Nat} (h7 : P.fn? 7 = some (F_box cst)) (hr : ∀ (s : Sto) (b : Nat) (bx : Bx), bx.c = 0 → s[b]? = some bx.cell → ∃ s', callD P (k + 1) right [.c b] s = .ok (.v (.bool true)) s') (cs : List Int) (hl : cs.length ≤ 63) (r : Rho) (s : Sto) (x : Xv) :
    ∃ s', ev (cxAt P (k + 1)) (.blt .all (.cons (.comp [2] (.call right (.cons (.call 7 (.cons (.var 1) (.cons (.var 2) .nil))) .nil)) (.one 2) (.range1 (.blt .len (.cons (.var 1) .nil))) .nil) .nil)) [some x, some (.v (.list (cs.map .int))), none] s = .ok (.v (.bool true)) s' := by
  simp [r1_nat cs.length (by omega)]
  obtain ⟨s', e⟩ := turns_ex (f := compB (cxAt P (k + 1)) (.call right (.cons (.call 7 (.cons (.var 1) (.cons (.var 2) .nil))) .nil)) (.one 2) .nil [some x, some (.v (.list (cs.map .int))), none]) (g := fun j : Nat => PyData.int j) (fun _ => [PyData.bool true]) (xs := List.range cs.length) (fun j hj s => by
    obtain ⟨bx, hb, e⟩ := c_box h7 cs j (List.mem_range.mp hj) k s
    obtain ⟨s', e2⟩ := hr (s ++ [bx.cell]) s.length bx hb (by simp)
    exact ⟨s', by simp [e, e2]⟩) s
  rw [e]
  refine ⟨s', ?_⟩
  simp only [calm_ok', R.bind_ok]
  have e2 : ((List.range cs.length).flatMap fun _ => [PyData.bool true]) = (List.range cs.length).map fun _ => .bool true := by rw [List.map_eq_flatMap]
  rw [e2, madeL_ok (by rw [List.length_map, List.length_range]; omega)]
  simp
theorem law_end {P : Prog} {cst : Int} {me hand right : Nat} {t : Nat} {k : Nat} (h7 : P.fn? 7 = some (F_box cst)) (h9 : P.fn? 9 = some F_cells) (hme : P.fn? me = some (F_law hand right t)) (ht : 0 < t) (ht2 : t ≤ 63)
    (hh : callD P (k + 1) hand [] [] = .ok (.v (.bool true)) [])
    (hr : ∀ (s : Sto) (b : Nat) (bx : Bx), bx.c = 0 → s[b]? = some bx.cell → ∃ s', callD P (k + 1) right [.c b] s = .ok (.v (.bool true)) s') (ns : List Int) (hl : ns.length ≤ 63) : callD P (k + 2) me [.w ns] [] = .ok (.v (.bool true)) [] := by
  obtain ⟨cs, h1, h2, e⟩ := c_cells h9 ns hl t ht ht2 k []
  obtain ⟨s', e2⟩ := law_all h7 hr cs (by omega) [] [] (.w ns)
  have := call_c (k := k + 1) (as := [.w ns]) (d := .bool true) (s := []) (s' := s') hme rfl rfl rfl (by
    simp only [F_law, List.map_cons, List.map_nil, List.replicate, List.cons_append, List.nil_append, List.length_cons, List.length_nil, q_cons, p_ite, e_not, e_call, x_nil, R.bind_ok, hh, not_b, k_test, Bool.not_true, Bool.false_eq_true, if_false, q_nil, k_nx, p_set, x_cons, e_var, List.getElem?_cons_zero, k_ex, k_ex1, e_cst, e, k_set1, List.set_cons_succ, List.set_cons_zero, p_ret, e2, k_ret, k_rt])
  simpa using this
end Mi
end

section
set_option maxRecDepth 100000
/-! MiLaw3: some of a pool, drawn one after the other. -/
namespace Mi
open PySem
open En (en)
def F_pick : Fn := ⟨3, 6, false, (.cons (.par [(3, true), (4, true)] (.cons (.bltl .list (.cons (.var 1) .nil)) (.cons (.lst .nil) .nil))) (.cons (.for_ (.one 5) (.range1 (.blt .min2 (.cons (.var 2) (.cons (.blt .len (.cons (.var 3) .nil)) .nil)))) (.cons (.ex (.meth .append (.var 4) (.cons (.meth .pop (.var 3) (.cons (.call 8 (.cons (.var 0) (.cons (.blt .len (.cons (.var 3) .nil)) .nil))) .nil)) .nil))) .nil)) (.cons (.ret (.var 4)) .nil)))⟩
theorem pop_c {n : Nat} {xs : List PyData} {s : Sto} (h : s[n]? = some (.lst xs)) {i : Int} (h0 : 0 ≤ i) (h1 : i < xs.length) (h2 : xs.length < 16777216) {d : PyData} (hd : xs[i.toNat]? = some d) : methX .pop (.c n) [.int i] s = .ok (.v d) (s.set n (.lst (xs.eraseIdx i.toNat))) := by
  have hx : L2.ixN xs.length i = some i.toNat := by
    unfold L2.ixN
    rw [if_pos h0, if_pos h1]
  simp [methX, popX, pop1X, h, hx, hd]
  omega
theorem k_es_c {cx : Mi.Ctx} {es : Es} {ρ : Rho} {s : Sto} {d : PyData} : kEs cx es ρ (.v d) s = (evs cx es ρ s).bind (kEs1 d) := (rfl)
theorem min2_i (i j : Int) {s : Sto} : bltX .min2 [.v (.int i), .v (.int j)] s = .ok (.v (.int (if j < i then j else i))) s := (rfl)
theorem set_same {s : Sto} {b : Nat} {c : Cell} (h : s[b]? = some c) : s.set b c = s := by
  apply List.ext_getElem?
  intro i
  by_cases hi : b = i
  · subst hi
    rw [List.getElem?_set_self (List.getElem?_eq_some_iff.mp h).1, h]
  · rw [List.getElem?_set_ne hi]
theorem c_pick {P : Prog} (h8 : P.fn? 8 = some F_take) (h14 : P.fn? 14 = some F_pick) {b : Nat} {bx : Bx} {s : Sto} {n : Int} (hb : s[b]? = some bx.cell) (hc : bx.le n) {pool : List PyData} {q : PyData} (hq : q = .list pool ∨ q = .tuple pool) (hl : pool.length ≤ 1000) (m : Nat) (hn : n + m ≤ 1000000000) (hm : m < 1000000) (k : Nat) :
    ∃ found rest bx', callD P (k + 2) 14 [.c b, .v q, .v (.int m)] s = .ok (.v (.list found)) (s.set b (Bx.cell bx')) ∧ (found ++ rest).Perm pool ∧ found.length = min m pool.length ∧ bx'.le (n + m) := by
  have hbl : b < s.length := (List.getElem?_eq_some_iff.mp hb).1
  obtain ⟨mm, hmm⟩ : ∃ mm : Nat, mm = min m pool.length := ⟨_, rfl⟩
  have hr : ∀ s : Sto, kR1 (.v (.int (if pool.length < m then (pool.length : Int) else m))) s = .ok (.stat ((List.range mm).map fun j : Nat => PyData.int j)) s := fun s => by
    rw [show (if pool.length < m then (pool.length : Int) else m) = (mm : Int) by rw [hmm]; split <;> omega]
    exact r1_nat mm (by omega)
  have key : ∃ found rest bx', exs (cxAt P (k + 1)) F_pick.body ([Xv.c b, .v q, .v (.int m)].map some ++ List.replicate (F_pick.slots - 3) none) s = .ok (.rt (.c (s.length + 1))) (s.set b (Bx.cell bx') ++ [.lst rest, .lst found]) ∧ (found ++ rest).Perm pool ∧ found.length = mm ∧ bx'.le (n + mm) := by
    have hlist : ∀ s, bltlX .list [.v q] s = .ok (.v (.list pool)) s := fun s => by rcases hq with rfl | rfl <;> rfl
    simp [F_pick, hlist, madeL_ok]
    have hlen0 : (s ++ [Cell.lst pool, Cell.lst []])[s.length]? = some (.lst pool) := by simp
    rw [len_c hlen0]
    simp [min2_i]
    simp only [hr, R.bind_ok, k_for]
    refine for_fold (cx := cxAt P (k + 1)) (fun pre ρ s1 => ∃ x found rest bx', ρ = [some (.c b), some (.v q), some (.v (.int m)), some (.c s.length), some (.c (s.length + 1)), x] ∧ s1 = s.set b (Bx.cell bx') ++ [.lst rest, .lst found] ∧ (found ++ rest).Perm pool ∧ found.length = pre.length ∧ bx'.le (n + pre.length))
      (fun r => ∃ found rest bx', r = .ok (.rt (.c (s.length + 1))) (s.set b (Bx.cell bx') ++ [.lst rest, .lst found]) ∧ (found ++ rest).Perm pool ∧ found.length = mm ∧ bx'.le (n + mm)) (List.range mm) ⟨none, [], pool, bx, rfl, ?_, ?_, rfl, ?_⟩ ?_ ?_
    · rw [set_same hb]
    · exact .refl _
    · simpa using hc
    · rintro pre j post he _ _ ⟨x, found, rest, bx', rfl, rfl, pm, hf, hc'⟩
      have hpre : pre.length < mm := by
        have := congrArg List.length he
        simp at this
        omega
      have hrl : found.length + rest.length = pool.length := by rw [← pm.length_eq, List.length_append]
      have hr0 : 0 < rest.length := by omega
      have hsl : (s.set b (Bx.cell bx')).length = s.length := List.length_set ..
      have e1 : (s.set b (Bx.cell bx') ++ [Cell.lst rest, Cell.lst found])[s.length]? = some (.lst rest) := by rw [← hsl]; simp
      have e2 : (s.set b (Bx.cell bx') ++ [Cell.lst rest, Cell.lst found])[s.length + 1]? = some (.lst found) := by
        rw [List.getElem?_append_right (by omega), hsl]; simp
      have e3 : (s.set b (Bx.cell bx') ++ [Cell.lst rest, Cell.lst found])[b]? = some bx'.cell := by
        rw [List.getElem?_append_left (by omega)]; exact List.getElem?_set_self hbl
      have t := c_take h8 e3 (n := rest.length) (by omega) (by omega) (hc'.mono (by omega)) k
      have t0 := takeF_nn bx' (n := rest.length) (by omega)
      have t1 := takeF_lt bx' (n := rest.length) (by omega)
      obtain ⟨d, hd⟩ : ∃ d, rest[(takeF bx' rest.length).toNat]? = some d := ⟨_, List.getElem?_eq_getElem (by omega)⟩
      have e4 : ((s.set b (Bx.cell bx') ++ [Cell.lst rest, Cell.lst found]).set b (nextF bx' rest.length).cell) = s.set b (nextF bx' rest.length).cell ++ [Cell.lst rest, Cell.lst found] := by
        rw [List.set_append_left _ _ (by omega), List.set_set]
      rw [e4] at t
      have hsl2 : (s.set b (nextF bx' rest.length).cell).length = s.length := List.length_set ..
      have e5 : (s.set b (nextF bx' rest.length).cell ++ [Cell.lst rest, Cell.lst found])[s.length]? = some (.lst rest) := by rw [← hsl2]; simp
      have e6 : ((s.set b (nextF bx' rest.length).cell ++ [Cell.lst rest, Cell.lst found]).set s.length (.lst (rest.eraseIdx (takeF bx' rest.length).toNat))) = s.set b (nextF bx' rest.length).cell ++ [Cell.lst (rest.eraseIdx (takeF bx' rest.length).toNat), Cell.lst found] := by
        rw [List.set_append_right _ _ (by omega), hsl2]; simp
      have e7 : (s.set b (nextF bx' rest.length).cell ++ [Cell.lst (rest.eraseIdx (takeF bx' rest.length).toNat), Cell.lst found])[s.length + 1]? = some (.lst found) := by
        rw [List.getElem?_append_right (by omega), hsl2]; simp
      have e8 : ((s.set b (nextF bx' rest.length).cell ++ [Cell.lst (rest.eraseIdx (takeF bx' rest.length).toNat), Cell.lst found]).set (s.length + 1) (.lst (found ++ [d]))) = s.set b (nextF bx' rest.length).cell ++ [Cell.lst (rest.eraseIdx (takeF bx' rest.length).toNat), Cell.lst (found ++ [d])] := by
        rw [List.set_append_right _ _ (by omega), hsl2]; simp
      refine ⟨_, s.set b (nextF bx' rest.length).cell ++ [Cell.lst (rest.eraseIdx (takeF bx' rest.length).toNat), Cell.lst (found ++ [d])], ?_, some (.v (.int j)), found ++ [d], rest.eraseIdx (takeF bx' rest.length).toNat, nextF bx' rest.length, rfl, rfl, ?_, ?_, ?_⟩
      · simp only [f_one, q_cons, p_ex, e_meth, e_var, List.set_cons_succ, List.set_cons_zero, List.getElem?_cons_succ, List.getElem?_cons_zero, R.bind_ok, k_meth, isL_c e2, if_true, s_cons, isL_c e1, e_call, x_cons, e_blt, k_ex, x_nil, k_ex1, len_c e1, t, k_es_v, s_nil, k_es1, pop_c e5 t0 t1 (by omega) hd, e6, app_c e7 (show found.length < 16777216 by omega), e8, k_drop, k_nx, q_nil]
      · refine List.Perm.trans ?_ pm
        rw [List.append_assoc]
        refine List.Perm.append_left _ ?_
        exact L2.erase_perm _ _ _ hd
      · simp [hf]
      · have := hc'.next rest.length
        refine this.mono ?_
        rw [List.length_append, List.length_singleton]
        omega
    · rintro _ _ ⟨x, found, rest, bx', rfl, rfl, pm, hf, hc'⟩
      refine ⟨found, rest, bx', by simp, pm, by simpa using hf, by simpa using hc'⟩
  obtain ⟨found, rest, bx', e, pm, hf, hc'⟩ := key
  refine ⟨found, rest, bx', ?_, pm, by omega, hc'.mono (by omega)⟩
  have hsl : (s.set b (Bx.cell bx')).length = s.length := List.length_set ..
  have := call_cc (k := k + 1) (as := [.c b, .v q, .v (.int m)]) (xs := found) h14 rfl rfl rfl e (by omega) (by rw [List.getElem?_append_right (by omega), hsl]; simp)
  rw [this, List.take_append_of_le_length (by omega), ← hsl, List.take_length]
end Mi
end

section
set_option maxRecDepth 100000
/-! MiBook2: contracts of the package's books that change. -/
namespace Mi
open PySem
open En (en)
structure LibB2 (P : Prog) : Prop where
  b : LibB P
  with_group : ∃ z, P.fn? 410 = some (F_with_group z)
  cut_to : P.fn? 170 = some F_cut_to
  without_group : P.fn? 414 = some F_without_group
  with_members : P.fn? 413 = some F_with_members
  with_member : P.fn? 412 = some F_with_member
  without_member : ∃ z, P.fn? 415 = some (F_without_member z)
  groups_renamed : ∃ z, P.fn? 191 = some (F_groups_renamed z)
  people_renamed : ∃ z, P.fn? 329 = some (F_people_renamed z)
  turned : P.fn? 400 = some F_turned
theorem sortOk_pr {α β : Type} [En α] [En β] (xs : List (α × β)) (hd : En.dep (α × β) ≤ 60) (hl : xs.length ≤ 16777216) : sortOk (xs.map en) = true := sortOk_of hd hl (.inl fun x _ => ⟨_, _, rfl⟩)
theorem sortOk_nms (xs : List Nm) (hl : xs.length ≤ 16777216) : sortOk (xs.map en) = true := sortOk_of (by decide) hl (.inr fun x _ => Atom.flat x)
def withGroupT (b : Book) (g : Nm) (ms : List Nm) : Book := isort (b ++ [(g, ms)])
def cutToT (b : Book) (some : List Nm) : Book := b.filter fun g => decide (g.1 ∈ some)
def withoutGroupT (b : Book) (g : Nm) : Book := b.filter fun o => !decide (o.1 = g)
def withMembersT (b : Book) (g : Nm) (ms : List Nm) : Book := b.map fun o => (o.1, if o.1 = g then setOf ms else o.2)
def withMemberT (b : Book) (g p : Nm) : Book := withMembersT b g (membersT b g ++ [p])
def leftT (b : Book) (g p : Nm) : List Nm := (membersT b g).filter fun o => !decide (o = p)
def withoutMemberT (b : Book) (g p : Nm) : Book := withMembersT b g (leftT b g p)
/-- another name -/
def nameT (ps : List (Nm × Nm)) (x : Nm) : Nm := ((ps.find? fun p => decide (p.1 = x)).map (·.2)).getD x
def groupsRenT (b : Book) (ps : List (Nm × Nm)) : Book := isort (b.map fun g => (nameT ps g.1, g.2))
def peopleRenT (b : Book) (ps : List (Nm × Nm)) : Book := b.map fun g => (g.1, setOf (g.2.map (nameT ps)))
def turnedT (b : Book) : Book := (peopleT b).map fun p => (p, homesT b p)
theorem mem_tab {b : Book} {g : Nm} {ms : List Nm} (hn : (b.map (·.1)).Nodup) (h : (g, ms) ∈ b) : membersT b g = ms := by
  unfold membersT
  rw [← find_lookup]
  cases e : b.find? fun p => decide (p.1 = g) with
  | none =>
    rw [List.find?_eq_none] at e
    exact absurd (e _ h) (by simp)
  | some p =>
    have h4 := List.find?_some e
    have h5 := List.mem_of_find?_eq_some e
    simp at h4
    have : p = (g, ms) := by
      clear e
      induction b with
      | nil => cases h
      | cons q r ih =>
        rw [List.map_cons, List.nodup_cons] at hn
        rcases List.mem_cons.mp h with rfl | hr
        · rcases List.mem_cons.mp h5 with rfl | h6
          · rfl
          · exact absurd (List.mem_map.mpr ⟨p, h6, h4⟩) hn.1
        · rcases List.mem_cons.mp h5 with rfl | h6
          · exact absurd (List.mem_map.mpr ⟨(g, ms), hr, h4.symm⟩) hn.1
          · exact ih hn.2 hr h6
    rw [this]
    rfl
theorem BkS.members {b : Book} (h : BkS b) (g : Nm) : (membersT b g).length ≤ 1000 := by
  unfold membersT
  rw [← find_lookup]
  cases e : b.find? fun p => decide (p.1 = g) with
  | none => simp
  | some p => exact h.mem p (List.mem_of_find?_eq_some e)
@[simp] theorem eq_nm (x y : Nm) {s : Sto} : cmpX .Eq (.v (en x)) (.v (en y)) s = .ok (.v (.bool (decide (x = y)))) s := eq_en x y
@[simp] theorem ne_nm (x y : Nm) {s : Sto} : cmpX .NotEq (.v (en x)) (.v (en y)) s = .ok (.v (.bool (!decide (x = y)))) s := ne_en x y
section
variable {P : Prog} (L : LibB2 P) {d : PyData} {b : Book} {n : Nat}
include L
theorem c_with_group (I : Is n d b) (hB : BkS b) {m : Nat} {e : PyData} {ms : List Nm} (J : Is m e ms) (hm : m ≤ n) {g : Nm} (h : g ∉ groupsT b) (k : Nat) (s : Sto) : callD P (k + n + 4) 410 [.v d, .v (en g), .v e] s = .ok (.v (en (withGroupT b g ms))) s := by
  obtain ⟨z, hz⟩ := L.with_group
  refine call_ret (as := [_, _, _]) (x := .v (en (withGroupT b g ms))) (s' := []) hz rfl rfl ?_ rfl s
  have h1 := c_groups L.b I hB k
  have h2 := I.c L.b.tupled (k + 2)
  rw [show k + 2 + n + 1 = k + n + 3 by omega] at h2
  have h3 := J.c L.b.tupled (k + 2 + (n - m))
  rw [show k + 2 + (n - m) + m + 1 = k + n + 3 by omega] at h3
  have hl : (b ++ [(g, ms)]).length ≤ 16777216 := by rw [List.length_append]; have := hB.len; simp; omega
  have e1 : ∀ s, madeL (b.map en ++ [.tuple [en g, en ms]]) s = .ok (.v (.list ((b ++ [(g, ms)]).map en))) s := fun s => by
    rw [madeL_ok (by have := hB.len; simp; omega), List.map_append]
    rfl
  have hst : ∀ (es : Es) (ρ : Rho) (s : Sto), kSt (cxAt P (k + n + 3)) es ρ (.v (en b)) s = (evs (cxAt P (k + n + 3)) es ρ s).bind (kSt1 (b.map en)) := fun es ρ s => rfl
  have h5 := sorted_l (s := []) (sortOk_pr (b ++ [(g, ms)]) (by decide) hl)
  simp only [List.map_append, List.map_cons, List.map_nil] at h5
  simp [F_with_group, h1, h, h2, h3, madeT_ok, hst, e1, h5]
  rfl
theorem c_cut_to (I : Is n d b) (hB : BkS b) {some : List Nm} (h : ∀ x ∈ some, x ∈ groupsT b) (k : Nat) (s : Sto) : callD P (k + n + 5) 170 [.v d, .v (en some)] s = .ok (.v (en (cutToT b some))) s := by
  refine call_ret (as := [_, _]) (x := .v (en (cutToT b some))) (s' := []) L.cut_to rfl rfl ?_ rfl s
  have h1 := c_check_groups L.b I hB h k
  have h2 := I.c L.b.tupled (k + 3)
  rw [show k + 3 + n + 1 = k + n + 4 by omega] at h2
  simp [F_cut_to, h1, h2]
  rw [turns_if (fun g : Nm × List Nm => decide (g.1 ∈ some)) (en : Nm × List Nm → PyData)]
  · simp only [calm_ok', R.bind_ok]
    rw [madeL_ok (by rw [List.length_map]; exact Nat.le_trans (List.length_filter_le ..) (by have := hB.len; omega))]
    simp [cutToT]
    rfl
  · intro g hg
    rw [show (en g : PyData) = .tuple [en g.1, en g.2] from rfl]
    simp [sub_t]
theorem c_without_group (I : Is n d b) (hB : BkS b) {g : Nm} (h : g ∈ groupsT b) (k : Nat) (s : Sto) : callD P (k + n + 5) 414 [.v d, .v (en g)] s = .ok (.v (en (withoutGroupT b g))) s := by
  refine call_ret (as := [_, _]) (x := .v (en (withoutGroupT b g))) (s' := []) L.without_group rfl rfl ?_ rfl s
  have h1 := c_check_groups L.b I hB (some := [g]) (fun x hx => by cases List.mem_singleton.mp hx; exact h) k
  rw [show (en [g] : PyData) = .tuple [en g] from rfl] at h1
  have h2 := I.c L.b.tupled (k + 3)
  rw [show k + 3 + n + 1 = k + n + 4 by omega] at h2
  simp [F_without_group, h1, h2, madeT_ok]
  rw [turns_if (fun o : Nm × List Nm => !decide (o.1 = g)) (en : Nm × List Nm → PyData)]
  · simp only [calm_ok', R.bind_ok]
    rw [madeL_ok (by rw [List.length_map]; exact Nat.le_trans (List.length_filter_le ..) (by have := hB.len; omega))]
    simp [withoutGroupT]
    rfl
  · intro o ho
    rw [show (en o : PyData) = .tuple [en o.1, en o.2] from rfl]
    simp [sub_t]
theorem c_with_members (I : Is n d b) (hB : BkS b) {g : Nm} {ms : List Nm} (hl : ms.length ≤ 16777216) (k : Nat) (s : Sto) : callD P (k + n + 2) 413 [.v d, .v (en g), .v (.list (ms.map en))] s = .ok (.v (en (withMembersT b g ms))) s := by
  refine call_ret (as := [_, _, _]) (x := .v (en (withMembersT b g ms))) (s' := []) L.with_members rfl rfl ?_ rfl s
  have h2 := I.c L.b.tupled k
  have h3 := c_set_nm L.b.set_of ms hl (k + n)
  simp [F_with_members, h2]
  rw [turns_all (fun o : Nm × List Nm => (en (o.1, if o.1 = g then setOf ms else o.2) : PyData))]
  · simp only [calm_ok', R.bind_ok]
    rw [madeL_ok (by rw [List.length_map]; have := hB.len; omega)]
    simp [withMembersT]
    exact tup_map _ _
  · intro o ho
    rw [c_bind (by rw [show (en o : PyData) = .tuple [en o.1, en o.2] from rfl]; exact b_two ..)]
    by_cases hg : o.1 = g
    · simp [hg, h3, madeT_ok]
      rfl
    · simp [hg, madeT_ok]
      rfl
theorem c_with_member (I : Is n d b) (hB : BkS b) {g p : Nm} (h : g ∈ groupsT b) (k : Nat) (s : Sto) : callD P (k + n + 6) 412 [.v d, .v (en g), .v (en p)] s = .ok (.v (en (withMemberT b g p))) s := by
  refine call_ret (as := [_, _, _]) (x := .v (en (withMemberT b g p))) (s' := []) L.with_member rfl rfl ?_ rfl s
  have h1 := c_members_of L.b I hB h k
  have hl : (membersT b g ++ [p]).length ≤ 16777216 := by rw [List.length_append]; have := hB.members g; simp; omega
  have h2 := c_with_members L I hB (g := g) hl (k + 3)
  rw [show k + 3 + n + 2 = k + n + 5 by omega] at h2
  have e1 : ∀ s, madeL ((membersT b g).map en ++ [en p]) s = .ok (.v (.list ((membersT b g ++ [p]).map en))) s := fun s => by
    rw [madeL_ok (by have := hB.members g; simp; omega), List.map_append]
    rfl
  have hst : ∀ (es : Es) (ρ : Rho) (s : Sto), kSt (cxAt P (k + n + 5)) es ρ (.v (en (membersT b g))) s = (evs (cxAt P (k + n + 5)) es ρ s).bind (kSt1 ((membersT b g).map en)) := fun es ρ s => rfl
  simp only [List.map_append, List.map_cons, List.map_nil] at e1 h2
  simp [F_with_member, h1, hst, e1, h2]
  rfl
theorem c_without_member (I : Is n d b) (hB : BkS b) {g p : Nm} (h : g ∈ groupsT b) (hp : p ∈ peopleT b) (hne : leftT b g p ≠ []) (k : Nat) (s : Sto) : callD P (k + n + 6) 415 [.v d, .v (en g), .v (en p)] s = .ok (.v (en (withoutMemberT b g p))) s := by
  obtain ⟨z, hz⟩ := L.without_member
  refine call_ret (as := [_, _, _]) (x := .v (en (withoutMemberT b g p))) (s' := []) hz rfl rfl ?_ rfl s
  have h1 := c_members_of L.b I hB h k
  have h3 := c_check_people L.b I hB (some := [p]) (fun x hx => by cases List.mem_singleton.mp hx; exact hp) (k + 1)
  rw [show (en [p] : PyData) = .tuple [en p] from rfl, show k + 1 + n + 4 = k + n + 5 by omega] at h3
  have hl : (leftT b g p).length ≤ 1000 := Nat.le_trans (List.length_filter_le ..) (hB.members g)
  have h2 := c_with_members L I hB (g := g) (ms := leftT b g p) (by omega) (k + 3)
  rw [show k + 3 + n + 2 = k + n + 5 by omega] at h2
  simp [F_without_member, h1]
  rw [turns_if (fun o : Nm => !decide (o = p)) (en : Nm → PyData)]
  · simp only [calm_ok', R.bind_ok]
    rw [show (membersT b g).filter (fun o => !decide (o = p)) = leftT b g p from rfl, madeL_ok (by rw [List.length_map]; omega)]
    simp [h3, madeT_ok, h2, hne]
    rfl
  · intro o ho
    simp
omit L in
theorem get_nm (ps : List (Nm × Nm)) (x : Nm) (s : Sto) : getX (.v (.dict (ps.map fun p => (en p.1, en p.2)))) (.v (en x)) (.v (en x)) s = .ok (.v (en (nameT ps x))) s := by
  have hk : kindT (ps.map fun p => ((en p.1 : PyData), (en p.2 : PyData))) = false := kind_nm (fun p : Nm × Nm => p.1) (fun p => en p.2) ps
  have h2 : keyOk false (en x) = true := rfl
  have h3 := look_nm (fun p : Nm × Nm => p.1) (fun p => en p.2) x ps
  simp only [getX, rdK, rd, hk, h2, h3, if_true, nameT]
  cases ps.find? fun p => decide (p.1 = x) <;> rfl
omit L in
theorem dict_ps {ps : List (Nm × Nm)} (h : (ps.map (·.1)).Nodup) (s : Sto) : bltX .dict [.v (en ps)] s = .ok (.v (.dict (ps.map fun p => (en p.1, en p.2)))) s := dict_nm (fun p : Nm × Nm => p.1) (fun p => en p.2) ps h false s
theorem c_groups_renamed (I : Is n d b) (hB : BkS b) {m : Nat} {e : PyData} {ps : List (Nm × Nm)} (J : Is m e ps) (hm : m ≤ n) (hp : (ps.map (·.1)).Nodup) (hu : (b.map fun g => nameT ps g.1).Nodup) (k : Nat) (s : Sto) : callD P (k + n + 3) 191 [.v d, .v e] s = .ok (.v (en (groupsRenT b ps))) s := by
  obtain ⟨z, hz⟩ := L.groups_renamed
  refine call_ret (as := [_, _]) (x := .v (en (groupsRenT b ps))) (s' := []) hz rfl rfl ?_ rfl s
  have h2 := I.c L.b.tupled (k + 1)
  rw [show k + 1 + n + 1 = k + n + 2 by omega] at h2
  have h3 := J.c L.b.tupled (k + 1 + (n - m))
  rw [show k + 1 + (n - m) + m + 1 = k + n + 2 by omega] at h3
  simp [F_groups_renamed, h3, dict_ps hp, h2]
  rw [turns_all (fun o : Nm × List Nm => (en (nameT ps o.1, o.2) : PyData))]
  · simp only [calm_ok', R.bind_ok]
    rw [madeL_ok (by rw [List.length_map]; have := hB.len; omega)]
    simp
    rw [turns_all (g := fun o : Nm × List Nm => (en (nameT ps o.1, o.2) : PyData)) (fun o : Nm × List Nm => (en (nameT ps o.1) : PyData))]
    · simp only [calm_ok', R.bind_ok]
      rw [madeL_ok (by rw [List.length_map]; have := hB.len; omega)]
      have h4 := c_set_nm L.b.set_of (b.map fun g => nameT ps g.1) (by rw [List.length_map]; have := hB.len; omega) (k + n + 1)
      rw [List.map_map] at h4
      have hl : (setOf (b.map fun g => nameT ps g.1)).length = b.length := by
        rw [← List.length_map (f := fun g : Nm × List Nm => nameT ps g.1)]
        exact ((List.perm_ext_iff_of_nodup (setOf_asc _).nodup hu).mpr fun x => mem_setOf).length_eq
      have h5 := sorted_l (xs := b.map fun o : Nm × List Nm => (nameT ps o.1, o.2)) (s := []) (sortOk_pr _ (by decide) (by rw [List.length_map]; have := hB.len; omega))
      rw [List.map_map] at h5
      simp only [Function.comp_def] at h4 h5
      simp [h4, hl, h5, groupsRenT]
      rfl
    · intro o ho
      rw [show (en (nameT ps o.1, o.2) : PyData) = .tuple [en (nameT ps o.1), en o.2] from rfl]
      simp [sub_t]
  · intro o ho
    rw [c_bind (by rw [show (en o : PyData) = .tuple [en o.1, en o.2] from rfl]; exact b_two ..)]
    simp [get_nm, madeT_ok]
    rfl
theorem c_people_renamed (I : Is n d b) (hB : BkS b) {m : Nat} {e : PyData} {ps : List (Nm × Nm)} (J : Is m e ps) (hm : m ≤ n) (hp : (ps.map (·.1)).Nodup) (hu : ((peopleT b).map (nameT ps)).Nodup) (k : Nat) (s : Sto) : callD P (k + n + 4) 329 [.v d, .v e] s = .ok (.v (en (peopleRenT b ps))) s := by
  obtain ⟨z, hz⟩ := L.people_renamed
  refine call_ret (as := [_, _]) (x := .v (en (peopleRenT b ps))) (s' := []) hz rfl rfl ?_ rfl s
  have h1 := c_people L.b I hB k
  have h2 := I.c L.b.tupled (k + 2)
  rw [show k + 2 + n + 1 = k + n + 3 by omega] at h2
  have h3 := J.c L.b.tupled (k + 2 + (n - m))
  rw [show k + 2 + (n - m) + m + 1 = k + n + 3 by omega] at h3
  have hpl : (peopleT b).length ≤ 1000000 := Nat.le_trans (setOf_length _) hB.flat
  simp [F_people_renamed, h3, dict_ps hp, h1]
  rw [turns_all (fun x : Nm => (en (nameT ps x) : PyData))]
  · simp only [calm_ok', R.bind_ok]
    rw [madeL_ok (by rw [List.length_map]; omega)]
    have h4 := c_set_nm L.b.set_of ((peopleT b).map (nameT ps)) (by rw [List.length_map]; omega) (k + n + 2)
    rw [List.map_map] at h4
    have hl : (setOf ((peopleT b).map (nameT ps))).length = (peopleT b).length := by
      rw [← List.length_map (as := peopleT b) (f := nameT ps)]
      exact ((List.perm_ext_iff_of_nodup (setOf_asc _).nodup hu).mpr fun x => mem_setOf).length_eq
    simp only [Function.comp_def] at h4
    simp [h4, hl, h2]
    rw [turns_all (fun o : Nm × List Nm => (en (o.1, setOf (o.2.map (nameT ps))) : PyData))]
    · simp only [calm_ok', R.bind_ok]
      rw [madeL_ok (by rw [List.length_map]; have := hB.len; omega)]
      simp [peopleRenT]
      exact tup_map _ _
    · intro o ho
      rw [c_bind (by rw [show (en o : PyData) = .tuple [en o.1, en o.2] from rfl]; exact b_two ..)]
      simp
      rw [turns_all (fun x : Nm => (en (nameT ps x) : PyData))]
      · have h6 := hB.mem o ho
        simp only [calm_ok', R.bind_ok]
        rw [madeL_ok (by rw [List.length_map]; omega)]
        have h4 := c_set_nm L.b.set_of (o.2.map (nameT ps)) (by rw [List.length_map]; omega) (k + n + 2)
        rw [List.map_map] at h4
        simp only [Function.comp_def] at h4
        simp [h4, madeT_ok]
        rfl
      · intro x hx
        simp [get_nm]
  · intro x hx
    simp [get_nm]
theorem c_turned (I : Is n d b) (hB : BkS b) (k : Nat) (s : Sto) : callD P (k + n + 6) 400 [.v d] s = .ok (.v (en (turnedT b))) s := by
  refine call_ret (as := [_]) (x := .v (en (turnedT b))) (s' := []) L.turned rfl rfl ?_ rfl s
  have h1 := c_people L.b I hB (k + 2)
  rw [show k + 2 + n + 3 = k + n + 5 by omega] at h1
  have hpl : (peopleT b).length ≤ 1000000 := Nat.le_trans (setOf_length _) hB.flat
  simp [F_turned, h1]
  rw [turns_all (fun p : Nm => (en (p, homesT b p) : PyData))]
  · simp only [calm_ok', R.bind_ok]
    rw [madeL_ok (by rw [List.length_map]; omega)]
    simp [turnedT]
    exact tup_map _ _
  · intro p hp
    have h2 := c_groups_of L.b I hB hp k
    simp [h2, madeT_ok]
    rfl
end
end Mi
end

section
set_option maxRecDepth 100000
/-! MiParts: parts of a book. -/
namespace Mi
open PySem
open En (en)
structure Lot where
  g : List Nm
  p : List Nm
deriving DecidableEq
theorem alike_list {xs ys : List Nm} : PySem.W.alike (.list (xs.map en)) (.list (ys.map en)) = true := by
  simp only [PySem.W.alike]
  exact ak_all_map xs ys
theorem sh_list (xs : List Nm) : Sh 1 (.list (xs.map en)) := Sh.lst fun d hd => by
  obtain ⟨x, _, rfl⟩ := List.mem_map.mp hd
  exact En.sh x
instance : En Lot where
  en l := .tuple [.list (l.g.map en), .list (l.p.map en)]
  dep := 2
  sh l := Sh.tup fun d hd => by
    rcases List.mem_cons.mp hd with rfl | hd
    · exact sh_list _
    · rcases List.mem_cons.mp hd with rfl | hd
      · exact sh_list _
      · cases hd
  inj p q h := by
    obtain ⟨a, b⟩ := p; obtain ⟨c, d⟩ := q
    simp only [PyData.tuple.injEq, List.cons.injEq, PyData.list.injEq, and_true] at h
    rw [en_map_inj _ _ h.1, en_map_inj _ _ h.2]
  ak p q := by
    have h1 := alike_list (xs := p.g) (ys := q.g)
    have h2 := alike_list (xs := p.p) (ys := q.p)
    simp only [PySem.W.alike] at h1 h2
    simp [PySem.W.alike, PySem.W.alikeAll, h1, h2]
def hits (ms : List Nm) (l : Lot) : Bool := ms.any fun p => decide (p ∈ l.p)
def addLot (own l : Lot) : Lot := ⟨own.g ++ l.g, own.p ++ l.p⟩
def partStep (lots : List Lot) (g : Nm × List Nm) : List Lot := (lots.filter fun l => !decide (l ∈ lots.filter (hits g.2))) ++ [(lots.filter (hits g.2)).foldl addLot ⟨[g.1], g.2⟩]
def partsT (b : Book) : List (List Nm) := setOf ((b.foldl partStep []).map fun l => setOf l.g)
def sumG (lots : List Lot) : Nat := (lots.map fun l => l.g.length).sum
def sumP (lots : List Lot) : Nat := (lots.map fun l => l.p.length).sum
theorem fold_add : ∀ (ls : List Lot) (own : Lot), ls.foldl addLot own = ⟨own.g ++ ls.flatMap (·.g), own.p ++ ls.flatMap (·.p)⟩
  | [], own => by simp
  | l :: ls, own => by rw [List.foldl_cons, fold_add ls]; simp [addLot]
theorem flat_sumG : ∀ ls : List Lot, (ls.flatMap (·.g)).length = sumG ls
  | [] => rfl
  | l :: ls => by rw [List.flatMap_cons, List.length_append, flat_sumG ls]; rfl
theorem flat_sumP : ∀ ls : List Lot, (ls.flatMap (·.p)).length = sumP ls
  | [] => rfl
  | l :: ls => by rw [List.flatMap_cons, List.length_append, flat_sumP ls]; rfl
theorem far_eq (lots : List Lot) (q : Lot → Bool) : (lots.filter fun l => !decide (l ∈ lots.filter q)) = lots.filter fun l => !q l := by
  apply List.filter_congr
  intro l hl
  congr 1
  rw [Bool.eq_iff_iff, decide_eq_true_iff, List.mem_filter]
  simp [hl]
theorem lot_split (f : Lot → Nat) (q : Lot → Bool) : ∀ lots : List Lot, ((lots.filter fun l => !q l).map f).sum + ((lots.filter q).map f).sum = (lots.map f).sum
  | [] => rfl
  | l :: ls => by
    have := lot_split f q ls
    cases h : q l <;> simp [h] <;> omega
theorem step_sum (lots : List Lot) (g : Nm × List Nm) : sumG (partStep lots g) = sumG lots + 1 ∧ sumP (partStep lots g) = sumP lots + g.2.length ∧ (partStep lots g).length ≤ lots.length + 1 := by
  unfold partStep
  rw [far_eq, fold_add]
  have h1 := lot_split (fun l => l.g.length) (hits g.2) lots
  have h2 := lot_split (fun l => l.p.length) (hits g.2) lots
  have e1 := flat_sumG (lots.filter (hits g.2))
  have e2 := flat_sumP (lots.filter (hits g.2))
  have h3 : (lots.filter fun l => !hits g.2 l).length ≤ lots.length := List.length_filter_le ..
  unfold sumG sumP at *
  simp only [List.map_append, List.sum_append, List.map_cons, List.map_nil, List.sum_cons, List.sum_nil, List.length_append, List.length_cons, List.length_nil]
  refine ⟨?_, ?_, ?_⟩
  · omega
  · omega
  · omega
theorem fold_sum : ∀ (b : Book) (lots : List Lot), sumG (b.foldl partStep lots) = sumG lots + b.length ∧ sumP (b.foldl partStep lots) = sumP lots + (b.flatMap (·.2)).length ∧ (b.foldl partStep lots).length ≤ lots.length + b.length
  | [], lots => by simp
  | g :: b, lots => by
    obtain ⟨h1, h2, h3⟩ := fold_sum b (partStep lots g)
    obtain ⟨s1, s2, s3⟩ := step_sum lots g
    rw [List.foldl_cons, List.flatMap_cons, List.length_append, List.length_cons]
    omega
theorem step_ne {lots : List Lot} {g : Nm × List Nm} (h : ∀ l ∈ lots, l.g ≠ []) : ∀ l ∈ partStep lots g, l.g ≠ [] := by
  intro l hl
  unfold partStep at hl
  rcases List.mem_append.mp hl with hl | hl
  · exact h l (List.mem_filter.mp hl).1
  · rw [fold_add] at hl
    cases List.mem_singleton.mp hl
    simp
theorem lots_ne : ∀ (b : Book) (lots : List Lot), (∀ l ∈ lots, l.g ≠ []) → ∀ l ∈ b.foldl partStep lots, l.g ≠ []
  | [], lots, h => h
  | g :: b, lots, h => lots_ne b (partStep lots g) (step_ne h)
theorem sum_le (f : Lot → Nat) {l : Lot} : ∀ {ls : List Lot}, l ∈ ls → f l ≤ (ls.map f).sum
  | x :: ls, h => by
    rcases List.mem_cons.mp h with rfl | h
    · simp
    · have := sum_le f h
      simp
      omega
section
variable {P : Prog} (L : LibB P) (hf : P.fn? 324 = some F_parts) {d : PyData} {b : Book} {n : Nat}
@[simp] theorem bind_lot (i j : Nat) (l : Lot) (ρ : Rho) : bindT (.tup [i, j]) (en l) ρ = some ((ρ.set i (some (.v (.list (l.g.map en))))).set j (some (.v (.list (l.p.map en))))) := rfl
include L hf
theorem c_parts (I : Is n d b) (hB : BkS b) (k : Nat) (s : Sto) : callD P (k + n + 3) 324 [.v d] s = .ok (.v (en (partsT b))) s := by
  have h2 := I.c L.tupled (k + 1)
  rw [show k + 1 + n + 1 = k + n + 2 by omega] at h2
  have hbl := hB.len
  have hfl := hB.flat
  refine call_ret (as := [_]) (x := .v (en (partsT b))) (s' := []) hf rfl rfl ?_ rfl s
  simp [F_parts, madeL_ok, h2]
  refine for_fold (g := (en : Nm × List Nm → PyData)) (fun pre ρ s => s = [] ∧ ∃ o2 o3 o4 o5 o6 o7 o8 o9 o10, ρ = [some (.v d), some (.v (.list ((pre.foldl partStep []).map en))), o2, o3, o4, o5, o6, o7, o8, o9, o10]) (fun r => r = _) b ⟨rfl, _, _, _, _, _, _, _, _, _, rfl⟩ ?_ ?_
  · rintro pre g post he _ _ ⟨rfl, o2, o3, o4, o5, o6, o7, o8, o9, o10, rfl⟩
    obtain ⟨lots, hlots⟩ : ∃ lots, lots = pre.foldl partStep [] := ⟨_, rfl⟩
    obtain ⟨s1, s2, s3⟩ := fold_sum pre []
    have hpl : pre.length ≤ b.length := by rw [he]; simp
    have hpf : (pre.flatMap (·.2)).length ≤ (b.flatMap (·.2)).length := by rw [he, List.flatMap_append]; simp
    have hpf2 : (pre.flatMap (·.2)).length + g.2.length ≤ (b.flatMap (·.2)).length := by rw [he, List.flatMap_append, List.flatMap_cons]; simp
    rw [← hlots] at s1 s2 s3
    simp only [sumG, sumP, List.map_nil, List.sum_nil, Nat.zero_add, List.length_nil] at s1 s2 s3
    have near : ∀ a b c d1 e f : Option Xv, turns (compB (cxAt P (k + n + 2)) (.var 4) (.one 4) (.cons (.blt .any (.cons (.comp [5] (.cmp .In (.var 5) (.sub (.var 4) (.cst (.int (1))))) (.one 5) (.seq (.var 3)) .nil) .nil)) .nil) [some (.v d), some (.v (.list (lots.map en))), some (.v (en g.1)), some (.v (en g.2)), none, a, b, c, d1, e, f]) (lots.map en) [] = .ok ((lots.filter (hits g.2)).map en) [] := fun a b' c d1 e f => turns_if (hits g.2) en fun l hl => by
      simp
      rw [turns_all (fun p : Nm => PyData.bool (decide (p ∈ l.p)))]
      · simp only [calm_ok', R.bind_ok]
        rw [madeL_ok (by rw [List.length_map]; omega)]
        simp [hits]
      · intro p hp
        rw [show (en l : PyData) = .tuple [.list (l.g.map en), .list (l.p.map en)] from rfl]
        simp [sub_t, in_l p l.p (by decide)]
    obtain ⟨N, hN⟩ : ∃ N, N = lots.filter (hits g.2) := ⟨_, rfl⟩
    simp only [← hN] at near
    have hnl : N.length ≤ 1000 := by rw [hN]; exact Nat.le_trans (List.length_filter_le ..) (by omega)
    have far : ∀ (N : List Lot) (b c d1 e f : Option Xv), turns (compB (cxAt P (k + n + 2)) (.var 4) (.one 4) (.cons (.cmp .NotIn (.var 4) (.var 6)) .nil) [some (.v d), some (.v (.list (lots.map en))), some (.v (en g.1)), some (.v (en g.2)), none, b, some (.v (.list (N.map en))), c, d1, e, f]) (lots.map en) [] = .ok ((lots.filter fun l => !decide (l ∈ N)).map en) [] := fun N b' c d1 e f => turns_if (fun l => !decide (l ∈ N)) en fun l hl => by
      simp [nin_l l N (by decide)]
    obtain ⟨F, hF⟩ : ∃ F, F = lots.filter fun l => !decide (l ∈ N) := ⟨_, rfl⟩
    have hfl2 : F.length ≤ 1000 := by rw [hF]; exact Nat.le_trans (List.length_filter_le ..) (by omega)
    have far := far N
    simp only [← hF] at far
    have mk : ∀ own : Lot, ∀ s, madeT [.list (own.g.map en), .list (own.p.map en)] s = .ok (.v (en own)) s := fun own s => madeT_ok (by simp)
    have inner : ∀ (b c e f : Option Xv) (r : Fl → Sto → R Fl) (Q : R Fl → Prop), (∀ e f : Option Xv, Q (r (.nx [some (.v d), some (.v (.list (lots.map en))), some (.v (en g.1)), some (.v (en g.2)), b, c, some (.v (.list (N.map en))), some (.v (.list (F.map en))), some (.v (en (N.foldl addLot ⟨[g.1], g.2⟩))), e, f]) [])) →
        Q ((forS (bodyF (cxAt P (k + n + 2)) (.tup [9, 10]) (.cons (.set (.one 8) (.tup (.cons (.bin .Add (.sub (.var 8) (.cst (.int (0)))) (.var 9)) (.cons (.bin .Add (.sub (.var 8) (.cst (.int (1)))) (.var 10)) .nil)))) .nil)) (N.map en) [some (.v d), some (.v (.list (lots.map en))), some (.v (en g.1)), some (.v (en g.2)), b, c, some (.v (.list (N.map en))), some (.v (.list (F.map en))), some (.v (en (⟨[g.1], g.2⟩ : Lot))), e, f] []).bind r) := by
      intro b' c e f r Q hQ
      refine for_fold (fun pre ρ s => s = [] ∧ ∃ e f, ρ = [some (.v d), some (.v (.list (lots.map en))), some (.v (en g.1)), some (.v (en g.2)), b', c, some (.v (.list (N.map en))), some (.v (.list (F.map en))), some (.v (en (pre.foldl addLot ⟨[g.1], g.2⟩))), e, f]) Q N ⟨rfl, _, _, rfl⟩ ?_ ?_
      · rintro pre2 l post2 he2 _ _ ⟨rfl, e, f, rfl⟩
        refine ⟨_, [], ?_, rfl, some (.v (.list (l.g.map en))), some (.v (.list (l.p.map en))), rfl⟩
        rw [f_bind (bind_lot 9 10 l _)]
        obtain ⟨own, hown⟩ : ∃ own, own = pre2.foldl addLot ⟨[g.1], g.2⟩ := ⟨_, rfl⟩
        have hg : own.g.length + l.g.length ≤ 16777216 ∧ own.p.length + l.p.length ≤ 16777216 := by
          rw [fold_add] at hown
          have a1 := flat_sumG N
          have a2 := flat_sumP N
          have b1 := lot_split (fun l => l.g.length) (hits g.2) lots
          have b2 := lot_split (fun l => l.p.length) (hits g.2) lots
          rw [← hN] at b1 b2
          rw [he2] at a1 a2
          rw [List.flatMap_append, List.flatMap_cons, List.length_append, List.length_append] at a1 a2
          rw [← he2] at a1 a2
          simp only [sumG, sumP] at a1 a2
          rw [hown]
          simp only [List.length_append, List.length_cons, List.length_nil]
          omega
        rw [List.foldl_append, ← hown]
        rw [show (en own : PyData) = .tuple [.list (own.g.map en), .list (own.p.map en)] from rfl]
        have m1 := mk (addLot own l)
        simp only [addLot, List.map_append] at m1
        simp [sub_t, op_addL, hg.1, hg.2, m1, addLot]
      · rintro _ _ ⟨rfl, e, f, rfl⟩
        exact hQ e f
    rw [← hlots]
    simp only [f_bind (show bindT (.tup [2, 3]) (en g) _ = some _ from rfl)]
    have m1 : ∀ s, madeL (N.map en) s = .ok (.v (.list (N.map en))) s := fun s => madeL_ok (by rw [List.length_map]; omega)
    have m2 : ∀ s, madeL (F.map en) s = .ok (.v (.list (F.map en))) s := fun s => madeL_ok (by rw [List.length_map]; omega)
    have m3 : ∀ s, madeL [en g.1] s = .ok (.v (.list [en g.1])) s := fun s => madeL_ok (by simp)
    have m4 : ∀ s, madeT [.list [en g.1], .list (g.2.map en)] s = .ok (.v (en (⟨[g.1], g.2⟩ : Lot))) s := fun s => madeT_ok (by simp)
    simp [near, m1, far, m2, m3, m4]
    rw [← hlots]
    refine inner _ _ _ _ _ (fun r => ∃ ρ' s', r = .ok (.nx ρ') s' ∧ s' = [] ∧ ∃ o2 o3 o4 o5 o6 o7 o8 o9 o10, ρ' = [some (.v d), some (.v (.list ((partStep lots g).map en))), o2, o3, o4, o5, o6, o7, o8, o9, o10]) fun e f => ?_
    have m5 : ∀ s, madeL (F.map en ++ [en (N.foldl addLot ⟨[g.1], g.2⟩)]) s = .ok (.v (.list ((partStep lots g).map en))) s := fun s => by
      rw [madeL_ok (by simp; omega), partStep, ← hN, ← hF, List.map_append]
      rfl
    exact ⟨_, _, by simp [m5]; exact ⟨rfl, rfl, rfl, rfl, rfl, rfl, rfl, rfl, rfl⟩, rfl, _, _, _, _, _, _, _, _, _, rfl⟩
  · rintro _ _ ⟨rfl, o2, o3, o4, o5, o6, o7, o8, o9, o10, rfl⟩
    obtain ⟨lots, hlots⟩ : ∃ lots, lots = b.foldl partStep [] := ⟨_, rfl⟩
    obtain ⟨s1, s2, s3⟩ := fold_sum b []
    rw [← hlots] at s1 s2 s3 ⊢
    simp only [sumG, sumP, List.map_nil, List.sum_nil, Nat.zero_add, List.length_nil] at s1 s2 s3
    simp
    rw [turns_all (fun l : Lot => (en (setOf l.g) : PyData))]
    · simp only [calm_ok', R.bind_ok]
      rw [madeL_ok (by rw [List.length_map]; omega)]
      have h5 := c_set_of L.set_of true (lots.map fun l => setOf l.g) (by decide) (by rw [List.length_map]; omega) (.inl fun x hx => ?_) (k + n + 1) []
      · rw [List.map_map] at h5
        simp only [sq, Function.comp_def, if_true] at h5
        simp [h5, partsT, ← hlots]
        rfl
      · obtain ⟨l, hl, rfl⟩ := List.mem_map.mp hx
        rw [hlots] at hl
        have := lots_ne b [] (fun _ h => by cases h) l hl
        cases e : setOf l.g with
        | nil =>
          exfalso
          cases e2 : l.g with
          | nil => exact this e2
          | cons a r =>
            have : a ∈ setOf l.g := mem_setOf.mpr (by rw [e2]; simp)
            rw [e] at this
            cases this
        | cons a r => exact ⟨_, _, rfl⟩
    · intro l hl
      have hlg := sum_le (fun l => l.g.length) hl
      have h6 := c_set_nm L.set_of l.g (by omega) (k + n + 1) []
      rw [c_bind (bind_lot 9 10 l _)]
      simp [h6]
end
end Mi
end

section
/-! MiPartsM: what hangs together: the lots of groups and people. -/
namespace Mi
open PySem
open En (en)
/-- groups (true, g) and people (false, p) that hang together -/
inductive Con (b : Book) : Bool × Nm → Bool × Nm → Prop
  | refl (x : Bool × Nm) : Con b x x
  | mem {g : Nm} {ms : List Nm} {p : Nm} : (g, ms) ∈ b → p ∈ ms → Con b (true, g) (false, p)
  | symm {x y : Bool × Nm} : Con b x y → Con b y x
  | trans {x y z : Bool × Nm} : Con b x y → Con b y z → Con b x z
theorem Con.mono {b c : Book} (h : ∀ g ∈ b, g ∈ c) {x y : Bool × Nm} (r : Con b x y) : Con c x y := by
  induction r with
  | refl x => exact .refl x
  | mem h1 h2 => exact .mem (h _ h1) h2
  | symm _ ih => exact .symm ih
  | trans _ _ ih1 ih2 => exact .trans ih1 ih2
/-- a group or a person of a lot -/
def Lot.has (l : Lot) (x : Bool × Nm) : Prop := if x.1 then x.2 ∈ l.g else x.2 ∈ l.p
@[simp] theorem has_t (l : Lot) (g : Nm) : l.has (true, g) ↔ g ∈ l.g := Iff.rfl
@[simp] theorem has_f (l : Lot) (p : Nm) : l.has (false, p) ↔ p ∈ l.p := by simp [Lot.has]
structure LotsOk (b : Book) (lots : List Lot) : Prop where
  nd : lots.Nodup
  con : ∀ l ∈ lots, ∀ x y, l.has x → l.has y → Con b x y
  cov : ∀ g ∈ b, ∃ l ∈ lots, g.1 ∈ l.g ∧ ∀ p ∈ g.2, p ∈ l.p
  src : ∀ l ∈ lots, ∀ g ∈ l.g, g ∈ groupsT b
  srp : ∀ l ∈ lots, ∀ p ∈ l.p, ∃ g ∈ b, p ∈ g.2 ∧ g.1 ∈ l.g
  dis : ∀ l ∈ lots, ∀ l' ∈ lots, ∀ x, l.has x → l'.has x → l = l'
  ne : ∀ l ∈ lots, l.g ≠ []
theorem lots_step {pre : Book} {lots : List Lot} (h : LotsOk pre lots) {g : Nm × List Nm} (hg : g.1 ∉ groupsT pre) : LotsOk (pre ++ [g]) (partStep lots g) := by
  unfold partStep
  rw [far_eq, fold_add]
  obtain ⟨own, hown⟩ : ∃ own : Lot, own = ⟨[g.1] ++ (lots.filter (hits g.2)).flatMap (·.g), g.2 ++ (lots.filter (hits g.2)).flatMap (·.p)⟩ := ⟨_, rfl⟩
  have og : ∀ x, x ∈ own.g ↔ x = g.1 ∨ ∃ l ∈ lots, hits g.2 l = true ∧ x ∈ l.g := by
    intro x
    rw [hown]
    simp [List.mem_flatMap, List.mem_filter, and_assoc]
  have op : ∀ x, x ∈ own.p ↔ x ∈ g.2 ∨ ∃ l ∈ lots, hits g.2 l = true ∧ x ∈ l.p := by
    intro x
    rw [hown]
    simp [List.mem_flatMap, List.mem_filter, and_assoc]
  have hhit : ∀ l : Lot, hits g.2 l = true ↔ ∃ p ∈ g.2, p ∈ l.p := by
    intro l
    simp [hits]
  show LotsOk (pre ++ [g]) ((lots.filter fun l => !hits g.2 l) ++ [⟨[g.1] ++ (lots.filter (hits g.2)).flatMap (·.g), g.2 ++ (lots.filter (hits g.2)).flatMap (·.p)⟩])
  rw [← hown]
  have hsub : ∀ o ∈ pre, o ∈ pre ++ [g] := fun o ho => List.mem_append_left _ ho
  have hgo : g.1 ∈ own.g := (og _).mpr (.inl rfl)
  have mem' : ∀ l, l ∈ (lots.filter fun l => !hits g.2 l) ++ [own] ↔ (l ∈ lots ∧ hits g.2 l = false) ∨ l = own := by
    intro l
    simp [List.mem_filter]
  have apart : ∀ l ∈ lots, hits g.2 l = false → ∀ x, l.has x → ¬ own.has x := by
    intro l hl hh x h1 h2
    obtain ⟨c, x⟩ := x
    cases c with
    | true =>
      rw [has_t] at h1 h2
      rcases (og x).mp h2 with rfl | ⟨l', hl', hh', hx⟩
      · exact hg (h.src l hl _ h1)
      · have := h.dis l hl l' hl' (true, x) (by simpa using h1) (by simpa using hx)
        rw [this, hh'] at hh
        cases hh
    | false =>
      rw [has_f] at h1 h2
      rcases (op x).mp h2 with hx | ⟨l', hl', hh', hx⟩
      · have : hits g.2 l = true := (hhit l).mpr ⟨x, hx, h1⟩
        rw [hh] at this
        cases this
      · have := h.dis l hl l' hl' (false, x) (by simpa using h1) (by simpa using hx)
        rw [this, hh'] at hh
        cases hh
  have toG : ∀ x, own.has x → Con (pre ++ [g]) (true, g.1) x := by
    intro x hx
    have hme : (g.1, g.2) ∈ pre ++ [g] := by simp
    have near : ∀ l ∈ lots, hits g.2 l = true → l.has x → Con (pre ++ [g]) (true, g.1) x := by
      intro l hl hh hlx
      obtain ⟨p, hp1, hp2⟩ := (hhit l).mp hh
      exact (Con.mem hme hp1).trans ((h.con l hl (false, p) x (by simpa using hp2) hlx).mono hsub)
    obtain ⟨c, x⟩ := x
    cases c with
    | true =>
      rcases (og x).mp (by simpa using hx) with rfl | ⟨l, hl, hh, hlx⟩
      · exact .refl _
      · exact near l hl hh (by simpa using hlx)
    | false =>
      rcases (op x).mp (by simpa using hx) with hx | ⟨l, hl, hh, hlx⟩
      · exact .mem hme hx
      · exact near l hl hh (by simpa using hlx)
  refine ⟨?_, fun l hl x y hx hy => ?_, fun o ho => ?_, fun l hl x hx => ?_, fun l hl p hp => ?_, fun l hl l' hl' x h1 h2 => ?_, fun l hl => ?_⟩
  · rw [List.nodup_append]
    refine ⟨h.nd.filter _, by simp, fun l hl l' hl' e => ?_⟩
    cases List.mem_singleton.mp hl'
    rw [List.mem_filter] at hl
    have hh : hits g.2 l = false := by simpa using hl.2
    exact apart l hl.1 hh (true, g.1) (by rw [e]; simpa using hgo) (by simpa using hgo)
  · rcases (mem' l).mp hl with ⟨hl, _⟩ | rfl
    · exact (h.con l hl x y hx hy).mono hsub
    · exact (toG x hx).symm.trans (toG y hy)
  · rcases List.mem_append.mp ho with ho | ho
    · obtain ⟨l, hl, h1, h2⟩ := h.cov o ho
      cases hh : hits g.2 l with
      | true => exact ⟨own, (mem' _).mpr (.inr rfl), (og _).mpr (.inr ⟨l, hl, hh, h1⟩), fun p hp => (op _).mpr (.inr ⟨l, hl, hh, h2 p hp⟩)⟩
      | false => exact ⟨l, (mem' _).mpr (.inl ⟨hl, hh⟩), h1, h2⟩
    · cases List.mem_singleton.mp ho
      exact ⟨own, (mem' _).mpr (.inr rfl), hgo, fun p hp => (op _).mpr (.inl hp)⟩
  · have hpre : ∀ y, y ∈ groupsT pre → y ∈ groupsT (pre ++ [g]) := fun y hy => by
      rw [groupsT, List.map_append]
      exact List.mem_append_left _ hy
    rcases (mem' l).mp hl with ⟨hl, _⟩ | rfl
    · exact hpre _ (h.src l hl x hx)
    · rcases (og x).mp hx with rfl | ⟨l, hl, hh, hlx⟩
      · rw [groupsT, List.map_append]
        simp
      · exact hpre _ (h.src l hl x hlx)
  · rcases (mem' l).mp hl with ⟨hl, _⟩ | rfl
    · obtain ⟨o, ho, h1, h2⟩ := h.srp l hl p hp
      exact ⟨o, hsub o ho, h1, h2⟩
    · rcases (op p).mp hp with hp | ⟨l, hl, hh, hlx⟩
      · exact ⟨g, by simp, hp, hgo⟩
      · obtain ⟨o, ho, h1, h2⟩ := h.srp l hl p hlx
        exact ⟨o, hsub o ho, h1, (og _).mpr (.inr ⟨l, hl, hh, h2⟩)⟩
  · rcases (mem' l).mp hl with ⟨a1, a2⟩ | rfl
    · rcases (mem' l').mp hl' with ⟨b1, b2⟩ | rfl
      · exact h.dis l a1 l' b1 x h1 h2
      · exact absurd h2 (apart l a1 a2 x h1)
    · rcases (mem' l').mp hl' with ⟨b1, b2⟩ | rfl
      · exact absurd h1 (apart l' b1 b2 x h2)
      · rfl
  · rcases (mem' l).mp hl with ⟨a1, a2⟩ | rfl
    · exact h.ne l a1
    · intro e
      rw [e] at hgo
      cases hgo
theorem lots_go : ∀ (post pre : Book) (lots : List Lot), LotsOk pre lots → ((pre ++ post).map (·.1)).Nodup → LotsOk (pre ++ post) (post.foldl partStep lots)
  | [], pre, lots, h, _ => by rw [List.append_nil]; exact h
  | g :: post, pre, lots, h, hn => by
    have := lots_go post (pre ++ [g]) (partStep lots g) (lots_step h (by
      rw [List.map_append, List.map_cons, List.nodup_append] at hn
      exact fun hm => hn.2.2 _ hm _ (List.mem_cons_self ..) rfl)) (by rw [List.append_assoc]; exact hn)
    rw [List.append_assoc] at this
    exact this
theorem lots_ok {b : Book} (h : (b.map (·.1)).Nodup) : LotsOk b (b.foldl partStep []) :=
  lots_go b [] [] ⟨.nil, (fun _ h => nomatch h), (fun _ h => nomatch h), (fun _ h => nomatch h), (fun _ h => nomatch h), (fun _ h => nomatch h), (fun _ h => nomatch h)⟩ h
theorem LotsOk.same {b : Book} {lots : List Lot} (h : LotsOk b lots) {x y : Bool × Nm} (r : Con b x y) : ∀ l ∈ lots, l.has x ↔ l.has y := by
  induction r with
  | refl x => exact fun l _ => Iff.rfl
  | mem h1 h2 =>
    intro l hl
    obtain ⟨l0, hl0, a1, a2⟩ := h.cov _ h1
    constructor
    · intro hx
      rw [h.dis l hl l0 hl0 _ hx (by simpa using a1)]
      simpa using a2 _ h2
    · intro hx
      rw [h.dis l hl l0 hl0 _ hx (by simpa using a2 _ h2)]
      simpa using a1
  | symm _ ih => exact fun l hl => (ih l hl).symm
  | trans _ _ ih1 ih2 => exact fun l hl => (ih1 l hl).trans (ih2 l hl)
/-- lists compared by places -/
theorem length_le_of {α β : Type} (R : α → β → Prop) : ∀ {xs : List α} {ys : List β}, xs.Nodup → (∀ x ∈ xs, ∃ y ∈ ys, R x y) → (∀ x ∈ xs, ∀ x' ∈ xs, ∀ y, R x y → R x' y → x = x') → xs.length ≤ ys.length
  | [], ys, _, _, _ => Nat.zero_le _
  | x :: xs, ys, hn, he, hu => by
    obtain ⟨y, hy, hr⟩ := he x (List.mem_cons_self ..)
    obtain ⟨a, c, rfl⟩ := List.append_of_mem hy
    rw [List.nodup_cons] at hn
    have := length_le_of R (xs := xs) (ys := a ++ c) hn.2 (fun z hz => ?_) (fun z hz z' hz' w => hu z (List.mem_cons_of_mem _ hz) z' (List.mem_cons_of_mem _ hz') w)
    · simp at this ⊢
      omega
    · obtain ⟨w, hw, hr'⟩ := he z (List.mem_cons_of_mem _ hz)
      rcases List.mem_append.mp hw with hw | hw
      · exact ⟨w, List.mem_append_left _ hw, hr'⟩
      · rcases List.mem_cons.mp hw with rfl | hw
        · have := hu x (List.mem_cons_self ..) z (List.mem_cons_of_mem _ hz) _ hr hr'
          rw [this] at hn
          exact absurd hz hn.1
        · exact ⟨w, List.mem_append_right _ hw, hr'⟩
theorem parts_len {b : Book} (h : (b.map (·.1)).Nodup) : (partsT b).length = (b.foldl partStep []).length := by
  have ok := lots_ok h
  have hn : ((b.foldl partStep []).map fun l => setOf l.g).Nodup := by
    have : ∀ ls : List Lot, (∀ l ∈ ls, l ∈ b.foldl partStep []) → ls.Nodup → (ls.map fun l => setOf l.g).Nodup := by
      intro ls
      induction ls with
      | nil => exact fun _ _ => .nil
      | cons l ls ih =>
        intro hs hn
        rw [List.nodup_cons] at hn
        rw [List.map_cons, List.nodup_cons]
        refine ⟨fun hm => ?_, ih (fun x hx => hs x (List.mem_cons_of_mem _ hx)) hn.2⟩
        obtain ⟨l', hl', e⟩ := List.mem_map.mp hm
        have hl := hs l (List.mem_cons_self ..)
        cases eg : l.g with
        | nil => exact ok.ne l hl eg
        | cons x r =>
          have hx : x ∈ setOf l.g := mem_setOf.mpr (by rw [eg]; simp)
          rw [← e] at hx
          have := ok.dis l hl l' (hs l' (List.mem_cons_of_mem _ hl')) (true, x) (by simp [eg]) (by simpa using mem_setOf.mp hx)
          rw [this] at hn
          exact hn.1 hl'
    exact this _ (fun _ h => h) ok.nd
  unfold partsT
  rw [← List.length_map (as := b.foldl partStep []) (f := fun l => setOf l.g)]
  exact ((List.perm_ext_iff_of_nodup (setOf_asc _).nodup hn).mpr fun x => mem_setOf).length_eq
end Mi
end

section
set_option maxRecDepth 100000
/-! MiLib3: names, rises, books: what the package's looks answer of any plain datum. -/
namespace Mi
open PySem
open En (en)
def ltrs : List Nat := ("abcdefghijklmnopqrstuvwxyz" : Str).cps.toList
def nameD : PyData → Bool
  | .str x => (decide (1 ≤ x.length) && decide (x.length ≤ 8)) && x.cps.toList.all fun c => decide (c ∈ ltrs)
  | _ => false
structure Lib3 (P : Prog) : Prop where
  g0 : P.glob.lookup 0 = some (.str "abcdefghijklmnopqrstuvwxyz")
  g1 : P.glob.lookup 1 = some (.int 8)
  g2 : P.glob.lookup 2 = some (.int 2)
def F_is_name : Fn := ⟨1, 2, false, (.cons (.ret (.and (.isi (.var 0) ["str"]) (.and (.chain .LtE .LtE (.cst (.int (1))) (.blt .len (.cons (.var 0) .nil)) (.glob 1)) (.blt .all (.cons (.comp [1] (.cmp .In (.var 1) (.glob 0)) (.one 1) (.seq (.var 0)) .nil) .nil))))) .nil)⟩
theorem in_chr (c : Nat) (y : Str) {s : Sto} : cmpX .In (.v (.str ⟨#[c]⟩)) (.v (.str y)) s = .ok (.v (.bool (decide (c ∈ y.cps.toList)))) s := by simp [cmpX, rd, cmpD, inD]
theorem nin_chr (c : Nat) (y : Str) {s : Sto} : cmpX .NotIn (.v (.str ⟨#[c]⟩)) (.v (.str y)) s = .ok (.v (.bool (!decide (c ∈ y.cps.toList)))) s := by simp [cmpX, rd, cmpD, inD]
theorem len_s {x : Str} (h : x.length ≤ 16777216) {s : Sto} : bltX .len [.v (.str x)] s = .ok (.v (.int x.length)) s := by simp [bltX, rdAll, rd, bltD, szOk, h]
theorem chars_len (x : Str) : x.cps.toList.length = x.length := by simp [Str.length]
/-- lengths of texts and rows, all the way down -/
inductive Small : PyData → Prop
  | none : Small .none
  | bool (b : Bool) : Small (.bool b)
  | int (i : Int) : Small (.int i)
  | str {x : Str} : x.length ≤ 1000 → Small (.str x)
  | list {ds : List PyData} : ds.length ≤ 1000 → (∀ d ∈ ds, Small d) → Small (.list ds)
  | tuple {ds : List PyData} : ds.length ≤ 1000 → (∀ d ∈ ds, Small d) → Small (.tuple ds)
section
variable {P : Prog}
theorem c_is_name (L : Lib3 P) (h : P.fn? 226 = some F_is_name) {d : PyData} (hd : Small d) (k : Nat) (s : Sto) : callD P (k + 1) 226 [.v d] s = .ok (.v (.bool (nameD d))) s := by
  refine call_ret (as := [_]) (x := .v (.bool (nameD d))) (s' := []) h rfl rfl ?_ rfl s
  cases hd with
  | str hx =>
    rename_i x
    have hl : x.length ≤ 16777216 := by omega
    simp [F_is_name, isiD, tyOf, len_s hl, L.g1]
    by_cases h1 : 1 ≤ x.length ∧ x.length ≤ 8
    · have e1 : (1 : Int) ≤ x.length := by omega
      have e2 : (x.length : Int) ≤ 8 := by omega
      simp [e1, e2, chars]
      rw [turns_all (fun c => PyData.bool (decide (c ∈ ltrs)))]
      · simp only [calm_ok', R.bind_ok]
        rw [madeL_ok (by rw [List.length_map, chars_len]; omega)]
        simp [nameD, h1.1, h1.2]
      · intro c hc
        simp [L.g0, in_chr, ltrs]
    · have hf : (decide (1 ≤ x.length) && decide (x.length ≤ 8)) = false := by
        simp; omega
      by_cases e1 : (1 : Int) ≤ x.length
      · have e2 : ¬ (x.length : Int) ≤ 8 := by omega
        simp [e1, e2, nameD, hf]
      · simp [e1, nameD, hf]
  | _ => simp [F_is_name, isiD, tyOf, nameD]
def F_rises : Fn := ⟨1, 3, false, (.cons (.ret (.blt .all (.cons (.comp [1, 2] (.cmp .Lt (.var 1) (.var 2)) (.tup [1, 2]) (.zip (.var 0) (.slice (.var 0) true (.cst (.int (1))) false (.cst .none))) .nil) .nil))) .nil)⟩
/-- near ones rise -/
def risesT {α : Type} [En α] (xs : List α) : Bool := (xs.zip xs.tail).all fun p => lt p.1 p.2
theorem rises_asc {α : Type} [En α] : ∀ xs : List α, risesT xs = true ↔ Asc xs
  | [] => by simp [risesT, Asc]
  | [x] => by simp [risesT, Asc]
  | x :: y :: r => by
    have ih := rises_asc (y :: r)
    have e : risesT (x :: y :: r) = (lt x y && risesT (y :: r)) := rfl
    rw [e, Bool.and_eq_true, ih]
    unfold Asc
    rw [List.pairwise_cons (a := x)]
    constructor
    · rintro ⟨h1, h2⟩
      refine ⟨fun z hz => ?_, h2⟩
      rcases List.mem_cons.mp hz with rfl | hz
      · exact h1
      · exact lt_trans h1 ((List.pairwise_cons.mp h2).1 z hz)
    · rintro ⟨h1, h2⟩
      exact ⟨h1 y (List.mem_cons_self ..), h2⟩
theorem lt_nm (x y : Nm) {s : Sto} : cmpX .Lt (.v (en x)) (.v (en y)) s = .ok (.v (.bool (lt x y))) s := by
  show cmpX .Lt (.v (.str x.s)) (.v (.str y.s)) s = _
  simp only [cmpX, rd, cmpD, ltD]
  congr 3
  unfold lt strLt
  exact (PySem.W.dataLt_str x.s y.s).symm
theorem zipL_en {α β : Type} [En α] [En β] : ∀ (xs : List α) (ys : List β), zipL (xs.map en) (ys.map en) = (xs.zip ys).map en
  | [], _ => rfl
  | _ :: _, [] => rfl
  | x :: xs, y :: ys => by simp only [List.map_cons, zipL, List.zip_cons_cons, zipL_en xs ys]; rfl
theorem c_rises (h : P.fn? 347 = some F_rises) (b : Bool) (xs : List Nm) (hl : xs.length ≤ 16777216) (k : Nat) (s : Sto) : callD P (k + 1) 347 [.v (if b then .list (xs.map en) else .tuple (xs.map en))] s = .ok (.v (.bool (risesT xs))) s := by
  refine call_ret (as := [_]) (x := .v (.bool (risesT xs))) (s' := []) h rfl rfl ?_ rfl s
  have hz : (xs.zip xs.tail).length ≤ 16777216 := by rw [List.length_zip]; omega
  have tn : turns (compB (cxAt P k) (.cmp .Lt (.var 1) (.var 2)) (.tup [1, 2]) .nil [some (.v (if b then .list (xs.map en) else .tuple (xs.map en))), none, none]) ((xs.zip xs.tail).map en) [] = .ok ((xs.zip xs.tail).map fun p => .bool (lt p.1 p.2)) [] := by
    rw [turns_all (fun p : Nm × Nm => PyData.bool (lt p.1 p.2))]
    intro p hp
    rw [c_bind (ρ1 := [some (.v (if b then .list (xs.map en) else .tuple (xs.map en))), some (.v (en p.1)), some (.v (en p.2))]) rfl]
    simp [lt_nm]
  cases b
  · simp [F_rises, zipX]
    simp at tn
    rw [← List.map_tail, zipL_en, tn]
    simp only [calm_ok', R.bind_ok]
    rw [madeL_ok (by rw [List.length_map]; exact hz)]
    simp [risesT]
  · simp [F_rises, zipX]
    simp at tn
    rw [← List.map_tail, zipL_en, tn]
    simp only [calm_ok', R.bind_ok]
    rw [madeL_ok (by rw [List.length_map]; exact hz)]
    simp [risesT]

/-! ### any datum -/
def risesD (ds : List PyData) : Bool := (ds.zip ds.tail).all fun p => PySem.W.dataLt p.1 p.2
theorem risesD_map {α : Type} [En α] (xs : List α) : risesD (xs.map en) = risesT xs := by
  unfold risesD risesT
  rw [← List.map_tail, List.zip_map, List.all_map]
  rfl
def nameSetD : PyData → Bool
  | .tuple ds => ds.all nameD && risesD ds
  | _ => false
def groupD : PyData → Bool
  | .tuple [a, b] => nameD a && (nameSetD b && !PyData.eqv b (.tuple []))
  | _ => false
def fstD : PyData → PyData
  | .tuple (a :: _) => a
  | _ => .none
def bookD : PyData → Bool
  | .tuple ds => !ds.isEmpty && (ds.all groupD && risesD (ds.map fstD))
  | _ => false
theorem ltrs_ok : ∀ c ∈ ltrs, c < 1114112 := by decide +kernel
theorem name_nm {d : PyData} (h : nameD d = true) : ∃ x : Nm, d = en x := by
  cases d with
  | str x =>
    refine ⟨⟨x, ?_⟩, rfl⟩
    simp only [nameD, Bool.and_eq_true, List.all_eq_true] at h
    unfold PyData.strOk
    rw [← Array.all_toList, List.all_eq_true]
    intro c hc
    exact decide_eq_true (ltrs_ok c (of_decide_eq_true (h.2 c hc)))
  | _ => simp [nameD] at h
theorem names_nm : ∀ {ds : List PyData}, (ds.all nameD) = true → ∃ xs : List Nm, ds = xs.map en
  | [], _ => ⟨[], rfl⟩
  | d :: ds, h => by
    rw [List.all_cons, Bool.and_eq_true] at h
    obtain ⟨x, rfl⟩ := name_nm h.1
    obtain ⟨xs, rfl⟩ := names_nm h.2
    exact ⟨x :: xs, rfl⟩
theorem Small.items {ds : List PyData} (h : Small (.tuple ds)) : ds.length ≤ 1000 ∧ ∀ d ∈ ds, Small d := by
  cases h with
  | tuple a b => exact ⟨a, b⟩
theorem all_bool {ds : List PyData} {f : PyData → Bool} (hl : ds.length ≤ 16777216) {s : Sto} : bltX .all [.v (.list (ds.map fun d => .bool (f d)))] s = .ok (.v (.bool (ds.all f))) s := by simp
def F_is_name_set : Fn := ⟨1, 2, false, (.cons (.ret (.and (.isi (.var 0) ["tuple"]) (.and (.blt .all (.cons (.comp [1] (.call 226 (.cons (.var 1) .nil)) (.one 1) (.seq (.var 0)) .nil) .nil)) (.call 347 (.cons (.var 0) .nil))))) .nil)⟩
theorem c_is_name_set (L : Lib3 P) (h1 : P.fn? 226 = some F_is_name) (h2 : P.fn? 347 = some F_rises) (h : P.fn? 227 = some F_is_name_set) {d : PyData} (hd : Small d) (k : Nat) (s : Sto) : callD P (k + 2) 227 [.v d] s = .ok (.v (.bool (nameSetD d))) s := by
  refine call_ret (as := [_]) (x := .v (.bool (nameSetD d))) (s' := []) h rfl rfl ?_ rfl s
  cases d with
  | tuple ds =>
    obtain ⟨hl, hs⟩ := hd.items
    simp [F_is_name_set, isiD, tyOf]
    rw [show turns (compB (cxAt P (k + 1)) (.call 226 (.cons (.var 1) .nil)) (.one 1) .nil [some (.v (.tuple ds)), none]) ds [] = turns (compB (cxAt P (k + 1)) (.call 226 (.cons (.var 1) .nil)) (.one 1) .nil [some (.v (.tuple ds)), none]) (ds.map id) [] by rw [List.map_id], turns_all (fun d => PyData.bool (nameD d))]
    · simp only [calm_ok', R.bind_ok]
      rw [madeL_ok (by rw [List.length_map]; omega)]
      simp only [R.bind_ok, k_ex, x_nil, k_ex1, all_bool (show ds.length ≤ 16777216 by omega), k_and, nameSetD]
      cases hq : ds.all nameD with
      | false => simp
      | true =>
        obtain ⟨xs, rfl⟩ := names_nm hq
        have := c_rises h2 false xs (by rw [List.length_map] at hl; omega) k []
        simp at this
        simp [this, risesD_map]
    · intro x hx
      simp [c_is_name L h1 (hs x hx)]
  | _ => simp [F_is_name_set, isiD, tyOf, nameSetD]

theorem turns_id {f : PyData → Sto → R (List PyData)} {ds : List PyData} {g : PyData → PyData} {s : Sto} (h : ∀ d ∈ ds, f d s = .ok [g d] s) : turns f ds s = .ok (ds.map g) s := by
  have := turns_all (g := id) (f := f) (s := s) g (xs := ds) h
  rwa [List.map_id] at this
theorem turns_idif {f : PyData → Sto → R (List PyData)} {ds : List PyData} {p : PyData → Bool} {s : Sto} (h : ∀ d ∈ ds, f d s = if p d then .ok [d] s else .ok [] s) : turns f ds s = .ok (ds.filter p) s := by
  have := turns_if (g := id) (f := f) (s := s) p id (xs := ds) h
  rwa [List.map_id, List.map_id] at this
def F_is_group : Fn := ⟨1, 1, false, (.cons (.ite (.or (.not (.isi (.var 0) ["tuple"])) (.or (.cmp .NotEq (.blt .len (.cons (.var 0) .nil)) (.glob 2)) (.not (.call 226 (.cons (.sub (.var 0) (.cst (.int (0)))) .nil))))) (.cons (.ret (.cst (.bool false))) .nil) .nil) (.cons (.ret (.and (.call 227 (.cons (.sub (.var 0) (.cst (.int (1)))) .nil)) (.cmp .Gt (.blt .len (.cons (.sub (.var 0) (.cst (.int (1)))) .nil)) (.cst (.int (0)))))) .nil))⟩
theorem eqv_empty (ds : List PyData) : PyData.eqv (.tuple ds) (.tuple []) = ds.isEmpty := by cases ds <;> simp [PyData.eqv, PyData.eqvAll]
theorem c_is_group (L : Lib3 P) (h1 : P.fn? 226 = some F_is_name) (h2 : P.fn? 347 = some F_rises) (h3 : P.fn? 227 = some F_is_name_set) (h : P.fn? 221 = some F_is_group) {d : PyData} (hd : Small d) (k : Nat) (s : Sto) : callD P (k + 3) 221 [.v d] s = .ok (.v (.bool (groupD d))) s := by
  refine call_ret (as := [_]) (x := .v (.bool (groupD d))) (s' := []) h rfl rfl ?_ rfl s
  cases d with
  | tuple ds =>
    obtain ⟨hl, hs⟩ := hd.items
    match ds, hl, hs with
    | [], _, _ => simp [F_is_group, isiD, tyOf, L.g2, groupD]
    | [a], _, _ => simp [F_is_group, isiD, tyOf, L.g2, groupD]
    | [a, b], _, hs =>
      have sa := hs a (by simp)
      have sb := hs b (by simp)
      simp [F_is_group, isiD, tyOf, L.g2, sub_t, c_is_name L h1 sa (k + 1), groupD]
      cases hn : nameD a with
      | false => simp
      | true =>
        simp [sub_t, c_is_name_set L h1 h2 h3 sb k]
        cases b with
        | tuple bs =>
          simp [eqv_empty]
          cases hq : nameSetD (.tuple bs) with
          | false => simp
          | true => cases bs <;> simp
        | _ => simp [nameSetD]
    | a :: b :: c :: r, _, _ =>
      have : ¬ ((r.length : Int) + 1 + 1 + 1 = 2) := by omega
      simp [F_is_group, isiD, tyOf, L.g2, groupD, this]
  | _ => simp [F_is_group, isiD, tyOf, groupD]
def F_is_book : Fn := ⟨1, 2, false, (.cons (.ite (.or (.not (.isi (.var 0) ["tuple"])) (.or (.cmp .Eq (.blt .len (.cons (.var 0) .nil)) (.cst (.int (0)))) (.not (.blt .all (.cons (.comp [1] (.call 221 (.cons (.var 1) .nil)) (.one 1) (.seq (.var 0)) .nil) .nil))))) (.cons (.ret (.cst (.bool false))) .nil) .nil) (.cons (.ret (.call 347 (.cons (.comp [1] (.sub (.var 1) (.cst (.int (0)))) (.one 1) (.seq (.var 0)) .nil) .nil))) .nil))⟩
theorem group_fst {d : PyData} (h : groupD d = true) : ∃ a b, d = .tuple [a, b] ∧ nameD a = true ∧ nameSetD b = true ∧ PyData.eqv b (.tuple []) = false := by
  unfold groupD at h
  split at h
  · simp only [Bool.and_eq_true, Bool.not_eq_true'] at h
    exact ⟨_, _, rfl, h.1, h.2.1, h.2.2⟩
  · cases h
theorem fsts_nm {ds : List PyData} (h : ds.all groupD = true) : ∃ xs : List Nm, ds.map fstD = xs.map en := by
  refine names_nm ?_
  rw [List.all_eq_true] at h ⊢
  intro d hd
  obtain ⟨e, he, rfl⟩ := List.mem_map.mp hd
  obtain ⟨a, b, rfl, h1, _, _⟩ := group_fst (h e he)
  exact h1
theorem c_is_book (L : Lib3 P) (h1 : P.fn? 226 = some F_is_name) (h2 : P.fn? 347 = some F_rises) (h3 : P.fn? 227 = some F_is_name_set) (h4 : P.fn? 221 = some F_is_group) (h : P.fn? 212 = some F_is_book) {d : PyData} (hd : Small d) (k : Nat) (s : Sto) : callD P (k + 4) 212 [.v d] s = .ok (.v (.bool (bookD d))) s := by
  refine call_ret (as := [_]) (x := .v (.bool (bookD d))) (s' := []) h rfl rfl ?_ rfl s
  cases d with
  | tuple ds =>
    obtain ⟨hl, hs⟩ := hd.items
    have t1 : turns (compB (cxAt P (k + 3)) (.call 221 (.cons (.var 1) .nil)) (.one 1) .nil [some (.v (.tuple ds)), none]) ds [] = .ok (ds.map fun d => .bool (groupD d)) [] := turns_id fun d hd => by simp [c_is_group L h1 h2 h3 h4 (hs d hd) k]
    cases ds with
    | nil => simp [F_is_book, isiD, tyOf, bookD]
    | cons d0 ds0 =>
      have hne : ¬ (((d0 :: ds0).length : Int) = 0) := by simp; omega
      generalize hds : d0 :: ds0 = ds at *
      have hemp : ds.isEmpty = false := by rw [← hds]; rfl
      simp [F_is_book, isiD, tyOf, hne]
      rw [t1]
      simp only [calm_ok', R.bind_ok]
      rw [madeL_ok (by rw [List.length_map]; omega)]
      simp only [R.bind_ok, k_ex, x_nil, k_ex1, all_bool (show ds.length ≤ 16777216 by omega), not_b, bookD, hemp]
      cases hq : ds.all groupD with
      | false => simp
      | true =>
        have t2 : turns (compB (cxAt P (k + 3)) (.sub (.var 1) (.cst (.int 0))) (.one 1) .nil [some (.v (.tuple ds)), none]) ds [] = .ok (ds.map fstD) [] := turns_id fun d hd => by
          obtain ⟨a, b, rfl, _⟩ := group_fst (List.all_eq_true.mp hq d hd)
          simp [sub_t, fstD]
        obtain ⟨xs, hx⟩ := fsts_nm hq
        have hxl : xs.length = ds.length := by
          have := congrArg List.length hx
          simpa using this.symm
        have c := c_rises h2 true xs (by omega) (k + 2) []
        simp at c
        simp [t2, hx, madeL_ok (show (xs.map (en : Nm → PyData)).length ≤ 16777216 by rw [List.length_map]; omega), c, risesD_map]
        exact fun e => by rw [e] at hemp; cases hemp
  | _ => simp [F_is_book, isiD, tyOf, bookD]
end
end Mi
end

section
/-! MiBookM: books in plain words. -/
namespace Mi
open PySem
open En (en)
theorem lt_pr {α β : Type} [En α] [En β] {x x' : α} {y y' : β} (h : lt x x' = true) : lt (x, y) (x', y') = true := by
  have hne := lt_ne h
  have e : PyData.eqv (en x) (en x') = false := by
    cases e : PyData.eqv (en x) (en x') with
    | false => rfl
    | true => exact absurd ((En.eqv_iff x x').mp e) hne
  show PySem.W.dataLt (.tuple [en x, en y]) (.tuple [en x', en y']) = true
  rw [PySem.W.dataLt_pair (En.ak x x') (En.ak y y'), e]
  exact h
theorem asc_pr {α β : Type} [En α] [En β] {xs : List (α × β)} (h : Asc (xs.map (·.1))) : Asc xs := by
  induction xs with
  | nil => exact .nil
  | cons p xs ih =>
    rw [List.map_cons] at h
    have h' := List.pairwise_cons.mp h
    refine List.pairwise_cons.mpr ⟨fun q hq => ?_, ih h'.2⟩
    obtain ⟨a, b⟩ := p
    obtain ⟨c, d⟩ := q
    exact lt_pr (h'.1 c (List.mem_map.mpr ⟨_, hq, rfl⟩))
theorem asc_filter {α : Type} [En α] {xs : List α} (h : Asc xs) (p : α → Bool) : Asc (xs.filter p) := List.Pairwise.filter p h
theorem isort_eq_of {α : Type} [En α] [DecidableEq α] {xs ys : List α} (hx : xs.Nodup) (hy : Asc ys) (h : ∀ x, x ∈ xs ↔ x ∈ ys) : isort xs = ys := asc_eq (isort_asc hx) hy fun x => by rw [mem_isort]; exact h x
theorem setOf_eq_of {α : Type} [En α] [DecidableEq α] {xs ys : List α} (hy : Asc ys) (h : ∀ x, x ∈ xs ↔ x ∈ ys) : setOf xs = ys := asc_eq (setOf_asc _) hy fun x => by rw [mem_setOf]; exact h x
def Nam (x : Nm) : Prop := nameD (en x) = true
structure GB (b : Book) : Prop where
  ne : b ≠ []
  len : b.length ≤ 100
  asc : Asc (groupsT b)
  nam : ∀ g ∈ b, Nam g.1
  mem : ∀ g ∈ b, Asc g.2 ∧ g.2 ≠ [] ∧ g.2.length ≤ 100 ∧ ∀ x ∈ g.2, Nam x
theorem GB.S {b : Book} (h : GB b) : BkS b := ⟨by have := h.len; omega, fun g hg => by have := (h.mem g hg).2.2.1; omega, h.asc.nodup⟩
theorem GB.is {b : Book} (h : GB b) : Is 3 (en b) b := Is.of (fits_row (by have := h.len; omega) fun g hg => fits_pair (fits_nm _ _) (fits_row (by have := (h.mem g hg).2.2.1; omega) fun x _ => fits_nm _ x))
theorem mem_people {b : Book} {p : Nm} : p ∈ peopleT b ↔ ∃ g ∈ b, p ∈ g.2 := by rw [peopleT, mem_setOf, List.mem_flatMap]
theorem mem_homes {b : Book} {p g : Nm} : g ∈ homesT b p ↔ ∃ ms, (g, ms) ∈ b ∧ p ∈ ms := by
  simp only [homesT, List.mem_map, List.mem_filter, decide_eq_true_eq]
  constructor
  · rintro ⟨⟨a, ms⟩, ⟨h1, h2⟩, rfl⟩
    exact ⟨ms, h1, h2⟩
  · rintro ⟨ms, h1, h2⟩
    exact ⟨(g, ms), ⟨h1, h2⟩, rfl⟩
theorem homes_asc {b : Book} (h : Asc (groupsT b)) (p : Nm) : Asc (homesT b p) := by
  unfold homesT
  unfold groupsT at h
  exact List.Pairwise.sublist ((List.filter_sublist (p := fun g : Nm × List Nm => decide (p ∈ g.2)) (l := b)).map (·.1)) h
theorem mem_groups {b : Book} {g : Nm} : g ∈ groupsT b ↔ ∃ ms, (g, ms) ∈ b := by
  simp only [groupsT, List.mem_map]
  constructor
  · rintro ⟨⟨a, ms⟩, h1, rfl⟩; exact ⟨ms, h1⟩
  · rintro ⟨ms, h1⟩; exact ⟨_, h1, rfl⟩
theorem GB.uniq {b : Book} (h : GB b) {g : Nm} {ms ms' : List Nm} (h1 : (g, ms) ∈ b) (h2 : (g, ms') ∈ b) : ms = ms' := by
  rw [← mem_tab h.S.nd h1, ← mem_tab h.S.nd h2]
theorem GB.members {b : Book} (h : GB b) {g : Nm} (hg : g ∈ groupsT b) : (g, membersT b g) ∈ b := by
  obtain ⟨ms, h1⟩ := mem_groups.mp hg
  rw [mem_tab h.S.nd h1]
  exact h1
/-- a book is its groups with their members -/
theorem GB.ext {b : Book} (h : GB b) : (groupsT b).map (fun g => (g, membersT b g)) = b := by
  rw [groupsT, List.map_map]
  conv => rhs; rw [← List.map_id b]
  apply List.map_congr_left
  rintro ⟨g, ms⟩ hg
  show (g, membersT b g) = (g, ms)
  rw [mem_tab h.S.nd hg]
theorem book_ext {b c : Book} (hb : GB b) (hc : GB c) (h1 : ∀ g, g ∈ groupsT b ↔ g ∈ groupsT c) (h2 : ∀ g ∈ groupsT b, ∀ p, p ∈ membersT b g ↔ p ∈ membersT c g) : b = c := by
  have e : groupsT b = groupsT c := asc_eq hb.asc hc.asc h1
  rw [← hb.ext, ← hc.ext, ← e]
  apply List.map_congr_left
  intro g hg
  have e2 : membersT b g = membersT c g := asc_eq (hb.mem _ (hb.members hg)).1 (hc.mem _ (hc.members ((h1 g).mp hg))).1 (h2 g hg)
  rw [e2]
/-! ### turned -/
theorem groups_turned (b : Book) : groupsT (turnedT b) = peopleT b := by
  rw [groupsT, turnedT, List.map_map]
  exact List.map_id _
theorem mem_turned {b : Book} {p : Nm} {hs : List Nm} : (p, hs) ∈ turnedT b ↔ p ∈ peopleT b ∧ hs = homesT b p := by
  simp only [turnedT, List.mem_map, Prod.mk.injEq]
  constructor
  · rintro ⟨q, h1, rfl, rfl⟩; exact ⟨h1, rfl⟩
  · rintro ⟨h1, rfl⟩; exact ⟨p, h1, rfl, rfl⟩
theorem people_len {b : Book} (h : GB b) : (peopleT b).length ≤ b.length * 100 := Nat.le_trans (setOf_length _) (flat_len (·.2) 100 b fun g hg => (h.mem g hg).2.2.1)
theorem GB.turned {b : Book} (h : GB b) (hl : (peopleT b).length ≤ 100) : GB (turnedT b) := by
  refine ⟨?_, ?_, ?_, ?_, ?_⟩
  · intro e
    have : peopleT b = [] := by rw [← groups_turned, e]; rfl
    cases hb : b with
    | nil => exact h.ne hb
    | cons g r =>
      have hg : g ∈ b := by rw [hb]; simp
      cases hm : g.2 with
      | nil => exact (h.mem g hg).2.1 hm
      | cons p q =>
        have : p ∈ peopleT b := mem_people.mpr ⟨g, hg, by rw [hm]; simp⟩
        simp_all
  · rw [turnedT, List.length_map]; exact hl
  · rw [groups_turned]; exact setOf_asc _
  · rintro ⟨p, hs⟩ hg
    obtain ⟨h1, _⟩ := mem_turned.mp hg
    obtain ⟨g, hg, hp⟩ := mem_people.mp h1
    exact (h.mem g hg).2.2.2 p hp
  · rintro ⟨p, hs⟩ hg
    obtain ⟨h1, rfl⟩ := mem_turned.mp hg
    obtain ⟨g, hg, hp⟩ := mem_people.mp h1
    refine ⟨homes_asc h.asc p, fun e => ?_, ?_, fun x hx => ?_⟩
    · have : g.1 ∈ homesT b p := mem_homes.mpr ⟨g.2, hg, hp⟩
      have e : homesT b p = [] := e
      rw [e] at this
      cases this
    · show (homesT b p).length ≤ 100
      rw [homesT, List.length_map]
      exact Nat.le_trans (List.length_filter_le ..) h.len
    · obtain ⟨ms, h2, _⟩ := mem_homes.mp hx
      exact h.nam _ h2
theorem members_turned {b : Book} (h : GB b) {p : Nm} (hp : p ∈ peopleT b) : membersT (turnedT b) p = homesT b p :=
  mem_tab (by rw [show (turnedT b).map (·.1) = groupsT (turnedT b) from rfl, groups_turned]; exact (setOf_asc _).nodup) (mem_turned.mpr ⟨hp, rfl⟩)
theorem people_turned {b : Book} (h : GB b) : peopleT (turnedT b) = groupsT b := by
  refine asc_eq (setOf_asc _) h.asc fun g => ?_
  rw [mem_people]
  constructor
  · rintro ⟨⟨p, hs⟩, h1, h2⟩
    obtain ⟨_, rfl⟩ := mem_turned.mp h1
    obtain ⟨ms, h3, _⟩ := mem_homes.mp h2
    exact mem_groups.mpr ⟨ms, h3⟩
  · intro hg
    obtain ⟨ms, h1⟩ := mem_groups.mp hg
    cases hm : ms with
    | nil => exact absurd hm (h.mem _ h1).2.1
    | cons p q =>
      have hp : p ∈ peopleT b := mem_people.mpr ⟨_, h1, by rw [hm]; simp⟩
      exact ⟨(p, homesT b p), mem_turned.mpr ⟨hp, rfl⟩, mem_homes.mpr ⟨ms, h1, by rw [hm]; simp⟩⟩
theorem turned_turned {b : Book} (h : GB b) (hl : (peopleT b).length ≤ 100) : turnedT (turnedT b) = b := by
  have ht := h.turned hl
  have htt := ht.turned (by rw [people_turned h, groupsT, List.length_map]; exact h.len)
  refine book_ext htt h (fun g => by rw [groups_turned, people_turned h]) fun g hg p => ?_
  rw [groups_turned] at hg
  rw [members_turned ht hg, mem_homes]
  rw [people_turned h] at hg
  have hm := h.members hg
  constructor
  · rintro ⟨hs, h1, h2⟩
    obtain ⟨_, rfl⟩ := mem_turned.mp h1
    obtain ⟨ms, h3, h4⟩ := mem_homes.mp h2
    rw [h.uniq hm h3]
    exact h4
  · intro hp
    exact ⟨homesT b p, mem_turned.mpr ⟨mem_people.mpr ⟨_, hm, hp⟩, rfl⟩, mem_homes.mpr ⟨_, hm, hp⟩⟩
theorem mem_ties {b : Book} {x : Nm × Nm} : x ∈ tiesT b ↔ ∃ ms, (x.1, ms) ∈ b ∧ x.2 ∈ ms := by
  simp only [tiesT, List.mem_flatMap, List.mem_map]
  constructor
  · rintro ⟨⟨g, ms⟩, h1, p, h2, rfl⟩; exact ⟨ms, h1, h2⟩
  · rintro ⟨ms, h1, h2⟩; exact ⟨_, h1, x.2, h2, rfl⟩
theorem ties_asc {b : Book} (h : GB b) : Asc (tiesT b) := by
  have : ∀ c : Book, Asc (c.map (·.1)) → (∀ g ∈ c, Asc g.2) → Asc (tiesT c) := by
    intro c
    induction c with
    | nil => exact fun _ _ => .nil
    | cons g c ih =>
      intro h1 h2
      rw [List.map_cons] at h1
      have h1' := List.pairwise_cons.mp h1
      show Asc (g.2.map (fun p => (g.1, p)) ++ tiesT c)
      refine List.pairwise_append.mpr ⟨?_, ih h1'.2 fun x hx => h2 x (List.mem_cons_of_mem _ hx), ?_⟩
      · refine List.pairwise_map.mpr ((h2 g (List.mem_cons_self ..)).imp fun {a b} hab => ?_)
        show PySem.W.dataLt (.tuple [en g.1, en a]) (.tuple [en g.1, en b]) = true
        rw [PySem.W.dataLt_pair (En.ak _ _) (En.ak _ _)]
        have e1 : PyData.eqv (en g.1) (en g.1) = true := (En.eqv_iff _ _).mpr rfl
        have e2 : PyData.eqv (en a) (en b) = false := by
          cases e : PyData.eqv (en a) (en b) with
          | false => rfl
          | true => exact absurd ((En.eqv_iff a b).mp e) (lt_ne hab)
        rw [e1, e2]
        exact hab
      · intro x hx y hy
        obtain ⟨p, _, rfl⟩ := List.mem_map.mp hx
        obtain ⟨ms, h3, _⟩ := mem_ties.mp hy
        obtain ⟨c1, c2⟩ := y
        exact lt_pr (h1'.1 c1 (List.mem_map.mpr ⟨_, h3, rfl⟩))
  exact this b h.asc fun g hg => (h.mem g hg).1
end Mi
end

section
/-! MiBookM2: groups and members that come and go, other names, in plain words. -/
namespace Mi
open PySem
open En (en)
theorem nodup_of_map {α β : Type} (f : α → β) {xs : List α} (h : (xs.map f).Nodup) : xs.Nodup := (List.pairwise_map.mp h).imp fun h e => h (by rw [e])
/-! ### one group more -/
section
variable {b : Book} (h : GB b) {x : Nm} {ms : List Nm} (hx : x ∉ groupsT b)
include h hx
theorem more_nodup : (groupsT b ++ [x]).Nodup := by
  rw [List.nodup_append]
  exact ⟨h.asc.nodup, by simp, fun a ha c hc e => by cases List.mem_singleton.mp hc; exact hx (e ▸ ha)⟩
theorem more_eq : withGroupT b x ms = (isort (groupsT b ++ [x])).map fun g => (g, if g = x then ms else membersT b g) := by
  have hn := more_nodup h hx
  refine isort_eq_of ?_ (asc_pr ?_) fun o => ?_
  · exact nodup_of_map (·.1) (by rw [List.map_append]; exact hn)
  · rw [List.map_map]
    rw [show ((fun p : Nm × List Nm => p.1) ∘ fun g => (g, if g = x then ms else membersT b g)) = id from rfl, List.map_id]
    exact isort_asc hn
  · obtain ⟨g, l⟩ := o
    simp only [List.mem_append, List.mem_singleton, List.mem_map, mem_isort, Prod.mk.injEq]
    constructor
    · rintro (h1 | ⟨rfl, rfl⟩)
      · have hg : g ∈ groupsT b := mem_groups.mpr ⟨l, h1⟩
        have : g ≠ x := fun e => hx (e ▸ hg)
        exact ⟨g, .inl hg, rfl, by rw [if_neg this, mem_tab h.S.nd h1]⟩
      · exact ⟨g, .inr rfl, rfl, by rw [if_pos rfl]⟩
    · rintro ⟨a, h1 | rfl, rfl, rfl⟩
      · have : a ≠ x := fun e => hx (e ▸ h1)
        left
        rw [if_neg this]
        exact h.members h1
      · right
        exact ⟨rfl, by rw [if_pos rfl]⟩
theorem groups_more : groupsT (withGroupT b x ms) = isort (groupsT b ++ [x]) := by
  rw [more_eq h hx, groupsT, List.map_map]
  exact List.map_id _
theorem mem_more {o : Nm × List Nm} : o ∈ withGroupT b x ms ↔ o ∈ b ∨ o = (x, ms) := by
  rw [withGroupT, mem_isort, List.mem_append, List.mem_singleton]
theorem GB.more (hn : Nam x) (ha : Asc ms) (hne : ms ≠ []) (hl : ms.length ≤ 100) (hm : ∀ p ∈ ms, Nam p) (hbl : b.length ≤ 99) : GB (withGroupT b x ms) := by
  refine ⟨?_, ?_, ?_, ?_, ?_⟩
  · intro e
    have : (x, ms) ∈ withGroupT b x ms := (mem_more h hx).mpr (.inr rfl)
    rw [e] at this
    cases this
  · rw [withGroupT, isort_length, List.length_append]
    simp
    omega
  · rw [groups_more h hx]
    exact isort_asc (more_nodup h hx)
  · intro g hg
    rcases (mem_more h hx).mp hg with hg | rfl
    · exact h.nam g hg
    · exact hn
  · intro g hg
    rcases (mem_more h hx).mp hg with hg | rfl
    · exact h.mem g hg
    · exact ⟨ha, hne, hl, hm⟩
theorem more_filter (q : Nm → Bool) (h1 : ∀ g ∈ groupsT b, q g = true) (h2 : q x = false) : (withGroupT b x ms).filter (fun o => q o.1) = b := by
  have hp : Asc ((withGroupT b x ms).filter fun o => q o.1) := asc_filter (asc_pr (by rw [show (withGroupT b x ms).map (·.1) = groupsT (withGroupT b x ms) from rfl, groups_more h hx]; exact isort_asc (more_nodup h hx))) _
  refine asc_eq hp (asc_pr h.asc) fun o => ?_
  rw [List.mem_filter, mem_more h hx]
  constructor
  · rintro ⟨h3 | rfl, h4⟩
    · exact h3
    · have h4 : q x = true := h4
      rw [h2] at h4
      cases h4
  · intro h3
    exact ⟨.inl h3, h1 o.1 (mem_groups.mpr ⟨o.2, h3⟩)⟩
theorem more_without : withoutGroupT (withGroupT b x ms) x = b := more_filter h hx (fun g => !decide (g = x)) (fun g hg => by simp; exact fun e => hx (e ▸ hg)) (by simp)
theorem more_cut : cutToT (withGroupT b x ms) (groupsT b) = b := more_filter h hx (fun g => decide (g ∈ groupsT b)) (fun g hg => by simpa using hg) (by simpa using hx)
end
/-! ### other members -/
section
variable {b : Book} (h : GB b) {g : Nm} (hg : g ∈ groupsT b)
theorem groups_withM (b : Book) (g : Nm) (ms : List Nm) : groupsT (withMembersT b g ms) = groupsT b := by
  rw [groupsT, withMembersT, List.map_map]
  rfl
theorem withM_withM (b : Book) (g : Nm) (ms ms' : List Nm) : withMembersT (withMembersT b g ms) g ms' = withMembersT b g ms' := by
  rw [withMembersT, withMembersT, withMembersT, List.map_map]
  apply List.map_congr_left
  intro o _
  show (o.1, _) = (o.1, _)
  by_cases e : o.1 = g
  · simp [e]
  · simp [e]
include h
theorem members_withM {g : Nm} (hg : g ∈ groupsT b) (ms : List Nm) : membersT (withMembersT b g ms) g = setOf ms := by
  refine mem_tab (by rw [show (withMembersT b g ms).map (·.1) = groupsT (withMembersT b g ms) from rfl, groups_withM]; exact h.asc.nodup) ?_
  rw [withMembersT, List.mem_map]
  exact ⟨(g, membersT b g), h.members hg, by simp⟩
theorem withM_same {ms : List Nm} (e : setOf ms = membersT b g) : withMembersT b g ms = b := by
  rw [withMembersT]
  conv => rhs; rw [← List.map_id b]
  apply List.map_congr_left
  rintro ⟨o, l⟩ ho
  show (o, _) = (o, l)
  by_cases e2 : o = g
  · subst e2
    simp only [if_true, e]
    rw [mem_tab h.S.nd ho]
  · simp [e2]
theorem GB.withM {ms : List Nm} (hne : ms ≠ []) (hl : ms.length ≤ 100) (hm : ∀ p ∈ ms, Nam p) : GB (withMembersT b g ms) := by
  refine ⟨?_, ?_, by rw [groups_withM]; exact h.asc, ?_, ?_⟩
  · intro e
    have := congrArg List.length e
    rw [withMembersT, List.length_map] at this
    exact h.ne (List.length_eq_zero_iff.mp this)
  · rw [withMembersT, List.length_map]; exact h.len
  · intro o ho
    rw [withMembersT, List.mem_map] at ho
    obtain ⟨q, hq, rfl⟩ := ho
    exact h.nam q hq
  · intro o ho
    rw [withMembersT, List.mem_map] at ho
    obtain ⟨q, hq, rfl⟩ := ho
    show Asc (if q.1 = g then setOf ms else q.2) ∧ (if q.1 = g then setOf ms else q.2) ≠ [] ∧ (if q.1 = g then setOf ms else q.2).length ≤ 100 ∧ ∀ x ∈ (if q.1 = g then setOf ms else q.2), Nam x
    by_cases e : q.1 = g
    · rw [if_pos e]
      refine ⟨setOf_asc _, fun e2 => ?_, Nat.le_trans (setOf_length _) hl, fun x hx => hm x (mem_setOf.mp hx)⟩
      cases ms with
      | nil => exact hne rfl
      | cons a r =>
        have : a ∈ setOf (a :: r) := mem_setOf.mpr (List.mem_cons_self ..)
        rw [e2] at this
        cases this
    · rw [if_neg e]
      exact h.mem q hq
end
/-! ### other names -/
theorem name_one (a c x : Nm) : nameT [(a, c)] x = if x = a then c else x := by
  unfold nameT
  by_cases e : a = x
  · subst e; simp
  · simp [e, Ne.symm e]
theorem name_back {a c x : Nm} (h : x ≠ c) : nameT [(c, a)] (nameT [(a, c)] x) = x := by
  rw [name_one, name_one]
  by_cases e : x = a
  · subst e; simp
  · simp [e, h]
theorem name_inj {a c x y : Nm} (hx : x ≠ c) (hy : y ≠ c) (e : nameT [(a, c)] x = nameT [(a, c)] y) : x = y := by
  rw [← name_back (a := a) hx, e, name_back hy]
theorem nodup_map_on {α β : Type} {f : α → β} : ∀ {xs : List α}, xs.Nodup → (∀ x ∈ xs, ∀ y ∈ xs, f x = f y → x = y) → (xs.map f).Nodup
  | [], _, _ => .nil
  | x :: xs, h, hf => by
    rw [List.nodup_cons] at h
    rw [List.map_cons, List.nodup_cons]
    refine ⟨fun hm => ?_, nodup_map_on h.2 fun y hy z hz => hf y (List.mem_cons_of_mem _ hy) z (List.mem_cons_of_mem _ hz)⟩
    obtain ⟨y, hy, e⟩ := List.mem_map.mp hm
    have := hf y (List.mem_cons_of_mem _ hy) x (List.mem_cons_self ..) e
    exact h.1 (this ▸ hy)
section
variable {b : Book} (h : GB b) {a c : Nm} (hc : c ∉ groupsT b)
include h hc
theorem ren_nodup : (b.map fun g => nameT [(a, c)] g.1).Nodup := by
  have := nodup_map_on (f := nameT [(a, c)]) h.asc.nodup fun x hx y hy e => name_inj (a := a) (c := c) (fun e => hc (by rw [← e]; exact hx)) (fun e => hc (by rw [← e]; exact hy)) e
  rw [groupsT, List.map_map] at this
  exact this
theorem ren_S : BkS (groupsRenT b [(a, c)]) := by
  have hp := isort_perm (b.map fun g => (nameT [(a, c)] g.1, g.2))
  refine ⟨?_, fun g hg => ?_, ?_⟩
  · rw [groupsRenT, isort_length, List.length_map]; exact h.S.len
  · rw [groupsRenT, mem_isort, List.mem_map] at hg
    obtain ⟨o, ho, rfl⟩ := hg
    exact h.S.mem o ho
  · rw [groupsRenT, (hp.map (·.1)).nodup_iff, List.map_map]
    exact ren_nodup h hc
theorem ren_back_nodup : ((groupsRenT b [(a, c)]).map fun g => nameT [(c, a)] g.1).Nodup := by
  have hp := isort_perm (b.map fun g => (nameT [(a, c)] g.1, g.2))
  rw [groupsRenT, (hp.map fun g => nameT [(c, a)] g.1).nodup_iff, List.map_map]
  have e : (b.map ((fun g : Nm × List Nm => nameT [(c, a)] g.1) ∘ fun g => (nameT [(a, c)] g.1, g.2))) = groupsT b := by
    rw [groupsT]
    apply List.map_congr_left
    intro o ho
    exact name_back (a := a) (c := c) (x := o.1) fun e => hc (by rw [← e]; exact mem_groups.mpr ⟨o.2, ho⟩)
  rw [e]
  exact h.asc.nodup
theorem ren_back : groupsRenT (groupsRenT b [(a, c)]) [(c, a)] = b := by
  refine isort_eq_of ?_ (asc_pr h.asc) fun o => ?_
  · have := ren_back_nodup (a := a) h hc
    exact nodup_of_map (·.1) (by rw [List.map_map]; exact this)
  · have key : ∀ q ∈ b, (nameT [(c, a)] (nameT [(a, c)] q.1), q.2) = q := fun q hq => by
      have := name_back (a := a) (c := c) (x := q.1) (fun e => hc (by rw [← e]; exact mem_groups.mpr ⟨q.2, hq⟩))
      rw [this]
    simp only [groupsRenT, List.mem_map, mem_isort]
    constructor
    · rintro ⟨o1, ⟨q, hq, rfl⟩, rfl⟩
      rw [key q hq]
      exact hq
    · intro ho
      exact ⟨_, ⟨o, ho, rfl⟩, key o ho⟩
end
section
variable {b : Book} (h : GB b) {a c : Nm} (hc : c ∉ peopleT b)
include h hc
theorem pren_nodup : ((peopleT b).map (nameT [(a, c)])).Nodup := nodup_map_on (setOf_asc _).nodup fun x hx y hy e => name_inj (a := a) (c := c) (fun e => hc (by rw [← e]; exact hx)) (fun e => hc (by rw [← e]; exact hy)) e
theorem pren_S : BkS (peopleRenT b [(a, c)]) := by
  refine ⟨by rw [peopleRenT, List.length_map]; exact h.S.len, fun g hg => ?_, ?_⟩
  · rw [peopleRenT, List.mem_map] at hg
    obtain ⟨o, ho, rfl⟩ := hg
    refine Nat.le_trans (setOf_length _) ?_
    rw [List.length_map]
    exact h.S.mem o ho
  · rw [peopleRenT, List.map_map]
    exact h.S.nd
theorem pren_people {x : Nm} : x ∈ peopleT (peopleRenT b [(a, c)]) ↔ ∃ p ∈ peopleT b, x = nameT [(a, c)] p := by
  rw [mem_people]
  simp only [peopleRenT, List.mem_map]
  constructor
  · rintro ⟨g, ⟨o, ho, rfl⟩, hx⟩
    rw [mem_setOf, List.mem_map] at hx
    obtain ⟨p, hp, rfl⟩ := hx
    exact ⟨p, mem_people.mpr ⟨o, ho, hp⟩, rfl⟩
  · rintro ⟨p, hp, rfl⟩
    obtain ⟨o, ho, hp⟩ := mem_people.mp hp
    exact ⟨_, ⟨o, ho, rfl⟩, mem_setOf.mpr (List.mem_map.mpr ⟨p, hp, rfl⟩)⟩
theorem pren_back_nodup : ((peopleT (peopleRenT b [(a, c)])).map (nameT [(c, a)])).Nodup := nodup_map_on (setOf_asc _).nodup fun x hx y hy e => by
  obtain ⟨p, hp, rfl⟩ := (pren_people h hc).mp hx
  obtain ⟨q, hq, rfl⟩ := (pren_people h hc).mp hy
  rw [name_back (a := a) (c := c) (x := p) (fun e => hc (by rw [← e]; exact hp)), name_back (a := a) (c := c) (x := q) (fun e => hc (by rw [← e]; exact hq))] at e
  rw [e]
theorem pren_back : peopleRenT (peopleRenT b [(a, c)]) [(c, a)] = b := by
  rw [peopleRenT, peopleRenT, List.map_map]
  conv => rhs; rw [← List.map_id b]
  apply List.map_congr_left
  rintro ⟨g, ms⟩ hg
  show (g, setOf ((setOf (ms.map (nameT [(a, c)]))).map (nameT [(c, a)]))) = (g, ms)
  have key : ∀ p ∈ ms, nameT [(c, a)] (nameT [(a, c)] p) = p := fun p hp => name_back (a := a) (c := c) (x := p) fun e => hc (by rw [← e]; exact mem_people.mpr ⟨_, hg, hp⟩)
  congr 1
  refine setOf_eq_of (h.mem _ hg).1 fun x => ?_
  simp only [List.mem_map, mem_setOf]
  constructor
  · rintro ⟨_, ⟨p, hp, rfl⟩, rfl⟩
    rw [key p hp]
    exact hp
  · intro hx
    exact ⟨_, ⟨x, hx, rfl⟩, key x hx⟩
end
/-! ### parts -/
theorem con_turned {b : Book} (h : GB b) {x y : Bool × Nm} (r : Con b x y) : Con (turnedT b) (!x.1, x.2) (!y.1, y.2) := by
  induction r with
  | refl x => exact .refl _
  | mem h1 h2 => exact .symm (.mem (mem_turned.mpr ⟨mem_people.mpr ⟨_, h1, h2⟩, rfl⟩) (mem_homes.mpr ⟨_, h1, h2⟩))
  | symm _ ih => exact .symm ih
  | trans _ _ ih1 ih2 => exact .trans ih1 ih2
theorem parts_turned_le {b : Book} (h : GB b) (hl : (peopleT b).length ≤ 100) : (partsT b).length ≤ (partsT (turnedT b)).length := by
  have ht := h.turned hl
  have o1 := lots_ok h.S.nd
  have o2 := lots_ok ht.S.nd
  rw [parts_len h.S.nd, parts_len ht.S.nd]
  refine length_le_of (fun l l' => l ∈ b.foldl partStep [] ∧ l' ∈ (turnedT b).foldl partStep [] ∧ ∃ g, g ∈ l.g ∧ g ∈ l'.p) o1.nd (fun l hl => ?_) ?_
  · cases e : l.g with
    | nil => exact absurd e (o1.ne l hl)
    | cons g r =>
      have hg : g ∈ l.g := by rw [e]; simp
      obtain ⟨ms, hm⟩ := mem_groups.mp (o1.src l hl g hg)
      cases em : ms with
      | nil => exact absurd em (h.mem _ hm).2.1
      | cons p q =>
        have hp : p ∈ ms := by rw [em]; simp
        obtain ⟨l', hl', h1, h2⟩ := o2.cov (p, homesT b p) (mem_turned.mpr ⟨mem_people.mpr ⟨_, hm, hp⟩, rfl⟩)
        exact ⟨l', hl', hl, hl', g, by rw [e] at hg; exact hg, h2 g (mem_homes.mpr ⟨_, hm, hp⟩)⟩
  · rintro l _ l2 _ l' ⟨hl, hl', g, h1, h2⟩ ⟨hl2, _, g2, h3, h4⟩
    have c1 := o2.con l' hl' (false, g) (false, g2) (by simpa using h2) (by simpa using h4)
    have c2 := con_turned ht c1
    rw [turned_turned h ‹_›] at c2
    have := (o1.same c2 l hl).mp (by simpa using h1)
    exact o1.dis l hl l2 hl2 (true, g2) this (by simpa using h3)
theorem parts_turned {b : Book} (h : GB b) (hl : (peopleT b).length ≤ 100) : (partsT (turnedT b)).length = (partsT b).length := by
  have h1 := parts_turned_le h hl
  have h2 := parts_turned_le (h.turned hl) (by rw [people_turned h, groupsT, List.length_map]; exact h.len)
  rw [turned_turned h hl] at h2
  omega
theorem parts_one {b : Book} (h : GB b) (x : Nm) (hx : x ∈ groupsT b) (hall : ∀ g ∈ groupsT b, Con b (true, x) (true, g)) : partsT b = [groupsT b] := by
  have ok := lots_ok h.S.nd
  obtain ⟨l, hl, h1, _⟩ := ok.cov _ (h.members hx)
  have hone : ∀ l' ∈ b.foldl partStep [], l' = l := fun l' hl' => by
    cases e : l'.g with
    | nil => exact absurd e (ok.ne l' hl')
    | cons g r =>
      have hg : g ∈ l'.g := by rw [e]; simp
      have := (ok.same (hall g (ok.src l' hl' g hg)) l hl).mp (by simpa using h1)
      exact ok.dis l' hl' l hl (true, g) (by simpa using hg) this
  have e : b.foldl partStep [] = [l] := by
    have nd := ok.nd
    cases e : b.foldl partStep [] with
    | nil => rw [e] at hl; cases hl
    | cons a r =>
      have ha : a = l := hone a (by rw [e]; simp)
      subst ha
      cases r with
      | nil => rfl
      | cons c r =>
        have hc : c = a := hone c (by rw [e]; simp)
        subst hc
        rw [e] at nd
        simp at nd
  have e2 : setOf l.g = groupsT b := setOf_eq_of h.asc fun g => by
    constructor
    · exact fun hg => ok.src l hl g hg
    · intro hg
      simpa using (ok.same (hall g hg) l hl).mp (by simpa using h1)
  rw [partsT, e, List.map_cons, List.map_nil, e2]
  exact setOf_id (List.pairwise_singleton _ _)
end Mi
end

section
set_option maxRecDepth 100000
/-! MiLaw4: lists in the place of tuples, two lists that grow alike. -/
namespace Mi
open PySem
open En (en)
def F_lists : Fn := ⟨1, 2, false, (.cons (.ret (.ite (.isi (.var 0) ["list", "tuple"]) (.comp [1] (.call 12 (.cons (.var 1) .nil)) (.one 1) (.seq (.var 0)) .nil) (.var 0))) .nil)⟩
section
variable {P : Prog}
theorem c_lists (hf : P.fn? 12 = some F_lists) : ∀ {n : Nat} {d : PyData}, Fits n d → ∀ (k : Nat) (s : Sto), callD P (k + n + 1) 12 [.v d] s = .ok (.v (lstD d)) s := by
  have go : ∀ (b : Bool) (ds : List PyData) (k : Nat), ds.length ≤ 16777216 → (∀ d ∈ ds, ∀ s, callD P k 12 [.v d] s = .ok (.v (lstD d)) s) → ∀ s, callD P (k + 1) 12 [.v (sq b ds)] s = .ok (.v (.list (ds.map lstD))) s := by
    intro b ds k hl hx s
    refine call_ret (as := [_]) (x := .v (.list (ds.map lstD))) (s' := []) hf rfl rfl ?_ rfl s
    simp [F_lists, -List.any_cons, -List.any_nil]
    rw [turns_id (g := lstD)]
    · simp [madeL_ok, hl]
    · intro d hd
      simp [hx d hd]
  intro n d h
  induction h with
  | none => exact fun k s => call_ret (as := [_]) (x := .v .none) (s' := []) hf rfl rfl (by simp [F_lists, isiD, tyOf]) rfl s
  | bool b => exact fun k s => call_ret (as := [_]) (x := .v (.bool b)) (s' := []) hf rfl rfl (by simp [F_lists, isiD, tyOf]) rfl s
  | int i => exact fun k s => call_ret (as := [_]) (x := .v (.int i)) (s' := []) hf rfl rfl (by simp [F_lists, isiD, tyOf]) rfl s
  | str x => exact fun k s => call_ret (as := [_]) (x := .v (.str x)) (s' := []) hf rfl rfl (by simp [F_lists, isiD, tyOf]) rfl s
  | list hl _ ih =>
    intro k s
    rename_i n ds _
    rw [lstD_list]
    exact go true ds (k + n + 1) hl (fun d hd s => ih d hd k s) s
  | tuple hl _ ih =>
    intro k s
    rename_i n ds _
    rw [lstD_tuple]
    exact go false ds (k + n + 1) hl (fun d hd s => ih d hd k s) s
theorem zip_cc {n m : Nat} {xs ys : List PyData} {s : Sto} (h : s[n]? = some (.lst xs)) (h2 : s[m]? = some (.lst ys)) : zipX (.c n) (.c m) s = .ok (.zip (.c n) (.c m)) s := by simp [zipX, cellAt, h, h2]
theorem c_same_cc (h11 : P.fn? 11 = some F_same) {n m m2 : Nat} (hn : n ≤ 60) {xs : List PyData} {s : Sto} (hm : s[m]? = some (.lst xs)) (hm2 : s[m2]? = some (.lst xs)) (h : ∀ x ∈ xs, Sh n x) (hx : ∀ x ∈ xs, Fit x) (hl : xs.length < 1000000) (k : Nat) : callD P (k + n + 2) 11 [.c m, .c m2] s = .ok (.v (.bool true)) s := by
  have := call_c (k := k + n + 1) (as := [.c m, .c m2]) (d := .bool true) (s := s) (s' := s) h11 rfl rfl rfl (by
    simp [F_same, isi_c hm, isi_c hm2, isiD, tyOf, len_c hm, len_c hm2, zip_cc hm hm2, kComp, walk]
    rw [turnsC_ok (zs := xs.map fun d => .tuple [d, d]) (fun _ => [PyData.bool true]) ?_ ?_ fuel 0 (Nat.zero_le _) (by rw [List.length_map]; exact hl)]
    · rw [List.drop_zero, List.flatMap_map]
      simp only [calm_ok', R.bind_ok]
      have e2 : (xs.flatMap fun _ => [PyData.bool true]) = xs.map fun _ => .bool true := by rw [List.map_eq_flatMap]
      rw [e2, madeL_ok (by rw [List.length_map]; omega)]
      simp
    · intro i
      simp only [zipAt, xvAt, cellAt, hm, hm2]
      rw [List.getElem?_map]
      cases xs[i]? <;> rfl
    · intro z hz
      obtain ⟨d, hd, rfl⟩ := List.mem_map.mp hz
      rw [c_bind (b_two ..)]
      simp [c_same h11 n (by omega) d (h d hd) (hx d hd) k])
  simpa using this
end
/-- two lists in cells grow alike -/
theorem grow {cx : Mi.Ctx} {ρ : Rho} {s : Sto} {i j n5 n6 : Nat} {L xs : List PyData} {es1 es2 : Es} {r : Ss} (hij : i ≠ j) (h5 : ρ[i]? = some (some (.c n5))) (h6 : ρ[j]? = some (some (.c n6))) (c5 : s[n5]? = some (.lst L)) (c6 : s[n6]? = some (.lst L)) (hl : L.length + xs.length ≤ 16777216)
    (e1 : ∀ s, evs cx es1 ρ s = .ok xs s) (e2 : ∀ s, evs cx es2 (ρ.set i (some (.c s.length))) (s ++ [.lst (L ++ xs)]) = .ok xs (s ++ [.lst (L ++ xs)])) :
    exs cx (.cons (.new i (.bin .Add (.var i) (.lst es1))) (.cons (.new j (.bin .Add (.var j) (.lst es2))) r)) ρ s = exs cx r ((ρ.set i (some (.c s.length))).set j (some (.c (s.length + 1)))) (s ++ [.lst (L ++ xs)] ++ [.lst (L ++ xs)]) := by
  have hadd : ∀ (n : Nat) (t : Sto), t[n]? = some (.lst L) → binX .Add (.c n) (.v (.list xs)) t = .ok (.v (.list (L ++ xs))) t := fun n t h => by simp [binX, rd, h, binL, szOk, hl]
  have h6' : (ρ.set i (some (.c s.length)))[j]? = some (some (.c n6)) := by rw [List.getElem?_set_ne hij]; exact h6
  have hn6 : n6 < s.length := (List.getElem?_eq_some_iff.mp c6).1
  have c6' : (s ++ [.lst (L ++ xs)])[n6]? = some (.lst L) := by rw [List.getElem?_append_left hn6]; exact c6
  simp [h5, e1, madeL_ok (show xs.length ≤ 16777216 by omega), hadd n5 s c5, h6', e2, hadd n6 _ c6']
theorem cell_app {s : Sto} {n : Nat} {c : Cell} {t : Sto} (h : s[n]? = some c) : (s ++ t)[n]? = some c := by rw [List.getElem?_append_left (List.getElem?_eq_some_iff.mp h).1]; exact h
/-- what may be compared -/
def Gd (d : PyData) : Prop := Sh 10 d ∧ Fit d
theorem gd_bool (b : Bool) : Gd (.bool b) := ⟨Sh.bool _ _, .bool b⟩
theorem gd_int (i : Int) : Gd (.int i) := ⟨Sh.int _ _, .int i⟩
theorem fit_of {n : Nat} {d : PyData} (h : Fits n d) : Fit d := by
  induction h with
  | none => exact .none
  | bool b => exact .bool b
  | int i => exact .int i
  | str x => exact .str x
  | list hl _ ih => exact .list hl ih
  | tuple hl _ ih => exact .tuple hl ih
theorem gd_en {α : Type} [En α] {n : Nat} {x : α} (hd : En.dep α ≤ 10) (h : Fits n (en x)) : Gd (en x) := ⟨(En.sh x).mono hd, fit_of h⟩
theorem gd_row {xs : List Nm} (h : xs.length ≤ 16777216) : Gd (en xs) := gd_en (by decide) (fits_row h fun x _ => fits_nm 0 x)
theorem GB.gd {b : Book} (h : GB b) : Gd (en b) := gd_en (by decide) h.is.f
theorem small_nm {x : Nm} (h : Nam x) : Small (en x) := by
  show Small (.str x.s)
  have h' : nameD (.str x.s) = true := h
  simp only [nameD, Bool.and_eq_true, decide_eq_true_iff] at h'
  exact .str (by omega)
theorem small_row {xs : List Nm} (hl : xs.length ≤ 1000) (h : ∀ x ∈ xs, Nam x) : Small (en xs) := .tuple (by rw [List.length_map]; exact hl) fun d hd => by
  obtain ⟨x, hx, rfl⟩ := List.mem_map.mp hd
  exact small_nm (h x hx)
theorem GB.small {b : Book} (h : GB b) : Small (en b) := .tuple (by rw [List.length_map]; have := h.len; omega) fun d hd => by
  obtain ⟨g, hg, rfl⟩ := List.mem_map.mp hd
  obtain ⟨_, _, a3, a4⟩ := h.mem g hg
  refine .tuple (by simp) fun d hd => ?_
  rcases List.mem_cons.mp hd with rfl | hd
  · exact small_nm (h.nam g hg)
  · rcases List.mem_cons.mp hd with rfl | hd
    · exact small_row (by omega) a4
    · cases hd
theorem GB.isBook {b : Book} (B : GB b) : bookD (en b) = true := by
  show bookD (.tuple (b.map en)) = true
  have h1 : (b.map (en : Nm × List Nm → PyData)).isEmpty = false := by
    cases hb : b with
    | nil => exact absurd hb B.ne
    | cons g r => rfl
  have h2 : (b.map (en : Nm × List Nm → PyData)).all groupD = true := by
    rw [List.all_eq_true]
    intro d hd
    obtain ⟨g, hg, rfl⟩ := List.mem_map.mp hd
    obtain ⟨a1, a2, a3, a4⟩ := B.mem g hg
    show groupD (.tuple [en g.1, .tuple (g.2.map en)]) = true
    have b1 : (g.2.map (en : Nm → PyData)).all nameD = true := by
      rw [List.all_eq_true]
      intro d hd
      obtain ⟨x, hx, rfl⟩ := List.mem_map.mp hd
      exact a4 x hx
    have b2 : (g.2.map (en : Nm → PyData)).isEmpty = false := by
      cases hb : g.2 with
      | nil => exact absurd hb a2
      | cons g r => rfl
    have b3 : nameD (en g.1) = true := B.nam g hg
    simp only [groupD, b3, nameSetD, b1, risesD_map, (rises_asc g.2).mpr a1, eqv_empty, b2]
    rfl
  have h3 : (b.map (en : Nm × List Nm → PyData)).map fstD = (groupsT b).map en := by
    rw [List.map_map, groupsT, List.map_map]
    rfl
  simp only [Mi.bookD, h1, h2, h3, risesD_map, (rises_asc _).mpr B.asc]
  rfl
structure LibN (P : Prog) : Prop where
  g : Lib3 P
  is_name : P.fn? 226 = some F_is_name
  rises : P.fn? 347 = some F_rises
  is_name_set : P.fn? 227 = some F_is_name_set
  is_group : P.fn? 221 = some F_is_group
  is_book : P.fn? 212 = some F_is_book
theorem c_book_yes {P : Prog} (L : LibN P) {b : Book} (h : GB b) (k : Nat) (s : Sto) : callD P (k + 4) 212 [.v (en b)] s = .ok (.v (.bool true)) s := by
  rw [c_is_book L.g L.is_name L.rises L.is_name_set L.is_group L.is_book h.small, h.isBook]
end Mi
end

section
set_option maxRecDepth 100000
/-! MiLawBk: the drawn books of the first laws. -/
namespace Mi
open PySem
open En (en)
/-- the turns of a comprehension that draws -/
theorem turns_draw {α β : Type} {f : PyData → Sto → R (List PyData)} {g : α → PyData} {e : β → PyData} (I : Nat → Sto → Prop) (Rl : α → β → Prop) (N : Nat) : ∀ (xs : List α), (∀ i x s, i < N → x ∈ xs → I i s → ∃ y s', f (g x) s = .ok [e y] s' ∧ Rl x y ∧ I (i + 1) s') → ∀ i s, i + xs.length ≤ N → I i s →
    ∃ ys s', turns f (xs.map g) s = .ok (ys.map e) s' ∧ ys.length = xs.length ∧ (∀ p ∈ xs.zip ys, Rl p.1 p.2) ∧ I (i + xs.length) s'
  | [], _, i, s, _, h => ⟨[], s, rfl, rfl, (fun p hp => by simp at hp), h⟩
  | x :: xs, hf, i, s, hN, h => by
    rw [List.length_cons] at hN
    obtain ⟨y, s1, e1, r1, i1⟩ := hf i x s (by omega) (List.mem_cons_self ..) h
    obtain ⟨ys, s2, e2, l2, r2, i2⟩ := turns_draw I Rl N xs (fun j z s hj hz => hf j z s hj (List.mem_cons_of_mem _ hz)) (i + 1) s1 (by omega) i1
    refine ⟨y :: ys, s2, ?_, by simp [l2], fun p hp => ?_, by rw [List.length_cons]; rwa [show i + (xs.length + 1) = i + 1 + xs.length by omega]⟩
    · rw [List.map_cons, turns, e1]
      simp [e2]
    · rw [List.zip_cons_cons] at hp
      rcases List.mem_cons.mp hp with rfl | hp
      · exact r1
      · exact r2 p hp
def nam (x : Str) (h : PyData.strOk x = true := by decide +kernel) : Nm := ⟨x, h⟩
def tags8 : List Nm := [nam "a", nam "b", nam "key", nam "m", nam "p", nam "q", nam "zz", nam "zzzzzzzz"]
def folk8 : List Nm := [nam "ann", nam "b", nam "m", nam "o", nam "p", nam "q", nam "r", nam "zz"]
theorem tags8_ok : (tags8.all fun x => nameD (en x)) = true ∧ tags8.Nodup := by decide +kernel
theorem folk8_ok : (folk8.all fun x => nameD (en x)) = true ∧ folk8.Nodup := by decide +kernel
structure DrawnBook (book : List (Nm × List Nm)) : Prop where
  ne : book ≠ []
  len : book.length ≤ 8
  asc : Asc (book.map (·.1))
  nam : ∀ g ∈ book, g.1 ∈ tags8
  mem : ∀ g ∈ book, Asc g.2 ∧ g.2 ≠ [] ∧ g.2.length ≤ 3 ∧ ∀ x ∈ g.2, x ∈ folk8
theorem perm_en {found rest : List PyData} {pool : List Nm} (h : (found ++ rest).Perm (pool.map en)) : ∃ fs rs : List Nm, found = fs.map en ∧ rest = rs.map en ∧ (fs ++ rs).Perm pool := by
  have key : ∀ {α β : Type} {f : α → β} {xs ys : List β}, xs.Perm ys → ∀ L : List α, ys = L.map f → ∃ L' : List α, xs = L'.map f ∧ L'.Perm L := by
    intro α β f xs ys h
    induction h with
    | nil => intro L e; exact ⟨[], rfl, by cases L with | nil => exact .refl _ | cons a l => simp at e⟩
    | cons x _ ih =>
      intro L e
      cases L with
      | nil => simp at e
      | cons a l =>
        simp only [List.map_cons, List.cons.injEq] at e
        obtain ⟨L', e1, p1⟩ := ih l e.2
        exact ⟨a :: L', by rw [List.map_cons, e.1, e1], p1.cons a⟩
    | swap x y l =>
      intro L e
      match L, e with
      | a :: b :: l', e =>
        simp only [List.map_cons, List.cons.injEq] at e
        exact ⟨b :: a :: l', by rw [List.map_cons, List.map_cons, e.1, e.2.1, e.2.2], .swap a b l'⟩
    | trans _ _ ih1 ih2 =>
      intro L e
      obtain ⟨L2, e2, p2⟩ := ih2 L e
      obtain ⟨L1, e1, p1⟩ := ih1 L2 e2
      exact ⟨L1, e1, p1.trans p2⟩
  obtain ⟨L, e1, p1⟩ := key h pool rfl
  refine ⟨L.take found.length, L.drop found.length, ?_, ?_, by rw [List.take_append_drop]; exact p1⟩
  · rw [List.map_take, ← e1, List.take_left']; rfl
  · rw [List.map_drop, ← e1, List.drop_left']; rfl
section
variable {P : Prog}
theorem sortOk_nm (xs : List Nm) (h : xs.length ≤ 1000) : sortOk (xs.map en) = true := sortOk_of (by decide) (by omega) (.inr fun x _ => Atom.flat x)
def F_book : Fn := ⟨3, 6, false, (.cons (.set (.one 3) (.call 14 (.cons (.var 0) (.cons (.lst (.cons (.cst (.str "a")) (.cons (.cst (.str "b")) (.cons (.cst (.str "key")) (.cons (.cst (.str "m")) (.cons (.cst (.str "p")) (.cons (.cst (.str "q")) (.cons (.cst (.str "zz")) (.cons (.cst (.str "zzzzzzzz")) .nil))))))))) (.cons (.bin .Add (.cst (.int (1))) (.call 8 (.cons (.var 0) (.cons (.var 1) .nil)))) .nil))))) (.cons (.set (.one 4) (.slice (.lst (.cons (.cst (.str "ann")) (.cons (.cst (.str "b")) (.cons (.cst (.str "m")) (.cons (.cst (.str "o")) (.cons (.cst (.str "p")) (.cons (.cst (.str "q")) (.cons (.cst (.str "r")) (.cons (.cst (.str "zz")) .nil))))))))) false (.cst .none) true (.var 2))) (.cons (.ret (.blt .tup (.cons (.comp [5] (.tup (.cons (.var 5) (.cons (.blt .tup (.cons (.bltl .sorted (.cons (.call 14 (.cons (.var 0) (.cons (.var 4) (.cons (.bin .Add (.cst (.int (1))) (.call 8 (.cons (.var 0) (.cons (.cst (.int (3))) .nil)))) .nil)))) .nil)) .nil)) .nil))) (.one 5) (.seq (.bltl .sorted (.cons (.var 3) .nil))) .nil) .nil))) .nil)))⟩
theorem c_book (h8 : P.fn? 8 = some F_take) (h14 : P.fn? 14 = some F_pick) (h : P.fn? 600 = some F_book) {b : Nat} {bx : Bx} {s : Sto} {n : Int} (hb : s[b]? = some bx.cell) (hc : bx.le n) (hn : n ≤ 100000000) (hi fo : Nat) (hhi : 0 < hi) (hh8 : hi ≤ 8) (hfo : 0 < fo) (k : Nat) :
    ∃ book bx', callD P (k + 3) 600 [.c b, .v (.int hi), .v (.int fo)] s = .ok (.v (en (book : List (Nm × List Nm)))) (s.set b (Bx.cell bx')) ∧ DrawnBook book ∧ bx'.le (n + 100) := by
  have hbl : b < s.length := (List.getElem?_eq_some_iff.mp hb).1
  have t1 := c_take h8 hb (n := (hi : Int)) (by omega) (by omega) (hc.mono (by omega)) (k + 1)
  obtain ⟨m, hm⟩ : ∃ m : Nat, takeF bx hi = m := ⟨(takeF bx hi).toNat, by have := takeF_nn bx (n := (hi : Int)) (by omega); omega⟩
  have hm8 : m < hi := by have := takeF_lt bx (n := (hi : Int)) (by omega); omega
  rw [hm] at t1
  have hb1 : (s.set b (nextF bx hi).cell)[b]? = some (nextF bx hi).cell := List.getElem?_set_self hbl
  obtain ⟨found, rest, bx2, t2, pm, hfl, hc2⟩ := c_pick h8 h14 hb1 (hc.next hi) (pool := tags8.map en) (.inl rfl) (by decide) (1 + m) (by omega) (by omega) k
  rw [List.set_set] at t2
  obtain ⟨fs, rs, rfl, rfl, pm2⟩ := perm_en pm
  have hfn : fs.Nodup := (List.nodup_append.mp (pm2.nodup_iff.mpr tags8_ok.2)).1
  have hfm : ∀ x ∈ fs, x ∈ tags8 := fun x hx => pm2.mem_iff.mp (List.mem_append_left _ hx)
  obtain ⟨FO, hFO⟩ : ∃ FO, FO = folk8.take fo := ⟨_, rfl⟩
  have hFl : FO.length = min fo 8 := by rw [hFO, List.length_take]; rfl
  have hFn : FO.Nodup := by rw [hFO]; exact folk8_ok.2.sublist (List.take_sublist ..)
  have hfl' : fs.length = min (1 + m) 8 := by simpa [show tags8.length = 8 from rfl] using hfl
  have e1 : madeL [PyData.str "a", .str "b", .str "key", .str "m", .str "p", .str "q", .str "zz", .str "zzzzzzzz"] s = .ok (.v (.list (tags8.map en))) s := madeL_ok (by simp)
  have e2 : ∀ s, madeL [PyData.str "ann", .str "b", .str "m", .str "o", .str "p", .str "q", .str "r", .str "zz"] s = .ok (.v (.list (folk8.map en))) s := fun s => madeL_ok (by simp)
  have e3 : cutD (folk8.map (en : Nm → PyData)) none (some (fo : Int)) = FO.map en := by rw [cut_to _ _ (by omega), hFO, List.map_take]; rfl
  have hs := sorted_l (xs := fs) (sortOk_nm fs (by omega)) (s := s.set b (Bx.cell bx2))
  obtain ⟨ys, s', e5, l5, r5, ⟨bx3, rfl, hc3⟩⟩ := turns_draw (f := compB (cxAt P (k + 2)) (.tup (.cons (.var 5) (.cons (.blt .tup (.cons (.bltl .sorted (.cons (.call 14 (.cons (.var 0) (.cons (.var 4) (.cons (.bin .Add (.cst (.int (1))) (.call 8 (.cons (.var 0) (.cons (.cst (.int (3))) .nil)))) .nil)))) .nil)) .nil)) .nil))) (.one 5) .nil [some (.c b), some (.v (.int hi)), some (.v (.int fo)), some (.v (.list (fs.map en))), some (.v (.list (FO.map en))), none])
    (g := (en : Nm → PyData)) (e := (en : Nm × List Nm → PyData)) (fun i s1 => ∃ bx3, s1 = s.set b (Bx.cell bx3) ∧ bx3.le (n + 9 + 4 * i)) (fun x y => y.1 = x ∧ (Asc y.2 ∧ y.2 ≠ [] ∧ y.2.length ≤ 3 ∧ ∀ x ∈ y.2, x ∈ folk8)) 8 (isort fs) (by
      rintro i x s1 hi hx ⟨bx3, rfl, hc3⟩
      have hb3 : (s.set b (Bx.cell bx3))[b]? = some bx3.cell := List.getElem?_set_self hbl
      have u1 := c_take h8 hb3 (n := 3) (by decide) (by decide) (hc3.mono (by omega)) (k + 1)
      rw [List.set_set] at u1
      obtain ⟨j, hj⟩ : ∃ j : Nat, takeF bx3 3 = j := ⟨(takeF bx3 3).toNat, by have := takeF_nn bx3 (n := 3) (by decide); omega⟩
      have hj3 : j < 3 := by have := takeF_lt bx3 (n := 3) (by decide); omega
      rw [hj] at u1
      have hb4 : (s.set b (nextF bx3 3).cell)[b]? = some (nextF bx3 3).cell := List.getElem?_set_self hbl
      obtain ⟨found, rest, bx4, u2, pm4, hfl4, hc4⟩ := c_pick h8 h14 hb4 (hc3.next 3) (pool := FO.map en) (.inl rfl) (by rw [List.length_map]; omega) (1 + j) (by omega) (by omega) k
      rw [List.set_set] at u2
      obtain ⟨gs, qs, rfl, rfl, pm5⟩ := perm_en pm4
      have hgl : gs.length = min (1 + j) FO.length := by simpa using hfl4
      have hgn : gs.Nodup := (List.nodup_append.mp (pm5.nodup_iff.mpr hFn)).1
      refine ⟨(x, isort gs), s.set b (Bx.cell bx4), ?_, ⟨rfl, isort_asc hgn, fun z => ?_, by show (isort gs).length ≤ 3; rw [isort_length]; omega, fun y hy => ?_⟩, bx4, rfl, hc4.mono (by omega)⟩
      · rw [show ((1 + j : Nat) : Int) = (1 : Int) + j by omega] at u2
        simp [u1, u2, sorted_l (xs := gs) (sortOk_nm gs (by omega)), madeT_ok]
        rfl
      · have z : isort gs = [] := z
        have := isort_length gs
        rw [z] at this
        simp at this
        omega
      · (have h9 := pm5.mem_iff.mp (List.mem_append_left _ (mem_isort.mp hy)); rw [hFO] at h9; exact List.mem_of_mem_take h9)) 0 (s.set b (Bx.cell bx2)) (by rw [isort_length]; omega) ⟨bx2, rfl, hc2.mono (by omega)⟩
  have hys : ys.map (·.1) = isort fs := by
    apply List.ext_getElem
    · rw [List.length_map, l5]
    · intro i h1 h2
      have hi : i < ys.length := by simpa using h1
      have := r5 ((isort fs)[i], ys[i]) (by
        rw [List.mem_iff_getElem]
        exact ⟨i, by rw [List.length_zip]; omega, by simp⟩)
      simpa using this.1
  have hzip : ∀ y ∈ ys, ∃ x ∈ isort fs, (x, y) ∈ (isort fs).zip ys := fun y hy => by
    obtain ⟨i, hi, rfl⟩ := List.mem_iff_getElem.mp hy
    refine ⟨(isort fs)[i]'(by omega), List.getElem_mem _, ?_⟩
    rw [List.mem_iff_getElem]
    exact ⟨i, by rw [List.length_zip]; omega, by simp⟩
  have hyl : ys.length = fs.length := by rw [l5, isort_length]
  refine ⟨ys, bx3, ?_, ⟨fun z => ?_, by omega, by rw [hys]; exact isort_asc hfn, fun g hg => ?_, fun g hg => ?_⟩, hc3.mono (by rw [isort_length]; omega)⟩
  · have := call_c (k := k + 2) (as := [.c b, .v (.int hi), .v (.int fo)]) (d := en ys) (s := s) (s' := s.set b (Bx.cell bx3)) h rfl rfl rfl (by
      rw [show ((1 + m : Nat) : Int) = (1 : Int) + m by omega] at t2
      simp [F_book, e1, t1, t2, e2, e3, hs, e5]
      rw [madeL_ok (by rw [List.length_map]; omega)]
      simp
      rfl)
    rw [set_take] at this
    exact this
  · rw [z] at hyl
    simp at hyl
    omega
  · have : g.1 ∈ isort fs := by rw [← hys]; exact List.mem_map.mpr ⟨g, hg, rfl⟩
    exact hfm g.1 (mem_isort.mp this)
  · obtain ⟨x, hx, hz⟩ := hzip g hg
    exact (r5 _ hz).2
end
end Mi
end

section
set_option maxRecDepth 100000
/-! MiSetN: sorted(set(..)) of names (out of K01C). -/
namespace Mi
open PySem
open En (en)
def dedupT {α : Type} [DecidableEq α] : List α → List α
  | [] => []
  | x :: xs => if x ∈ dedupT xs then dedupT xs else x :: dedupT xs
theorem dedup_map {α : Type} [En α] [DecidableEq α] : ∀ xs : List α, dedupD (xs.map en) = (dedupT xs).map en
  | [] => rfl
  | x :: xs => by
    rw [List.map_cons]
    show (if ((dedupD (xs.map en)).any fun z => PyData.eqv z (en x)) = true then dedupD (xs.map en) else en x :: dedupD (xs.map en)) = _
    rw [dedup_map xs, any_en, dedupT]
    by_cases h : x ∈ dedupT xs
    · rw [if_pos (decide_eq_true h), if_pos h]
    · rw [if_neg (by simpa using h), if_neg h]; rfl
theorem mem_dedupT {α : Type} [DecidableEq α] {x : α} : ∀ {xs : List α}, x ∈ dedupT xs ↔ x ∈ xs
  | [] => Iff.rfl
  | y :: xs => by
    rw [dedupT]
    split
    · rename_i h
      rw [mem_dedupT, List.mem_cons]
      exact ⟨.inr, fun z => z.elim (fun e => by rw [e]; exact mem_dedupT.mp h) id⟩
    · rw [List.mem_cons, List.mem_cons, mem_dedupT]
theorem dedupT_nodup {α : Type} [DecidableEq α] : ∀ xs : List α, (dedupT xs).Nodup
  | [] => List.nodup_nil
  | y :: xs => by
    rw [dedupT]
    split
    · exact dedupT_nodup xs
    · rename_i h
      exact List.nodup_cons.mpr ⟨h, dedupT_nodup xs⟩
theorem sortSet {α : Type} [En α] [DecidableEq α] (xs : List α) : sortD (dedupD (xs.map en)) = (setOf xs).map en := by
  rw [dedup_map, isort_map]
  congr 1
  exact asc_eq (isort_asc (dedupT_nodup xs)) (setOf_asc xs) fun x => by rw [mem_isort, mem_dedupT, mem_setOf]
theorem setOk_nm (xs : List Nm) (h : xs.length < 4000) : setOk (xs.map en) = true := by
  unfold setOk
  have h1 : ∀ ds : List PyData, (∀ d ∈ ds, ∃ x : Nm, d = en x) → ds.all scanD = true := fun ds hd => by
    rw [List.all_eq_true]
    intro d hm
    obtain ⟨x, rfl⟩ := hd d hm
    rfl
  rw [h1 _ (fun d hd => by obtain ⟨x, _, rfl⟩ := List.mem_map.mp hd; exact ⟨x, rfl⟩)]
  have h2 : sortOk (xs.map en) = true := by
    have e1 : okD (.list (xs.map en)) = true := okL xs (by decide)
    unfold sortOk eachIn
    rw [e1]
    simp only [Bool.true_and, Bool.and_eq_true, Bool.or_eq_true, List.all_eq_true]
    refine ⟨⟨fun d hd e he => ?_, decide_eq_true (by rw [List.length_map]; omega)⟩, .inr fun d hd => ?_⟩
    · obtain ⟨x, _, rfl⟩ := List.mem_map.mp hd
      obtain ⟨y, _, rfl⟩ := List.mem_map.mp he
      exact En.ak x y
    · obtain ⟨x, _, rfl⟩ := List.mem_map.mp hd
      rfl
  rw [h2]
  simp [h]
theorem set_t (xs : List Nm) (h : xs.length < 4000) {s : Sto} : setFX false (.v (.tuple (xs.map en))) s = .ok (.v (.list ((setOf xs).map en))) s := by
  simp only [setFX, rd, Option.bind_some, seqOf, setOk_nm xs h, if_true, Bool.false_eq_true, if_false, sortSet]
theorem set_l (xs : List Nm) (h : xs.length < 4000) {s : Sto} : setFX false (.v (.list (xs.map en))) s = .ok (.v (.list ((setOf xs).map en))) s := by
  simp only [setFX, rd, Option.bind_some, seqOf, setOk_nm xs h, if_true, Bool.false_eq_true, if_false, sortSet]
theorem eqvAll_en (xs ys : List Nm) : PyData.eqvAll (xs.map en) (ys.map en) = decide (xs = ys) := eqvAll_map xs ys fun x _ y _ => En.eqv x y
theorem eq_ll (xs ys : List Nm) {s : Sto} : cmpX .Eq (.v (.list (xs.map en))) (.v (.list (ys.map en))) s = .ok (.v (.bool (decide (xs = ys)))) s := by
  rw [eq_v (okL xs (by decide)) (okL ys (by decide))]
  simp only [PyData.eqv, eqvAll_en]
theorem ne_ll (xs ys : List Nm) {s : Sto} : cmpX .NotEq (.v (.list (xs.map en))) (.v (.list (ys.map en))) s = .ok (.v (.bool (!decide (xs = ys)))) s := by
  rw [ne_v (okL xs (by decide)) (okL ys (by decide))]
  simp only [PyData.eqv, eqvAll_en]
end Mi
end

section
set_option maxRecDepth 100000
/-! K02C: what is heard of a book, its folk. -/
namespace K02
open PySem Mi
open Mi.En (en)
def F_folk : Fn := ⟨1, 4, false, (.cons (.set (.one 1) (.lst .nil)) (.cons (.for_ (.tup [2, 3]) (.seq (.var 0)) (.cons (.set (.one 1) (.bin .Add (.var 1) (.bltl .list (.cons (.var 3) .nil)))) .nil)) (.cons (.ret (.setF false (.var 1))) .nil)))⟩
def F_heard : Fn := ⟨4, 8, false, (.cons (.par [(4, false), (5, false)] (.cons (.cst .none) (.cons (.cst .none) .nil))) (.cons (.try_ (.cons (.ite (.cmp .Eq (.var 0) (.cst (.int (0)))) (.cons (.set (.one 5) (.call 297 (.cons (.var 1) (.cons (.var 2) .nil)))) .nil) (.cons (.set (.one 5) (.ite (.cmp .Eq (.var 0) (.cst (.int (1)))) (.call 190 (.cons (.var 1) (.cons (.var 2) .nil))) (.call 206 (.cons (.var 1) (.cons (.var 2) (.cons (.var 3) .nil)))))) .nil)) .nil) [⟨"NoGroup", 6, 4, [(.con (.str "group")), .fld, (.isa true)]⟩, ⟨"NoPerson", 7, 4, [(.con (.str "person")), .fld, (.isa true)]⟩]) (.cons (.ret (.ite (.cmp .Is (.var 4) (.cst .none)) (.var 5) (.var 4))) .nil)))⟩
section
variable {P : Prog} (L : LibX P) {n : Nat} {d : PyData} {b : Book}
include L
theorem heard0 (hf : P.fn? 602 = some F_heard) (I : Is n d b) (hB : BkS b) {g : Nm} (h : g ∉ groupsT b) (y : PyData) (k : Nat) (s : Sto) : callD P (k + n + 6) 602 [.v (.int 0), .v d, .v (en g), .v y] s = .ok (.v (.list [.str "group", en g, .bool true])) s := by
  refine call_ret (as := [_, _, _, _]) (x := .v (.list [.str "group", en g, .bool true])) (s' := []) hf rfl rfl ?_ rfl s
  have h1 := x_members_of L I hB h k
  simp [F_heard, h1, kTry, hdOf, hdVs]
theorem heard1 (hf : P.fn? 602 = some F_heard) (I : Is n d b) (hB : BkS b) {g : Nm} (h : g ∉ peopleT b) (y : PyData) (k : Nat) (s : Sto) : callD P (k + n + 6) 602 [.v (.int 1), .v d, .v (en g), .v y] s = .ok (.v (.list [.str "person", en g, .bool true])) s := by
  refine call_ret (as := [_, _, _, _]) (x := .v (.list [.str "person", en g, .bool true])) (s' := []) hf rfl rfl ?_ rfl s
  have h1 := x_groups_of L I hB h k
  have ne : ("NoGroup" : Str) ≠ "NoPerson" := by decide +kernel
  simp [F_heard, h1, kTry, hdOf, hdVs, ne]
theorem heard2 (hf : P.fn? 602 = some F_heard) (I : Is n d b) (hB : BkS b) {g y : Nm} (h : g ∉ groupsT b) (k : Nat) (s : Sto) : callD P (k + n + 6) 602 [.v (.int 2), .v d, .v (en g), .v (en y)] s = .ok (.v (.list [.str "group", en g, .bool true])) s := by
  refine call_ret (as := [_, _, _, _]) (x := .v (.list [.str "group", en g, .bool true])) (s' := []) hf rfl rfl ?_ rfl s
  have h1 := x_in_both L I hB (y := y) h k
  simp [F_heard, h1, kTry, hdOf, hdVs]
theorem heard3 (hf : P.fn? 602 = some F_heard) (I : Is n d b) (hB : BkS b) {g y : Nm} (hg : g ∈ groupsT b) (h : y ∉ groupsT b) (k : Nat) (s : Sto) : callD P (k + n + 6) 602 [.v (.int 2), .v d, .v (en g), .v (en y)] s = .ok (.v (.list [.str "group", en y, .bool true])) s := by
  refine call_ret (as := [_, _, _, _]) (x := .v (.list [.str "group", en y, .bool true])) (s' := []) hf rfl rfl ?_ rfl s
  have h1 := x_in_both2 L I hB hg h k
  simp [F_heard, h1, kTry, hdOf, hdVs]
end
section
variable {P : Prog}
/-- _law_folk -/
theorem c_folk (hf : P.fn? 601 = some F_folk) {b : Book} (hl : b.length ≤ 8) (hm : ∀ g ∈ b, g.2.length ≤ 8) (k : Nat) (s : Sto) : callD P (k + 1) 601 [.v (en b)] s = .ok (.v (.list ((peopleT b).map en))) s := by
  refine call_ret (as := [_]) (x := .v (.list ((peopleT b).map en))) (s' := []) hf rfl rfl ?_ rfl s
  have hfl : (b.flatMap (·.2)).length ≤ 64 := by
    have := flat_len (fun g : Nm × List Nm => g.2) 8 b hm
    omega
  simp [F_folk, madeL_ok]
  refine for_fold (g := (en : Nm × List Nm → PyData)) (fun pre ρ s => s = [] ∧ ∃ o2 o3, ρ = [some (.v (en b)), some (.v (.list ((pre.flatMap (·.2)).map en))), o2, o3]) (fun r => r = _) b ⟨rfl, _, _, rfl⟩ ?_ ?_
  · rintro pre g post he _ _ ⟨rfl, o2, o3, rfl⟩
    refine ⟨[some (.v (en b)), some (.v (.list (((pre ++ [g]).flatMap (·.2)).map en))), some (.v (en g.1)), some (.v (en g.2))], [], ?_, rfl, _, _, rfl⟩
    rw [f_bind (by rw [show (en g : PyData) = .tuple [en g.1, en g.2] from rfl]; exact b_two ..)]
    have h2 : ((pre.flatMap (·.2)).map (en : Nm → PyData)).length + (g.2.map (en : Nm → PyData)).length ≤ 16777216 := by
      rw [he] at hfl
      simp at hfl ⊢
      omega
    simp [op_addL _ _ h2]
  · rintro _ _ ⟨rfl, o2, o3, rfl⟩
    have := set_l (b.flatMap (·.2)) (by omega) (s := [])
    simp [this, peopleT]
end
end K02
end

section
set_option maxRecDepth 100000
/-! K02M: the same lists said twice. -/
namespace K02
open PySem Mi
open Mi.En (en)
theorem homes_eq {b : Book} (B : GB b) (p : Nm) : (groupsT b).filter (fun g => decide (p ∈ membersT b g)) = homesT b p := by
  rw [groupsT, List.filter_map, homesT]
  congr 1
  apply List.filter_congr
  intro g hg
  have : membersT b g.1 = g.2 := mem_tab B.S.nd hg
  simp [this]
theorem both_eq {b : Book} (B : GB b) {x y : Nm} (hx : x ∈ groupsT b) (hy : y ∈ groupsT b) : (peopleT b).filter (fun p => decide (p ∈ membersT b x) && decide (p ∈ membersT b y)) = bothT b x y := by
  have mx := B.members hx
  refine asc_eq (asc_filter (setOf_asc _) _) (asc_filter (B.mem _ mx).1 _) fun p => ?_
  rw [bothT, List.mem_filter, List.mem_filter, Bool.and_eq_true, decide_eq_true_eq, decide_eq_true_eq]
  constructor
  · rintro ⟨_, h1, h2⟩
    exact ⟨h1, h2⟩
  · rintro ⟨h1, h2⟩
    exact ⟨mem_people.mpr ⟨_, mx, h1⟩, h1, h2⟩
end K02
end

section
set_option maxRecDepth 100000
set_option maxHeartbeats 2000000
/-! K02D: one book asked. -/
namespace K02
open PySem Mi
open Mi.En (en)
def F_case : Fn := ⟨1, 11, false, (.cons (.par [(2, false), (3, false), (4, false)] (.cons (.comp [1] (.sub (.var 1) (.cst (.int (0)))) (.one 1) (.seq (.var 0)) .nil) (.cons (.call 601 (.cons (.var 0) .nil)) (.cons (.call 12 (.cons (.var 0) .nil)) .nil)))) (.cons (.set (.one 5) (.blt .dict (.cons (.var 0) .nil))) (.cons (.new 6 (.lst (.cons (.call 189 (.cons (.var 0) .nil)) (.cons (.call 328 (.cons (.var 0) .nil)) (.cons (.call 298 (.cons (.var 0) .nil)) (.cons (.call 189 (.cons (.var 4) .nil)) (.cons (.call 328 (.cons (.var 4) .nil)) (.cons (.call 298 (.cons (.var 4) .nil)) .nil)))))))) (.cons (.set (.one 7) (.lst .nil)) (.cons (.for_ (.one 8) (.seq (.var 2)) (.cons (.set (.one 7) (.bin .Add (.var 7) (.comp [1] (.tup (.cons (.var 8) (.cons (.var 1) .nil))) (.one 1) (.seq (.sub (.var 5) (.var 8))) .nil))) .nil)) (.cons (.new 9 (.bin .Mult (.lst (.cons (.blt .tup (.cons (.var 2) .nil)) (.cons (.blt .tup (.cons (.var 3) .nil)) (.cons (.blt .tup (.cons (.var 7) .nil)) .nil)))) (.cst (.int (2))))) (.cons (.ex (.meth .append (.var 6) (.cons (.comp [8] (.call 297 (.cons (.var 4) (.cons (.var 8) .nil))) (.one 8) (.seq (.var 2)) .nil) .nil))) (.cons (.ex (.meth .append (.var 6) (.cons (.comp [1] (.call 190 (.cons (.var 4) (.cons (.var 1) .nil))) (.one 1) (.seq (.var 3)) .nil) .nil))) (.cons (.ex (.meth .append (.var 9) (.cons (.comp [8] (.sub (.var 5) (.var 8)) (.one 8) (.seq (.var 2)) .nil) .nil))) (.cons (.ex (.meth .append (.var 9) (.cons (.comp [1] (.blt .tup (.cons (.comp [8] (.var 8) (.one 8) (.seq (.var 2)) (.cons (.cmp .In (.var 1) (.sub (.var 5) (.var 8))) .nil)) .nil)) (.one 1) (.seq (.var 3)) .nil) .nil))) (.cons (.for_ (.one 8) (.seq (.var 2)) (.cons (.ex (.meth .append (.var 6) (.cons (.comp [10] (.call 206 (.cons (.var 0) (.cons (.var 8) (.cons (.var 10) .nil)))) (.one 10) (.seq (.var 2)) .nil) .nil))) (.cons (.ex (.meth .append (.var 9) (.cons (.comp [10] (.blt .tup (.cons (.comp [1] (.var 1) (.one 1) (.seq (.var 3)) (.cons (.and (.cmp .In (.var 1) (.sub (.var 5) (.var 8))) (.cmp .In (.var 1) (.sub (.var 5) (.var 10)))) .nil)) .nil)) (.one 10) (.seq (.var 2)) .nil) .nil))) (.cons (.new 6 (.bin .Add (.var 6) (.lst (.cons (.call 602 (.cons (.cst (.int (0))) (.cons (.var 0) (.cons (.cst (.str "no")) (.cons (.cst (.str "")) .nil))))) (.cons (.call 602 (.cons (.cst (.int (2))) (.cons (.var 4) (.cons (.var 8) (.cons (.cst (.str "no")) .nil))))) (.cons (.call 602 (.cons (.cst (.int (2))) (.cons (.var 4) (.cons (.cst (.str "x")) (.cons (.cst (.str "y")) .nil))))) .nil)))))) (.cons (.new 9 (.bin .Add (.var 9) (.lst (.cons (.lst (.cons (.cst (.str "group")) (.cons (.cst (.str "no")) (.cons (.cst (.bool true)) .nil)))) (.cons (.lst (.cons (.cst (.str "group")) (.cons (.cst (.str "no")) (.cons (.cst (.bool true)) .nil)))) (.cons (.lst (.cons (.cst (.str "group")) (.cons (.cst (.str "x")) (.cons (.cst (.bool true)) .nil)))) .nil)))))) .nil))))) (.cons (.ret (.call 11 (.cons (.bin .Add (.var 6) (.lst (.cons (.call 602 (.cons (.cst (.int (1))) (.cons (.var 4) (.cons (.cst (.str "no")) (.cons (.cst (.str "")) .nil))))) .nil))) (.cons (.bin .Add (.var 9) (.lst (.cons (.lst (.cons (.cst (.str "person")) (.cons (.cst (.str "no")) (.cons (.cst (.bool true)) .nil)))) .nil))) .nil)))) .nil))))))))))))⟩
def no : Nm := nam "no"
def xn : Nm := nam "x"
def yn : Nm := nam "y"
structure LibK (P : Prog) : Prop where
  x : LibX P
  lists : P.fn? 12 = some F_lists
  same : P.fn? 11 = some F_same
  folk : P.fn? 601 = some F_folk
  heard : P.fn? 602 = some F_heard
structure Fine (b : Book) : Prop where
  g : GB b
  len : b.length ≤ 8
  ml : ∀ g ∈ b, g.2.length ≤ 8
  n1 : no ∉ groupsT b
  n2 : xn ∉ groupsT b
  n3 : no ∉ peopleT b
section
variable {P : Prog} (L : LibK P) {b : Book} (F : Fine b)
include L F
theorem st0 (k : Nat) (r : Ss) : exs (cxAt P (k + 12)) (.cons (.par [(2, false), (3, false), (4, false)] (.cons (.comp [1] (.sub (.var 1) (.cst (.int (0)))) (.one 1) (.seq (.var 0)) .nil) (.cons (.call 601 (.cons (.var 0) .nil)) (.cons (.call 12 (.cons (.var 0) .nil)) .nil)))) (.cons (.set (.one 5) (.blt .dict (.cons (.var 0) .nil))) (.cons (.new 6 (.lst (.cons (.call 189 (.cons (.var 0) .nil)) (.cons (.call 328 (.cons (.var 0) .nil)) (.cons (.call 298 (.cons (.var 0) .nil)) (.cons (.call 189 (.cons (.var 4) .nil)) (.cons (.call 328 (.cons (.var 4) .nil)) (.cons (.call 298 (.cons (.var 4) .nil)) .nil)))))))) (.cons (.set (.one 7) (.lst .nil)) r))))
      [some (.v (en b)), none, none, none, none, none, none, none, none, none, none] []
    = exs (cxAt P (k + 12)) r [some (.v (en b)), none, some (.v (.list ((groupsT b).map en))), some (.v (.list ((peopleT b).map en))), some (.v (lstD (en b))), some (.v (.dict (tabT b))), some (.c 0), some (.v (.list [])), none, none, none] [.lst [en (groupsT b), en (peopleT b), en (tiesT b), en (groupsT b), en (peopleT b), en (tiesT b)]] := by
  have B := F.g
  have hs : Is 3 (lstD (en b)) b := B.is.lst
  have q1 : ∀ s, callD P (k + 12) 189 [.v (en b)] s = .ok (.v (en (groupsT b))) s := fun s => c_groups L.x.b B.is B.S (k + 6) s
  have q2 : ∀ s, callD P (k + 12) 328 [.v (en b)] s = .ok (.v (en (peopleT b))) s := fun s => c_people L.x.b B.is B.S (k + 6) s
  have q3 : ∀ s, callD P (k + 12) 298 [.v (en b)] s = .ok (.v (en (tiesT b))) s := fun s => c_memberships L.x.b B.is B.S (k + 7) s
  have q4 : ∀ s, callD P (k + 12) 189 [.v (lstD (en b))] s = .ok (.v (en (groupsT b))) s := fun s => c_groups L.x.b hs B.S (k + 6) s
  have q5 : ∀ s, callD P (k + 12) 328 [.v (lstD (en b))] s = .ok (.v (en (peopleT b))) s := fun s => c_people L.x.b hs B.S (k + 6) s
  have q6 : ∀ s, callD P (k + 12) 298 [.v (lstD (en b))] s = .ok (.v (en (tiesT b))) s := fun s => c_memberships L.x.b hs B.S (k + 7) s
  have q7 : ∀ s, callD P (k + 12) 601 [.v (en b)] s = .ok (.v (.list ((peopleT b).map en))) s := fun s => c_folk L.folk F.len F.ml (k + 11) s
  have q8 : ∀ s, callD P (k + 12) 12 [.v (en b)] s = .ok (.v (lstD (en b))) s := fun s => c_lists L.lists B.is.f (k + 8) s
  have t1 : ∀ s, turns (compB (cxAt P (k + 12)) (.sub (.var 1) (.cst (.int (0)))) (.one 1) .nil [some (.v (en b)), none, none, none, none, none, none, none, none, none, none]) (b.map en) s = .ok ((groupsT b).map en) s := fun s => by
    rw [turns_all (fun g : Nm × List Nm => (en g.1 : PyData)), groupsT, List.map_map]
    · rfl
    · intro g hg
      have e : ∀ s, subX (.v (.tuple [en g.1, en g.2])) (.v (.int 0)) s = .ok (.v (en g.1)) s := fun s => rfl
      rw [show (en g : PyData) = .tuple [en g.1, en g.2] from rfl]
      simp [e]
  have m1 : ∀ s, madeL ((groupsT b).map en) s = .ok (.v (.list ((groupsT b).map en))) s := fun s => madeL_ok (by rw [List.length_map, groupsT, List.length_map]; have := F.len; omega)
  have m6 : ∀ (xs : List PyData) s, xs.length ≤ 6 → madeL xs s = .ok (.v (.list xs)) s := fun xs s h => madeL_ok (by omega)
  have d1 : ∀ s, bltX .dict [.v (en b)] s = .ok (.v (.dict (tabT b))) s := fun s => by
    have := dict_nm (fun g : Nm × List Nm => g.1) (fun g => en g.2) b B.S.nd false s
    exact this
  simp [t1, m1, q1, q2, q3, q4, q5, q6, q7, q8, d1, m6]
omit L in
theorem ties_eq : tiesT b = (groupsT b).flatMap fun g => (membersT b g).map fun p => (g, p) := by
  have e := F.g.ext
  rw [tiesT]
  conv => lhs; rw [← e]
  rw [List.flatMap_map]
omit L in
theorem flat_le : (tiesT b).length ≤ 64 := by
  have := flat_len (fun g : Nm × List Nm => g.2.map fun p => (g.1, p)) 8 b (fun g hg => by rw [List.length_map]; exact F.ml g hg)
  have h := F.len
  rw [tiesT]
  omega
/-- the loop of the pairs -/
theorem st1 (k : Nat) (r : Ss) (s : Sto) (Q : R Fl → Prop)
    (hQ : ∀ o8, Q (exs (cxAt P (k + 12)) r [some (.v (en b)), none, some (.v (.list ((groupsT b).map en))), some (.v (.list ((peopleT b).map en))), some (.v (lstD (en b))), some (.v (.dict (tabT b))), some (.c 0), some (.v (.list ((tiesT b).map en))), o8, none, none] s)) :
    Q (exs (cxAt P (k + 12)) (.cons (.for_ (.one 8) (.seq (.var 2)) (.cons (.set (.one 7) (.bin .Add (.var 7) (.comp [1] (.tup (.cons (.var 8) (.cons (.var 1) .nil))) (.one 1) (.seq (.sub (.var 5) (.var 8))) .nil))) .nil)) r)
      [some (.v (en b)), none, some (.v (.list ((groupsT b).map en))), some (.v (.list ((peopleT b).map en))), some (.v (lstD (en b))), some (.v (.dict (tabT b))), some (.c 0), some (.v (.list [])), none, none, none] s) := by
  have B := F.g
  simp only [q_cons, p_for, i_seq, e_var, List.getElem?_cons_succ, List.getElem?_cons_zero, R.bind_ok, k_seq_l, k_for]
  refine for_fold (g := (en : Nm → PyData)) (fun pre ρ s1 => s1 = s ∧ ∃ o8, ρ = [some (.v (en b)), none, some (.v (.list ((groupsT b).map en))), some (.v (.list ((peopleT b).map en))), some (.v (lstD (en b))), some (.v (.dict (tabT b))), some (.c 0), some (.v (.list ((pre.flatMap fun g => (membersT b g).map fun p => (g, p)).map en))), o8, none, none]) Q (groupsT b) ⟨rfl, _, rfl⟩ ?_ ?_
  · rintro pre g post he _ s2 ⟨rfl, o8, rfl⟩
    have hg : g ∈ groupsT b := by rw [he]; simp
    have hm := (F.ml _ (B.members hg) : (membersT b g).length ≤ 8)
    have t1 : ∀ (X : Xv), turns (compB (cxAt P (k + 12)) (.tup (.cons (.var 8) (.cons (.var 1) .nil))) (.one 1) .nil [some (.v (en b)), none, some (.v (.list ((groupsT b).map en))), some (.v (.list ((peopleT b).map en))), some (.v (lstD (en b))), some (.v (.dict (tabT b))), some (.c 0), some X, some (.v (en g)), none, none]) ((membersT b g).map en) s2 = .ok (((membersT b g).map fun p => (g, p)).map en) s2 := fun X => by
      rw [turns_all (fun p : Nm => (en (g, p) : PyData)), List.map_map]
      · rfl
      · intro p hp
        simp [madeT_ok]
        rfl
    have hfl : (pre.flatMap fun g => (membersT b g).map fun p => (g, p)).length + (membersT b g).length ≤ 64 := by
      have h1 := flat_le F
      rw [ties_eq F, he, List.flatMap_append, List.flatMap_cons, List.length_append, List.length_append, List.length_map] at h1
      omega
    have m1 : madeL (((membersT b g).map fun p => (g, p)).map en) s2 = .ok (.v (.list (((membersT b g).map fun p => (g, p)).map en))) s2 := madeL_ok (by rw [List.length_map, List.length_map]; omega)
    have a1 := op_addL (s := s2) ((pre.flatMap fun g => (membersT b g).map fun p => (g, p)).map en) (((membersT b g).map fun p => (g, p)).map (en : Nm × Nm → PyData)) (by rw [List.length_map, List.length_map, List.length_map]; omega)
    have e : ((pre ++ [g]).flatMap fun g => (membersT b g).map fun p => (g, p)).map (en : Nm × Nm → PyData) = (pre.flatMap fun g => (membersT b g).map fun p => (g, p)).map en ++ ((membersT b g).map fun p => (g, p)).map en := by
      rw [List.flatMap_append, List.flatMap_cons, List.flatMap_nil, List.append_nil, List.map_append]
    refine ⟨[some (.v (en b)), none, some (.v (.list ((groupsT b).map en))), some (.v (.list ((peopleT b).map en))), some (.v (lstD (en b))), some (.v (.dict (tabT b))), some (.c 0), some (.v (.list (((pre ++ [g]).flatMap fun g => (membersT b g).map fun p => (g, p)).map en))), some (.v (en g)), none, none], s2, ?_, rfl, _, rfl⟩
    rw [e]
    simp only [f_one, List.set_cons_succ, List.set_cons_zero]
    simp [sub_tab hg, t1, m1, a1, -List.map_map]
  · rintro _ _ ⟨rfl, o8, rfl⟩
    rw [← ties_eq F]
    simp only [k_nx]
    exact hQ o8
/-- what both lists hold ahead of the second loop -/
def G8 (b : Book) : List PyData := [en (groupsT b), en (peopleT b), en (tiesT b), en (groupsT b), en (peopleT b), en (tiesT b), .list ((groupsT b).map fun g => en (membersT b g)), .list ((peopleT b).map fun p => en (homesT b p))]
theorem st2 (k : Nat) (r : Ss) (o8 : Option Xv) : exs (cxAt P (k + 12)) (.cons (.new 9 (.bin .Mult (.lst (.cons (.blt .tup (.cons (.var 2) .nil)) (.cons (.blt .tup (.cons (.var 3) .nil)) (.cons (.blt .tup (.cons (.var 7) .nil)) .nil)))) (.cst (.int (2))))) (.cons (.ex (.meth .append (.var 6) (.cons (.comp [8] (.call 297 (.cons (.var 4) (.cons (.var 8) .nil))) (.one 8) (.seq (.var 2)) .nil) .nil))) (.cons (.ex (.meth .append (.var 6) (.cons (.comp [1] (.call 190 (.cons (.var 4) (.cons (.var 1) .nil))) (.one 1) (.seq (.var 3)) .nil) .nil))) (.cons (.ex (.meth .append (.var 9) (.cons (.comp [8] (.sub (.var 5) (.var 8)) (.one 8) (.seq (.var 2)) .nil) .nil))) (.cons (.ex (.meth .append (.var 9) (.cons (.comp [1] (.blt .tup (.cons (.comp [8] (.var 8) (.one 8) (.seq (.var 2)) (.cons (.cmp .In (.var 1) (.sub (.var 5) (.var 8))) .nil)) .nil)) (.one 1) (.seq (.var 3)) .nil) .nil))) r)))))
      [some (.v (en b)), none, some (.v (.list ((groupsT b).map en))), some (.v (.list ((peopleT b).map en))), some (.v (lstD (en b))), some (.v (.dict (tabT b))), some (.c 0), some (.v (.list ((tiesT b).map en))), o8, none, none] [.lst [en (groupsT b), en (peopleT b), en (tiesT b), en (groupsT b), en (peopleT b), en (tiesT b)]]
    = exs (cxAt P (k + 12)) r [some (.v (en b)), none, some (.v (.list ((groupsT b).map en))), some (.v (.list ((peopleT b).map en))), some (.v (lstD (en b))), some (.v (.dict (tabT b))), some (.c 0), some (.v (.list ((tiesT b).map en))), o8, some (.c 1), none] [.lst (G8 b), .lst (G8 b)] := by
  have B := F.g
  have hs : Is 3 (lstD (en b)) b := B.is.lst
  have gl : (groupsT b).length ≤ 8 := by rw [groupsT, List.length_map]; exact F.len
  have pl : (peopleT b).length ≤ 64 := by
    have h1 := setOf_length (b.flatMap (·.2))
    have h2 := flat_len (fun g : Nm × List Nm => g.2) 8 b F.ml
    have h3 := F.len
    show (setOf (b.flatMap (·.2))).length ≤ 64
    omega
  have q1 : ∀ g ∈ groupsT b, ∀ s, callD P (k + 12) 297 [.v (lstD (en b)), .v (en g)] s = .ok (.v (en (membersT b g))) s := fun g hg s => c_members_of L.x.b hs B.S hg (k + 4) s
  have q2 : ∀ p ∈ peopleT b, ∀ s, callD P (k + 12) 190 [.v (lstD (en b)), .v (en p)] s = .ok (.v (en (homesT b p))) s := fun p hp s => c_groups_of L.x.b hs B.S hp (k + 4) s
  have t1 : ∀ s, turns (compB (cxAt P (k + 12)) (.call 297 (.cons (.var 4) (.cons (.var 8) .nil))) (.one 8) .nil [some (.v (en b)), none, some (.v (.list ((groupsT b).map en))), some (.v (.list ((peopleT b).map en))), some (.v (lstD (en b))), some (.v (.dict (tabT b))), some (.c 0), some (.v (.list ((tiesT b).map en))), none, some (.c 1), none]) ((groupsT b).map en) s = .ok ((groupsT b).map fun g => en (membersT b g)) s := fun s => turns_all (fun g : Nm => (en (membersT b g) : PyData)) fun g hg => by simp [q1 g hg]
  have t2 : ∀ s, turns (compB (cxAt P (k + 12)) (.call 190 (.cons (.var 4) (.cons (.var 1) .nil))) (.one 1) .nil [some (.v (en b)), none, some (.v (.list ((groupsT b).map en))), some (.v (.list ((peopleT b).map en))), some (.v (lstD (en b))), some (.v (.dict (tabT b))), some (.c 0), some (.v (.list ((tiesT b).map en))), o8, some (.c 1), none]) ((peopleT b).map en) s = .ok ((peopleT b).map fun p => en (homesT b p)) s := fun s => turns_all (fun p : Nm => (en (homesT b p) : PyData)) fun p hp => by simp [q2 p hp]
  have t3 : ∀ s, turns (compB (cxAt P (k + 12)) (.sub (.var 5) (.var 8)) (.one 8) .nil [some (.v (en b)), none, some (.v (.list ((groupsT b).map en))), some (.v (.list ((peopleT b).map en))), some (.v (lstD (en b))), some (.v (.dict (tabT b))), some (.c 0), some (.v (.list ((tiesT b).map en))), none, some (.c 1), none]) ((groupsT b).map en) s = .ok ((groupsT b).map fun g => en (membersT b g)) s := fun s => turns_all (fun g : Nm => (en (membersT b g) : PyData)) fun g hg => by simp [sub_tab hg]
  have t4 : ∀ s, turns (compB (cxAt P (k + 12)) (.blt .tup (.cons (.comp [8] (.var 8) (.one 8) (.seq (.var 2)) (.cons (.cmp .In (.var 1) (.sub (.var 5) (.var 8))) .nil)) .nil)) (.one 1) .nil [some (.v (en b)), none, some (.v (.list ((groupsT b).map en))), some (.v (.list ((peopleT b).map en))), some (.v (lstD (en b))), some (.v (.dict (tabT b))), some (.c 0), some (.v (.list ((tiesT b).map en))), o8, some (.c 1), none]) ((peopleT b).map en) s = .ok ((peopleT b).map fun p => en (homesT b p)) s := fun s => turns_all (fun p : Nm => (en (homesT b p) : PyData)) fun p hp => by
    simp
    rw [turns_if (fun g : Nm => decide (p ∈ membersT b g)) (en : Nm → PyData)]
    · rw [homes_eq B]
      simp only [calm_ok', R.bind_ok]
      rw [madeL_ok (by rw [List.length_map, homesT, List.length_map]; have := List.length_filter_le (fun g : Nm × List Nm => decide (p ∈ g.2)) b; have := F.len; omega)]
      simp
      rfl
    · intro g hg
      simp [sub_tab hg]
  have m1 : ∀ s, madeL ((groupsT b).map fun g => (en (membersT b g) : PyData)) s = .ok (.v (.list ((groupsT b).map fun g => en (membersT b g)))) s := fun s => madeL_ok (by rw [List.length_map]; omega)
  have m2 : ∀ s, madeL ((peopleT b).map fun p => (en (homesT b p) : PyData)) s = .ok (.v (.list ((peopleT b).map fun p => en (homesT b p)))) s := fun s => madeL_ok (by rw [List.length_map]; omega)
  have m6 : ∀ (xs : List PyData) s, xs.length ≤ 6 → madeL xs s = .ok (.v (.list xs)) s := fun xs s h => madeL_ok (by omega)
  have mu : ∀ (x y z : PyData) s, binX .Mult (.v (.list [x, y, z])) (.v (.int 2)) s = .ok (.v (.list [x, y, z, x, y, z])) s := fun x y z s => rfl
  have e1 : (PyData.tuple ((groupsT b).map en)) = en (groupsT b) := rfl
  have e2 : (PyData.tuple ((peopleT b).map en)) = en (peopleT b) := rfl
  have e3 : (PyData.tuple ((tiesT b).map en)) = en (tiesT b) := rfl
  simp [m6, mu, e1, e2, e3, t1, t2, t3, t4, m1, m2, methX, appX, isL, G8]
/-- a turn of the second loop -/
theorem turnL {k : Nat} {t : Nm} (ht : t ∈ groupsT b) {n6 n9 : Nat} (hne : n6 ≠ n9) {G : List PyData} {s : Sto} (c6 : s[n6]? = some (.lst G)) (c9 : s[n9]? = some (.lst G)) (hG : G.length ≤ 10000) :
    ∃ n6' n9' G' s', exs (cxAt P (k + 12)) (.cons (.ex (.meth .append (.var 6) (.cons (.comp [10] (.call 206 (.cons (.var 0) (.cons (.var 8) (.cons (.var 10) .nil)))) (.one 10) (.seq (.var 2)) .nil) .nil))) (.cons (.ex (.meth .append (.var 9) (.cons (.comp [10] (.blt .tup (.cons (.comp [1] (.var 1) (.one 1) (.seq (.var 3)) (.cons (.and (.cmp .In (.var 1) (.sub (.var 5) (.var 8))) (.cmp .In (.var 1) (.sub (.var 5) (.var 10)))) .nil)) .nil)) (.one 10) (.seq (.var 2)) .nil) .nil))) (.cons (.new 6 (.bin .Add (.var 6) (.lst (.cons (.call 602 (.cons (.cst (.int (0))) (.cons (.var 0) (.cons (.cst (.str "no")) (.cons (.cst (.str "")) .nil))))) (.cons (.call 602 (.cons (.cst (.int (2))) (.cons (.var 4) (.cons (.var 8) (.cons (.cst (.str "no")) .nil))))) (.cons (.call 602 (.cons (.cst (.int (2))) (.cons (.var 4) (.cons (.cst (.str "x")) (.cons (.cst (.str "y")) .nil))))) .nil)))))) (.cons (.new 9 (.bin .Add (.var 9) (.lst (.cons (.lst (.cons (.cst (.str "group")) (.cons (.cst (.str "no")) (.cons (.cst (.bool true)) .nil)))) (.cons (.lst (.cons (.cst (.str "group")) (.cons (.cst (.str "no")) (.cons (.cst (.bool true)) .nil)))) (.cons (.lst (.cons (.cst (.str "group")) (.cons (.cst (.str "x")) (.cons (.cst (.bool true)) .nil)))) .nil)))))) .nil)))) [some (.v (en b)), none, some (.v (.list ((groupsT b).map en))), some (.v (.list ((peopleT b).map en))), some (.v (lstD (en b))), some (.v (.dict (tabT b))), some (.c n6), some (.v (.list ((tiesT b).map en))), some (.v (en t)), some (.c n9), none] s = .ok (.nx [some (.v (en b)), none, some (.v (.list ((groupsT b).map en))), some (.v (.list ((peopleT b).map en))), some (.v (lstD (en b))), some (.v (.dict (tabT b))), some (.c n6'), some (.v (.list ((tiesT b).map en))), some (.v (en t)), some (.c n9'), none]) s' ∧ n6' ≠ n9' ∧ s'[n6']? = some (.lst G') ∧ s'[n9']? = some (.lst G') ∧ G'.length ≤ G.length + 4 ∧ ((∀ d ∈ G, Gd d) → ∀ d ∈ G', Gd d) := by
  have B := F.g
  have hs : Is 3 (lstD (en b)) b := B.is.lst
  have gl : (groupsT b).length ≤ 8 := by rw [groupsT, List.length_map]; exact F.len
  have ml : ∀ x ∈ groupsT b, (membersT b x).length ≤ 8 := fun x hx => (F.ml _ (B.members hx) : (membersT b x).length ≤ 8)
  have bl : ∀ y, (bothT b t y).length ≤ 8 := fun y => Nat.le_trans (List.length_filter_le ..) (ml t ht)
  have q1 : ∀ y ∈ groupsT b, ∀ s, callD P (k + 12) 206 [.v (en b), .v (en t), .v (en y)] s = .ok (.v (en (bothT b t y))) s := fun y hy s => c_in_both L.x.b B.is B.S ht hy (k + 4) s
  obtain ⟨X, hX⟩ : ∃ X : PyData, X = .list ((groupsT b).map fun y => en (bothT b t y)) := ⟨_, rfl⟩
  have t1 : ∀ (m6 m9 : Nat) s, turns (compB (cxAt P (k + 12)) (.call 206 (.cons (.var 0) (.cons (.var 8) (.cons (.var 10) .nil)))) (.one 10) .nil [some (.v (en b)), none, some (.v (.list ((groupsT b).map en))), some (.v (.list ((peopleT b).map en))), some (.v (lstD (en b))), some (.v (.dict (tabT b))), some (.c m6), some (.v (.list ((tiesT b).map en))), some (.v (en t)), some (.c m9), none]) ((groupsT b).map en) s = .ok ((groupsT b).map fun y => en (bothT b t y)) s := fun m6 m9 s => turns_all (fun y : Nm => (en (bothT b t y) : PyData)) fun y hy => by simp [q1 y hy]
  have t2 : ∀ (m6 m9 : Nat) s, turns (compB (cxAt P (k + 12)) (.blt .tup (.cons (.comp [1] (.var 1) (.one 1) (.seq (.var 3)) (.cons (.and (.cmp .In (.var 1) (.sub (.var 5) (.var 8))) (.cmp .In (.var 1) (.sub (.var 5) (.var 10)))) .nil)) .nil)) (.one 10) .nil [some (.v (en b)), none, some (.v (.list ((groupsT b).map en))), some (.v (.list ((peopleT b).map en))), some (.v (lstD (en b))), some (.v (.dict (tabT b))), some (.c m6), some (.v (.list ((tiesT b).map en))), some (.v (en t)), some (.c m9), none]) ((groupsT b).map en) s = .ok ((groupsT b).map fun y => en (bothT b t y)) s := fun m6 m9 s => turns_all (fun y : Nm => (en (bothT b t y) : PyData)) fun y hy => by
    simp
    rw [turns_if (fun p : Nm => decide (p ∈ membersT b t) && decide (p ∈ membersT b y)) (en : Nm → PyData)]
    · rw [both_eq B ht hy]
      simp only [calm_ok', R.bind_ok]
      rw [madeL_ok (by rw [List.length_map]; have := bl y; omega)]
      simp
      rfl
    · intro p hp
      by_cases h1 : p ∈ membersT b t <;> by_cases h2 : p ∈ membersT b y <;> simp [sub_tab ht, sub_tab hy, h1, h2]
  have m1 : ∀ s, madeL ((groupsT b).map fun y => (en (bothT b t y) : PyData)) s = .ok (.v X) s := fun s => by rw [hX]; exact madeL_ok (by rw [List.length_map]; omega)
  have h0 : ∀ s, callD P (k + 12) 602 [.v (.int 0), .v (en b), .v (.str "no"), .v (.str "")] s = .ok (.v (.list [.str "group", .str "no", .bool true])) s := fun s => heard0 L.x L.heard B.is B.S F.n1 _ (k + 3) s
  have h2 : ∀ s, callD P (k + 12) 602 [.v (.int 2), .v (lstD (en b)), .v (.str "x"), .v (.str "y")] s = .ok (.v (.list [.str "group", .str "x", .bool true])) s := fun s => heard2 L.x L.heard hs B.S (g := xn) (y := yn) F.n2 (k + 3) s
  have h3 : ∀ s, callD P (k + 12) 602 [.v (.int 2), .v (lstD (en b)), .v (en t), .v (.str "no")] s = .ok (.v (.list [.str "group", .str "no", .bool true])) s := fun s => heard3 L.x L.heard hs B.S (y := no) ht F.n1 (k + 3) s
  have ml3 : ∀ (xs : List PyData) s, xs.length ≤ 3 → madeL xs s = .ok (.v (.list xs)) s := fun xs s h => madeL_ok (by omega)
  have l6 : n6 < s.length := (List.getElem?_eq_some_iff.mp c6).1
  have l9 : n9 < s.length := (List.getElem?_eq_some_iff.mp c9).1
  obtain ⟨s1, hs1⟩ : ∃ s1, s1 = (s.set n6 (.lst (G ++ [X]))).set n9 (.lst (G ++ [X])) := ⟨_, rfl⟩
  have d6 : s1[n6]? = some (.lst (G ++ [X])) := by rw [hs1, List.getElem?_set_ne (Ne.symm hne), List.getElem?_set_self l6]
  have d9 : s1[n9]? = some (.lst (G ++ [X])) := by rw [hs1, List.getElem?_set_self (by rw [List.length_set]; exact l9)]
  have c9' : (s.set n6 (.lst (G ++ [X])))[n9]? = some (.lst G) := by rw [List.getElem?_set_ne hne]; exact c9
  have szk : G.length + 1 ≤ 16777216 := by omega
  have st : ∀ r : Ss, exs (cxAt P (k + 12)) (.cons (.ex (.meth .append (.var 6) (.cons (.comp [10] (.call 206 (.cons (.var 0) (.cons (.var 8) (.cons (.var 10) .nil)))) (.one 10) (.seq (.var 2)) .nil) .nil))) (.cons (.ex (.meth .append (.var 9) (.cons (.comp [10] (.blt .tup (.cons (.comp [1] (.var 1) (.one 1) (.seq (.var 3)) (.cons (.and (.cmp .In (.var 1) (.sub (.var 5) (.var 8))) (.cmp .In (.var 1) (.sub (.var 5) (.var 10)))) .nil)) .nil)) (.one 10) (.seq (.var 2)) .nil) .nil))) r)) [some (.v (en b)), none, some (.v (.list ((groupsT b).map en))), some (.v (.list ((peopleT b).map en))), some (.v (lstD (en b))), some (.v (.dict (tabT b))), some (.c n6), some (.v (.list ((tiesT b).map en))), some (.v (en t)), some (.c n9), none] s = exs (cxAt P (k + 12)) r [some (.v (en b)), none, some (.v (.list ((groupsT b).map en))), some (.v (.list ((peopleT b).map en))), some (.v (lstD (en b))), some (.v (.dict (tabT b))), some (.c n6), some (.v (.list ((tiesT b).map en))), some (.v (en t)), some (.c n9), none] s1 := by
    intro r
    have isX : isL (.v X) s = isL (.v X) s := rfl
    simp [t1, t2, m1, methX, appX, c6, c9', hs1, isL]
    rw [if_pos (by omega), if_pos (by omega)]
  rw [st]
  rw [grow (i := 6) (j := 9) (n5 := n6) (n6 := n9) (L := G ++ [X]) (xs := [.list [.str "group", .str "no", .bool true], .list [.str "group", .str "no", .bool true], .list [.str "group", .str "x", .bool true]]) (by decide) rfl rfl d6 d9 (by simp; omega) (fun s => by simp [h0, h2, h3]) (fun s => by simp [ml3])]
  refine ⟨s1.length, s1.length + 1, G ++ [X] ++ [.list [.str "group", .str "no", .bool true], .list [.str "group", .str "no", .bool true], .list [.str "group", .str "x", .bool true]], _, rfl, by omega, ?_, ?_, ?_, fun hd d hm => ?_⟩
  · simp
  · simp
  · simp
  · have gt : ∀ x : Str, PyData.strOk x = true → Gd (.list [.str "group", .str x, .bool true]) := fun x hx => ⟨(Sh.lst (n := 1) fun d hd => by
      simp only [List.mem_cons, List.not_mem_nil, or_false] at hd
      rcases hd with rfl | rfl | rfl
      · exact Sh.str (by decide +kernel)
      · exact Sh.str hx
      · exact Sh.bool _ _).mono (by decide), .list (by simp) fun d hd => by
      simp only [List.mem_cons, List.not_mem_nil, or_false] at hd
      rcases hd with rfl | rfl | rfl
      · exact .str _
      · exact .str _
      · exact .bool _⟩
    have gx : Gd X := by
      rw [hX]
      refine ⟨(Sh.lst (n := 2) fun d hd => ?_).mono (by decide), .list (by rw [List.length_map]; omega) fun d hd => ?_⟩
      · obtain ⟨y, _, rfl⟩ := List.mem_map.mp hd
        exact (En.sh (bothT b t y)).mono (by decide)
      · obtain ⟨y, _, rfl⟩ := List.mem_map.mp hd
        exact (gd_row (by have := bl y; omega)).2
    simp only [List.mem_append, List.mem_cons, List.not_mem_nil, or_false] at hm
    rcases hm with (hm | rfl) | rfl | rfl | rfl
    · exact hd d hm
    · exact gx
    · exact gt _ (by decide +kernel)
    · exact gt _ (by decide +kernel)
    · exact gt _ (by decide +kernel)
theorem case_ok (hf : P.fn? 603 = some F_case) (k : Nat) (s : Sto) : callD P (k + 13) 603 [.v (en b)] s = .ok (.v (.bool true)) s := by
  have B := F.g
  have hs : Is 3 (lstD (en b)) b := B.is.lst
  have gl : (groupsT b).length ≤ 8 := by rw [groupsT, List.length_map]; exact F.len
  have pl : (peopleT b).length ≤ 64 := by
    have h1 := setOf_length (b.flatMap (·.2))
    have h2 := flat_len (fun g : Nm × List Nm => g.2) 8 b F.ml
    have h3 := F.len
    show (setOf (b.flatMap (·.2))).length ≤ 64
    omega
  have tl := flat_le F
  have h1 : ∀ s, callD P (k + 12) 602 [.v (.int 1), .v (lstD (en b)), .v (.str "no"), .v (.str "")] s = .ok (.v (.list [.str "person", .str "no", .bool true])) s := fun s => heard1 L.x L.heard hs B.S (g := no) F.n3 _ (k + 3) s
  have ml3 : ∀ (xs : List PyData) s, xs.length ≤ 3 → madeL xs s = .ok (.v (.list xs)) s := fun xs s h => madeL_ok (by omega)
  have gp : Gd (.list [.str "person", .str "no", .bool true]) := ⟨(Sh.lst (n := 1) fun d hd => by
      simp only [List.mem_cons, List.not_mem_nil, or_false] at hd
      rcases hd with rfl | rfl | rfl
      · exact Sh.str (by decide +kernel)
      · exact Sh.str (by decide +kernel)
      · exact Sh.bool _ _).mono (by decide), .list (by simp) fun d hd => by
      simp only [List.mem_cons, List.not_mem_nil, or_false] at hd
      rcases hd with rfl | rfl | rfl
      · exact .str _
      · exact .str _
      · exact .bool _⟩
  have g8 : ∀ d ∈ G8 b, Gd d := by
    intro d hd
    have gg : Gd (en (groupsT b)) := gd_row (by omega)
    have gq : Gd (en (peopleT b)) := gd_row (by omega)
    have gt : Gd (en (tiesT b)) := gd_en (n := 2) (by decide) (fits_row (by omega) fun x _ => fits_pair (fits_nm 0 _) (fits_nm 0 _))
    have hl : ∀ p, (homesT b p).length ≤ 8 := fun p => by
      rw [homesT, List.length_map]
      exact Nat.le_trans (List.length_filter_le ..) F.len
    simp only [G8, List.mem_cons, List.not_mem_nil, or_false] at hd
    rcases hd with rfl | rfl | rfl | rfl | rfl | rfl | rfl | rfl
    · exact gg
    · exact gq
    · exact gt
    · exact gg
    · exact gq
    · exact gt
    · refine ⟨(Sh.lst (n := 2) fun d hd => ?_).mono (by decide), .list (by rw [List.length_map]; omega) fun d hd => ?_⟩
      · obtain ⟨y, _, rfl⟩ := List.mem_map.mp hd
        exact (En.sh (membersT b y)).mono (by decide)
      · obtain ⟨y, hy, rfl⟩ := List.mem_map.mp hd
        exact (gd_row (by have : (membersT b y).length ≤ 8 := F.ml _ (B.members hy); omega)).2
    · refine ⟨(Sh.lst (n := 2) fun d hd => ?_).mono (by decide), .list (by rw [List.length_map]; omega) fun d hd => ?_⟩
      · obtain ⟨y, _, rfl⟩ := List.mem_map.mp hd
        exact (En.sh (homesT b y)).mono (by decide)
      · obtain ⟨y, hy, rfl⟩ := List.mem_map.mp hd
        exact (gd_row (by have := hl y; omega)).2
  have key : ∃ s', exs (cxAt P (k + 12)) F_case.body ([en b].map (fun d => some (.v d)) ++ List.replicate (F_case.slots - 1) none) [] = .ok (.rt (.v (.bool true))) s' := by
    show ∃ s', exs (cxAt P (k + 12)) F_case.body [some (.v (en b)), none, none, none, none, none, none, none, none, none, none] [] = _
    unfold F_case
    simp only
    rw [st0 L F]
    refine st1 L F k _ _ (fun r => ∃ s', r = .ok (.rt (.v (.bool true))) s') fun o8 => ?_
    rw [st2 L F]
    simp only [q_cons, p_for, i_seq, e_var, List.getElem?_cons_succ, List.getElem?_cons_zero, R.bind_ok, k_seq_l, k_for]
    refine for_fold (g := (en : Nm → PyData)) (fun pre ρ s => ∃ n6 n9 G o8, ρ = [some (.v (en b)), none, some (.v (.list ((groupsT b).map en))), some (.v (.list ((peopleT b).map en))), some (.v (lstD (en b))), some (.v (.dict (tabT b))), some (.c n6), some (.v (.list ((tiesT b).map en))), o8, some (.c n9), none] ∧ n6 ≠ n9 ∧ s[n6]? = some (.lst G) ∧ s[n9]? = some (.lst G) ∧ G.length ≤ 8 + 4 * pre.length ∧ ∀ d ∈ G, Gd d) (fun r => ∃ s', r = .ok (.rt (.v (.bool true))) s') (groupsT b) ⟨0, 1, G8 b, o8, rfl, by decide, rfl, rfl, by simp [G8], g8⟩ ?_ ?_
    · rintro pre t post he _ s ⟨n6, n9, G, o8, rfl, hne, c6, c9, hGl, hGd⟩
      have hpre : pre.length ≤ 8 := by
        have := congrArg List.length he
        simp at this
        omega
      obtain ⟨n6', n9', G', s', e, hne', c6', c9', hl', hd'⟩ := turnL L F (k := k) (t := t) (by rw [he]; simp) hne c6 c9 (by omega)
      exact ⟨_, s', by rw [f_one]; exact e, n6', n9', G', _, rfl, hne', c6', c9', by simp; omega, hd' hGd⟩
    · rintro _ s ⟨n6, n9, G, o8, rfl, hne, c6, c9, hGl, hGd⟩
      have ad : ∀ n, s[n]? = some (.lst G) → binX .Add (.c n) (.v (.list [.list [.str "person", .str "no", .bool true]])) s = .ok (.v (.list (G ++ [.list [.str "person", .str "no", .bool true]]))) s := fun n h => by
        have : G.length + 1 ≤ 16777216 := by omega
        simp [binX, rd, h, binL, szOk, this]
      have sm : callD P (k + 12) 11 [.v (.list (G ++ [.list [.str "person", .str "no", .bool true]])), .v (.list (G ++ [.list [.str "person", .str "no", .bool true]]))] s = .ok (.v (.bool true)) s := by
        have hd : ∀ d ∈ G ++ [PyData.list [.str "person", .str "no", .bool true]], Gd d := fun d hd => by
          rcases List.mem_append.mp hd with hd | hd
          · exact hGd d hd
          · cases List.mem_singleton.mp hd
            exact gp
        exact c_same (P := P) L.same 11 (by decide) _ (Sh.lst fun d h => (hd d h).1) (.list (by simp; omega) fun d h => (hd d h).2) k s
      exact ⟨s, by simp [h1, ml3, ad n6 c6, ad n9 c9, sm]⟩
  obtain ⟨s', e⟩ := key
  exact call_ret (as := [_]) (x := .v (.bool true)) (s' := s') hf rfl rfl e rfl s
end
end K02
end

section
set_option maxRecDepth 100000
/-! MiRel: what the evaluator's values and store are in the layer's abstract heap. -/
namespace Mi
open PySem PySem.Spec PyProof.Rows L2

def kd : Key → PyData
  | .inl i => .int i
  | .inr x => .str x
def ktd (ks : List Key) : PyData := .tuple (ks.map kd)

/-- a list, a tuple of the written part -/
def WrL (K : PySem.W.Frag) (a : Addr) (xs : List V) : Prop := ∃ (o : Obj) (its : Array Value) (n : Nat), K.lookup a = some o ∧ o.cls = .type "list" ∧ o.dict = none ∧ o.data = .seq its n ∧ its.size ≤ sizeLine ∧ Vals xs its.toList
def WrT (K : PySem.W.Frag) (a : Addr) (xs : List V) : Prop := ∃ (o : Obj) (its : Array Value) (n : Nat), K.lookup a = some o ∧ o.cls = .type "tuple" ∧ o.dict = none ∧ o.data = .seq its n ∧ its.size ≤ sizeLine ∧ Vals xs its.toList
theorem WrT.sq {K : PySem.W.Frag} {a : Addr} {xs : List V} (h : WrT K a xs) (H : Hp) : SqT K H a xs := by
  obtain ⟨o, its, n, h1, h2, _, h3, h4, h5⟩ := h
  exact .inr ⟨o, its, n, h1, h2, h3, h4, h5⟩
/-- a tuple as it is laid: its object is known, it has no dict -/
def TupO (H : Hp) (a : Addr) (xs : List V) : Prop := ∃ o : Obj, o.dict = none ∧ H a = some (.frz o (.tup xs))
theorem TupO.sq {K : PySem.W.Frag} {H : Hp} {a : Addr} {xs : List V} (h : TupO H a xs) : SqT K H a xs := by
  obtain ⟨o, _, e⟩ := h
  exact .inl (.inr ⟨o, e⟩)
/-- a dict that is never changed any more: its object is known -/
def DicO (H : Hp) (a : Addr) (u : HO) : Prop := ∃ o : Obj, H a = some (.frz o u)

mutual
/-- u is the datum d; nothing in it stands at an address of B -/
inductive Rv (K : PySem.W.Frag) (H : Hp) (B : Addr → Prop) : V → PyData → Prop
  | non : Rv K H B .non .none
  | bl (b : Bool) : Rv K H B (.bl b) (.bool b)
  | int (i : Int) : Rv K H B (.int i) (.int i)
  | str (x : Str) : Rv K H B (.str x) (.str x)
  | lst {a : Addr} {xs : List V} {ds : List PyData} : H a = some (.lst xs) → ¬ B a → RvAll K H B xs ds → Rv K H B (.ref a) (.list ds)
  | tup {a : Addr} {xs : List V} {ds : List PyData} : TupO H a xs → ¬ B a → RvAll K H B xs ds → Rv K H B (.ref a) (.tuple ds)
  | wt {a : Addr} {xs : List V} {ds : List PyData} : WrT K a xs → RvAll K H B xs ds → Rv K H B (.ref a) (.tuple ds)
  | dK {a : Addr} {ks : List (Key × V)} {kvs : List (PyData × PyData)} : DicO H a (.dK ks) → ¬ B a → RvKv K H B ks kvs → Rv K H B (.ref a) (.dict kvs)
inductive RvAll (K : PySem.W.Frag) (H : Hp) (B : Addr → Prop) : List V → List PyData → Prop
  | nil : RvAll K H B [] []
  | cons {v : V} {vs : List V} {d : PyData} {ds : List PyData} : Rv K H B v d → RvAll K H B vs ds → RvAll K H B (v :: vs) (d :: ds)
inductive RvKv (K : PySem.W.Frag) (H : Hp) (B : Addr → Prop) : List (Key × V) → List (PyData × PyData) → Prop
  | nil : RvKv K H B [] []
  | cons {k : Key} {v : V} {ks : List (Key × V)} {d : PyData} {kvs : List (PyData × PyData)} : Rv K H B v d → RvKv K H B ks kvs → RvKv K H B ((k, v) :: ks) ((kd k, d) :: kvs)
end

/-- from one heap to another: what stood outside of B stands, and is outside of B' -/
structure Mv (H H' : Hp) (B B' : Addr → Prop) : Prop where
  keep : ∀ a o, H a = some o → ¬ B a → H' a = some o
  out : ∀ a o, H a = some o → ¬ B a → ¬ B' a
section
variable {K : PySem.W.Frag} {H H' : Hp} {B B' : Addr → Prop}
theorem TupO.mv {a : Addr} {xs : List V} (m : Mv H H' B B') (r : TupO H a xs) (n : ¬ B a) : TupO H' a xs ∧ ¬ B' a := by
  obtain ⟨o, h, e⟩ := r
  exact ⟨⟨o, h, m.keep _ _ e n⟩, m.out _ _ e n⟩
theorem DicO.mv {a : Addr} {u : HO} (m : Mv H H' B B') (r : DicO H a u) (n : ¬ B a) : DicO H' a u ∧ ¬ B' a := by
  obtain ⟨o, e⟩ := r
  exact ⟨⟨o, m.keep _ _ e n⟩, m.out _ _ e n⟩
mutual
theorem Rv.mv (m : Mv H H' B B') : ∀ {v : V} {d : PyData}, Rv K H B v d → Rv K H' B' v d
  | _, _, .non => .non
  | _, _, .bl b => .bl b
  | _, _, .int i => .int i
  | _, _, .str x => .str x
  | _, _, .lst r n h => .lst (m.keep _ _ r n) (m.out _ _ r n) (RvAll.mv m h)
  | _, _, .tup r n h => .tup (r.mv m n).1 (r.mv m n).2 (RvAll.mv m h)
  | _, _, .wt w h => .wt w (RvAll.mv m h)
  | _, _, .dK r n h => .dK (r.mv m n).1 (r.mv m n).2 (RvKv.mv m h)
theorem RvAll.mv (m : Mv H H' B B') : ∀ {vs : List V} {ds : List PyData}, RvAll K H B vs ds → RvAll K H' B' vs ds
  | _, _, .nil => .nil
  | _, _, .cons h t => .cons (Rv.mv m h) (RvAll.mv m t)
theorem RvKv.mv (m : Mv H H' B B') : ∀ {vs : List (Key × V)} {ds : List (PyData × PyData)}, RvKv K H B vs ds → RvKv K H' B' vs ds
  | _, _, .nil => .nil
  | _, _, .cons h t => .cons (Rv.mv m h) (RvKv.mv m t)
end
theorem RvAll.length : ∀ {vs : List V} {ds : List PyData}, RvAll K H B vs ds → vs.length = ds.length
  | _, _, .nil => rfl
  | _, _, .cons _ t => by rw [List.length_cons, List.length_cons, RvAll.length t]
theorem RvAll.get : ∀ {vs : List V} {ds : List PyData} {i : Nat} {d : PyData}, RvAll K H B vs ds → ds[i]? = some d → ∃ v, vs[i]? = some v ∧ Rv K H B v d
  | _, _, _, _, .nil, h => by simp at h
  | _, _, 0, _, .cons (v := v) r _, h => ⟨v, rfl, by have e := Option.some.inj h; rw [← e]; exact r⟩
  | _, _, i + 1, _, .cons _ t, h => RvAll.get (i := i) t h
theorem RvAll.getV : ∀ {vs : List V} {ds : List PyData} {i : Nat} {v : V}, RvAll K H B vs ds → vs[i]? = some v → ∃ d, ds[i]? = some d ∧ Rv K H B v d
  | _, _, _, _, .nil, h => by simp at h
  | _, _, 0, _, .cons (d := d) r _, h => ⟨d, rfl, by have e := Option.some.inj h; rw [← e]; exact r⟩
  | _, _, i + 1, _, .cons _ t, h => RvAll.getV (i := i) t h
theorem RvAll.append : ∀ {vs ws : List V} {ds es : List PyData}, RvAll K H B vs ds → RvAll K H B ws es → RvAll K H B (vs ++ ws) (ds ++ es)
  | _, _, _, _, .nil, h => h
  | _, _, _, _, .cons r t, h => .cons r (RvAll.append t h)
theorem RvAll.take : ∀ {vs : List V} {ds : List PyData} (n : Nat), RvAll K H B vs ds → RvAll K H B (vs.take n) (ds.take n)
  | _, _, 0, _ => by simp only [List.take_zero]; exact .nil
  | _, _, _ + 1, .nil => .nil
  | _, _, n + 1, .cons r t => .cons r (RvAll.take n t)
theorem RvAll.drop : ∀ {vs : List V} {ds : List PyData} (n : Nat), RvAll K H B vs ds → RvAll K H B (vs.drop n) (ds.drop n)
  | _, _, 0, h => h
  | _, _, _ + 1, .nil => .nil
  | _, _, n + 1, .cons _ t => RvAll.drop n t
theorem RvAll.set : ∀ {vs : List V} {ds : List PyData} (n : Nat) {v : V} {d : PyData}, RvAll K H B vs ds → Rv K H B v d → RvAll K H B (vs.set n v) (ds.set n d)
  | _, _, _, _, _, .nil, _ => .nil
  | _, _, 0, _, _, .cons _ t, r => .cons r t
  | _, _, n + 1, _, _, .cons q t, r => .cons q (RvAll.set n t r)
theorem RvAll.erase : ∀ {vs : List V} {ds : List PyData} (n : Nat), RvAll K H B vs ds → RvAll K H B (vs.eraseIdx n) (ds.eraseIdx n)
  | _, _, _, .nil => .nil
  | _, _, 0, .cons _ t => t
  | _, _, n + 1, .cons q t => .cons q (RvAll.erase n t)
end

/-! ### the store -/
def Cell.chg : Cell → Bool
  | .lst _ => true
  | .dic _ _ => true
  | .frz _ => false
/-- the addresses that may be changed -/
def Bm (μ : List Addr) (s : Sto) (a : Addr) : Prop := ∃ (n : Nat) (c : Cell), μ[n]? = some a ∧ s[n]? = some c ∧ Cell.chg c = true
/-- .. and those of lists in the making -/
def Bz (μ : List Addr) (s : Sto) (Z : List Addr) (a : Addr) : Prop := Bm μ s a ∨ a ∈ Z
def CellOk (K : PySem.W.Frag) (H : Hp) (B : Addr → Prop) (a : Addr) : Cell → Prop
  | .lst ds => ∃ vs, H a = some (.lst vs) ∧ RvAll K H B vs ds
  | .dic false kvs => ∃ ks, H a = some (.dK ks) ∧ RvKv K H B ks kvs
  | .dic true _ => False
  | .frz d => Rv K H B (.ref a) d ∧ (∃ o, H a = some o) ∧ ¬ B a
structure StOk (K : PySem.W.Frag) (Z μ : List Addr) (s : Sto) (H : Hp) : Prop where
  len : μ.length = s.length
  nd : μ.Nodup
  off : ∀ a ∈ Z, ¬ Bm μ s a
  zin : ∀ a ∈ Z, ∃ o, H a = some o
  cell : ∀ (n : Nat) (a : Addr) (c : Cell), μ[n]? = some a → s[n]? = some c → CellOk K H (Bz μ s Z) a c
/-- a step: the cells' addresses stay, the rest stands, new ones are new -/
structure Nx (μ : List Addr) (s : Sto) (H : Hp) (μ' : List Addr) (s' : Sto) (H' : Hp) : Prop where
  pre : μ <+: μ'
  ext : ∀ a o, H a = some o → ¬ Bm μ s a → H' a = some o
  bm : ∀ a, Bm μ' s' a → Bm μ s a ∨ H a = none
  dom : ∀ a, H a ≠ none → H' a ≠ none
theorem Nx.refl (μ : List Addr) (s : Sto) (H : Hp) : Nx μ s H μ s H := ⟨List.prefix_refl _, fun _ _ h _ => h, fun _ h => .inl h, fun _ h => h⟩
theorem Nx.trans {μ μ1 μ2 : List Addr} {s s1 s2 : Sto} {H H1 H2 : Hp} (a : Nx μ s H μ1 s1 H1) (b : Nx μ1 s1 H1 μ2 s2 H2) : Nx μ s H μ2 s2 H2 := by
  have key : ∀ x o, H x = some o → ¬ Bm μ s x → ¬ Bm μ1 s1 x := fun x o h n z => by
    rcases a.bm x z with q | q
    · exact n q
    · rw [h] at q; cases q
  refine ⟨a.pre.trans b.pre, fun x o h n => b.ext x o (a.ext x o h n) (key x o h n), fun x z => ?_, fun x h => b.dom x (a.dom x h)⟩
  rcases b.bm x z with q | q
  · exact a.bm x q
  · refine .inr ?_
    cases e : H x with
    | none => rfl
    | some o => exact absurd q (a.dom x (by rw [e]; exact fun z => nomatch z))
theorem Nx.mv {μ μ' : List Addr} {s s' : Sto} {H H' : Hp} (Z : List Addr) (a : Nx μ s H μ' s' H') : Mv H H' (Bz μ s Z) (Bz μ' s' Z) := by
  refine ⟨fun x o h n => a.ext x o h fun q => n (.inl q), fun x o h n z => ?_⟩
  rcases z with z | z
  · rcases a.bm x z with q | q
    · exact n (.inl q)
    · rw [h] at q; cases q
  · exact n (.inr z)
theorem Nx.rv {K : PySem.W.Frag} {μ μ' : List Addr} {s s' : Sto} {H H' : Hp} {Z : List Addr} {u : V} {d : PyData} (a : Nx μ s H μ' s' H') (h : Rv K H (Bz μ s Z) u d) : Rv K H' (Bz μ' s' Z) u d := h.mv (a.mv Z)

def XvOk (K : PySem.W.Frag) (Z μ : List Addr) (s : Sto) (H : Hp) (u : V) : Xv → Prop
  | .v d => Rv K H (Bz μ s Z) u d
  | .c n => ∃ a, μ[n]? = some a ∧ u = .ref a
  | .w ns => ∃ a, u = .ref a ∧ ((Rd H a (.lst (ns.map V.int)) ∧ ¬ Bz μ s Z a) ∨ WrL K a (ns.map V.int))
theorem pre_get {μ μ' : List Addr} (h : μ <+: μ') {n : Nat} {a : Addr} (e : μ[n]? = some a) : μ'[n]? = some a := by
  obtain ⟨t, rfl⟩ := h
  rw [List.getElem?_append_left (List.getElem?_eq_some_iff.mp e).1]
  exact e
theorem XvOk.nx {K : PySem.W.Frag} {Z μ μ' : List Addr} {s s' : Sto} {H H' : Hp} {u : V} {x : Xv} (a : Nx μ s H μ' s' H') (h : XvOk K Z μ s H u x) : XvOk K Z μ' s' H' u x := by
  cases x with
  | v d => exact a.rv h
  | c n => obtain ⟨b, e, r⟩ := h; exact ⟨b, pre_get a.pre e, r⟩
  | w ns =>
    obtain ⟨b, e, r⟩ := h
    refine ⟨b, e, ?_⟩
    rcases r with ⟨r, n⟩ | r
    · have m := a.mv Z
      rcases r with r | ⟨o, r⟩
      · exact .inl ⟨.inl (m.keep _ _ r n), m.out _ _ r n⟩
      · exact .inl ⟨.inr ⟨o, m.keep _ _ r n⟩, m.out _ _ r n⟩
    · exact .inr r
inductive XvsOk (K : PySem.W.Frag) (Z μ : List Addr) (s : Sto) (H : Hp) : List V → List Xv → Prop
  | nil : XvsOk K Z μ s H [] []
  | cons {u : V} {us : List V} {x : Xv} {xs : List Xv} : XvOk K Z μ s H u x → XvsOk K Z μ s H us xs → XvsOk K Z μ s H (u :: us) (x :: xs)
theorem XvsOk.nx {K : PySem.W.Frag} {Z μ μ' : List Addr} {s s' : Sto} {H H' : Hp} (a : Nx μ s H μ' s' H') : ∀ {us : List V} {xs : List Xv}, XvsOk K Z μ s H us xs → XvsOk K Z μ' s' H' us xs
  | _, _, .nil => .nil
  | _, _, .cons h t => .cons (h.nx a) (t.nx a)
theorem XvsOk.length {K : PySem.W.Frag} {Z μ : List Addr} {s : Sto} {H : Hp} : ∀ {us : List V} {xs : List Xv}, XvsOk K Z μ s H us xs → us.length = xs.length
  | _, _, .nil => rfl
  | _, _, .cons _ t => by rw [List.length_cons, List.length_cons, XvsOk.length t]
/-- the slots -/
structure RhoOk (K : PySem.W.Frag) (Z μ : List Addr) (s : Sto) (H : Hp) (ρ : Rho) (σ : L2.St) : Prop where
  len : ρ.length = σ.length
  at_ : ∀ (i : Nat) (x : Xv), ρ[i]? = some (some x) → ∃ u, σ[i]? = some (some u) ∧ XvOk K Z μ s H u x
theorem RhoOk.nx {K : PySem.W.Frag} {Z μ μ' : List Addr} {s s' : Sto} {H H' : Hp} {ρ : Rho} {σ : L2.St} (a : Nx μ s H μ' s' H') (h : RhoOk K Z μ s H ρ σ) : RhoOk K Z μ' s' H' ρ σ :=
  ⟨h.len, fun i x e => let ⟨u, e1, r⟩ := h.at_ i x e; ⟨u, e1, r.nx a⟩⟩
theorem RhoOk.set {K : PySem.W.Frag} {Z μ : List Addr} {s : Sto} {H : Hp} {ρ : Rho} {σ : L2.St} (h : RhoOk K Z μ s H ρ σ) (i : Nat) {u : V} {x : Xv} (r : XvOk K Z μ s H u x) : RhoOk K Z μ s H (ρ.set i (some x)) (σ.set i (some u)) := by
  refine ⟨by rw [List.length_set, List.length_set]; exact h.len, fun j y e => ?_⟩
  by_cases hj : i = j
  · subst hj
    have hi : i < ρ.length := by
      have := (List.getElem?_eq_some_iff.mp e).1
      rwa [List.length_set] at this
    rw [List.getElem?_set_self hi] at e
    have e' := Option.some.inj (Option.some.inj e)
    subst e'
    exact ⟨u, by rw [List.getElem?_set_self (by rw [← h.len]; exact hi)], r⟩
  · rw [List.getElem?_set_ne hj] at e
    obtain ⟨w, e1, r1⟩ := h.at_ j y e
    exact ⟨w, by rw [List.getElem?_set_ne hj]; exact e1, r1⟩
theorem RhoOk.unset {K : PySem.W.Frag} {Z μ : List Addr} {s : Sto} {H : Hp} {ρ : Rho} {σ : L2.St} (h : RhoOk K Z μ s H ρ σ) (i : Nat) : RhoOk K Z μ s H (ρ.set i none) (σ.set i none) := by
  refine ⟨by rw [List.length_set, List.length_set]; exact h.len, fun j y e => ?_⟩
  by_cases hj : i = j
  · subst hj
    have hi : i < ρ.length := by
      have := (List.getElem?_eq_some_iff.mp e).1
      rwa [List.length_set] at this
    rw [List.getElem?_set_self hi] at e
    cases e
  · rw [List.getElem?_set_ne hj] at e
    obtain ⟨w, e1, r1⟩ := h.at_ j y e
    exact ⟨w, by rw [List.getElem?_set_ne hj]; exact e1, r1⟩
end Mi
end

section
set_option maxRecDepth 100000
/-! MiTupN: new tuples, with their object known. -/
namespace Mi
open PySem PySem.Spec PyProof.Rows L2
/-- wanted of a new tuple -/
def NewT (H : Hp) (xs : List V) (Q : VK) : Prop := ∀ (p : Addr) (o : Obj), o.dict = none → H p = none → Q (.ref p) (upd H p (.frz o (.tup xs)))
section
variable {X : Cx}
theorem _root_.L2.Inv.laidT {pins : List (Addr × Obj)} {σ : L2.St} {H : Hp} {s : Shared} {xs : List V} {its : List Value} (I : Inv X pins σ H s) (hz : xs.length ≤ sizeLine) (r : Vals xs its) :
    Inv X pins σ (upd H s.heap.objs.size (.frz { cls := .type "tuple", data := .seq its.toArray } (.tup xs))) { s with heap := s.heap.push { cls := .type "tuple", data := .seq its.toArray } } :=
  I.laid (t' := s.toks) (o := .frz { cls := .type "tuple", data := .seq its.toArray } (.tup xs)) (fun b u e => Heap.get?_push_of_some _ e) (Nat.le_refl _) ⟨Heap.get?_push_size _ rfl, hz, its, r, ⟨_, Heap.get?_push_size _ rfl, rfl, _, rfl⟩⟩
def tTupN (t : TA) : TE := fun σ H Q => t σ H fun xs H1 => xs.length ≤ sizeLine ∧ NewT H1 xs Q
theorem pe_tupN {es : List Expr} {t : TA} {pos : Pos} {x1} (h : PA X es t) : PE X (.Tuple es x1 pos) (tTupN t) := by
  refine ⟨fun pins s σ H Q I hq => ?_⟩
  refine wpAny_Tuple_spliced (thn (h.run pos pins s σ H _ I hq) fun us s1 ⟨xs, H1, I1, r, z, q⟩ => ⟨by rw [← r.length]; exact z, ?_⟩)
  exact ⟨.ref s1.heap.objs.size, _, I1.laidT z r, rfl, q _ _ rfl (I1.hok.fresh (Nat.le_refl _))⟩
theorem call_tuple_ofN : CallR X (.type "tuple") (fun xs H Q => ∃ p ys, xs = [.ref p] ∧ ((SqL X.K H p ys ∧ NewT H ys Q) ∨ (SqT X.K H p ys ∧ Q (.ref p) H))) := by
  intro pins s σ H xs us Q I r h
  obtain ⟨p, ys, rfl, h⟩ := h
  obtain ⟨u, rfl, rx⟩ := vals1 r
  cases rx
  rcases h with ⟨hq, q⟩ | ⟨hq, q⟩
  · obtain ⟨its, r', pl, hz⟩ := I.list hq
    have hlen := r'.length
    refine call_tuple_list pl.isList (fun h' kp => ?_) (by simp only [List.size_toArray] <;> omega)
    have I1 : Inv X pins σ H { s with heap := h' } := I.kept (t' := s.toks) kp
    exact ⟨.ref h'.objs.size, _, I1.laidT hz r', rfl, q _ _ rfl (I1.hok.fresh (Nat.le_refl _))⟩
  · obtain ⟨its, r', pl, hz⟩ := I.tuple hq
    exact call_tuple_same pl ⟨.ref p, H, I, rfl, q⟩
def rCatTN (K : PySem.W.Frag) : R2 := fun x y H Q => ∃ a b xs ys, x = .ref a ∧ y = .ref b ∧ SqT K H a xs ∧ SqT K H b ys ∧ xs ≠ [] ∧ xs.length + ys.length ≤ sizeLine ∧
  (ys = [] → Q (.ref a) H) ∧ (ys ≠ [] → NewT H (xs ++ ys) Q)
theorem op_catTN : OpR X (binaryOp .Add) (rCatTN X.K) := by
  intro pins s σ H x y v u Q I rx ry h
  obtain ⟨a, b, xs, ys, rfl, rfl, ha, hb, hx, hz, q1, q2⟩ := h
  cases rx
  cases ry
  obtain ⟨its, r1, p1, _⟩ := I.tuple ha
  obtain ⟨its2, r2, p2, _⟩ := I.tuple hb
  refine HT.cat_tup p1 p2 (fun z => hx (r1.nil_iff.mp z)) (fun z => ⟨.ref a, H, I, rfl, q1 (r2.nil_iff.mp z)⟩) (fun z => ?_) (by rw [← r1.length, ← r2.length]; exact hz)
  exact ⟨.ref s.heap.objs.size, _, I.laidT (by rw [List.length_append]; exact hz) (r1.append r2), rfl, q2 (fun w => z (r2.nil_iff.mpr w)) _ _ rfl (I.hok.fresh (Nat.le_refl _))⟩
def rCatAN (K : PySem.W.Frag) : R2 := fun x y H Q => ∃ a b xs ys, x = .ref a ∧ y = .ref b ∧ SqT K H a xs ∧ SqT K H b ys ∧ xs.length + ys.length ≤ sizeLine ∧
  (xs = [] → Q (.ref b) H) ∧ (xs ≠ [] → ys = [] → Q (.ref a) H) ∧ (xs ≠ [] → ys ≠ [] → NewT H (xs ++ ys) Q)
theorem op_catAN : OpR X (binaryOp .Add) (rCatAN X.K) := by
  intro pins s σ H x y v u Q I rx ry h
  obtain ⟨a, b, xs, ys, rfl, rfl, ha, hb, hz, q0, q1, q2⟩ := h
  by_cases hx : xs = []
  · subst hx
    cases rx
    cases ry
    obtain ⟨its, r1, p1, _⟩ := I.tuple ha
    obtain ⟨its2, r2, p2, _⟩ := I.tuple hb
    cases r1
    exact cat_tup0 p1 p2 ⟨.ref b, H, I, rfl, q0 rfl⟩
  · exact op_catTN pins s σ H _ _ v u Q I rx ry ⟨a, b, xs, ys, rfl, rfl, ha, hb, hx, hz, q1 hx, q2 hx⟩
def rSlAN (K : PySem.W.Frag) : V → Option Int → Option Int → Hp → VK → Prop := fun x lo hi H Q => ∃ a xs, x = .ref a ∧ SqT K H a xs ∧
  (HT.sIx xs.length 0 lo = 0 ∧ HT.sIx xs.length xs.length hi = xs.length → Q (.ref a) H) ∧ (¬ (HT.sIx xs.length 0 lo = 0 ∧ HT.sIx xs.length xs.length hi = xs.length) → NewT H (cutV xs lo hi) Q)
theorem sl_tupAN : SlR X (rSlAN X.K) := by
  intro pins s σ H x v vl vu lo hi sl Q I rx hs pl pu h
  obtain ⟨a, xs, rfl, hx, q1, q2⟩ := h
  cases rx
  obtain ⟨its, r, ht, hz⟩ := I.tuple hx
  have hlen : its.toArray.size = xs.length := by rw [List.size_toArray]; exact r.length.symm
  refine ⟨"tuple", _, PyProof.Rows.slot_tuple_getitem.lookup, ht.typeIs, ?_⟩
  by_cases hw : HT.sIx xs.length 0 lo = 0 ∧ HT.sIx xs.length xs.length hi = xs.length
  · exact getItem_tuple_whole ht hs pl pu (by rw [hlen]; exact hw) ⟨.ref a, H, I, rfl, q1 hw⟩
  · refine HT.getItem_tuple_cut ht hs pl pu (by rw [hlen]; exact hw) ?_ (by rw [hlen]; exact hz)
    rw [hlen]
    exact ⟨.ref s.heap.objs.size, _, I.laidT (Nat.le_trans (cutV_length xs lo hi) hz) ((r.drop (HT.sIx xs.length 0 lo)).take (HT.sIx xs.length xs.length hi - HT.sIx xs.length 0 lo)), rfl, q2 hw _ _ rfl (I.hok.fresh (Nat.le_refl _))⟩
end
end Mi
end

section
set_option maxRecDepth 100000
/-! MiVal: the evaluator's operations by values, over the layer. -/
namespace Mi
open PySem PySem.Spec PyProof.Rows L2

/-- the written part, the error classes (where each stands, its one field) -/
structure Tb where
  K : PySem.W.Frag
  xc : Str → Option (Addr × Option Str)
def ExOk (T : Tb) (Z μ : List Addr) (s : Sto) (H : Hp) (c : Str) (as : List PyData) (cls : Value) (d : Option Addr) : Prop :=
  ∃ C fo, T.xc c = some (C, fo) ∧ cls = .ref C ∧ ((fo = none ∧ as = [] ∧ d = none) ∨ ∃ f a dx v, fo = some f ∧ as = [a] ∧ d = some dx ∧ H dx = some (.xd [(f, v)]) ∧ Rv T.K H (Bz μ s Z) v a)
/-- an answer of the evaluator, and what is wanted behind it -/
def Po {α β : Type} (T : Tb) (W : WX) (σ : L2.St) (Z μ : List Addr) (s : Sto) (H : Hp) (r : R α) (Ok : List Addr → Sto → Hp → β → α → Prop) (Q : β → Hp → Prop) : Prop :=
  match r with
  | .ok a s' => ∀ μ' H' b, Nx μ s H μ' s' H' → StOk T.K Z μ' s' H' → Ok μ' s' H' b a → Q b H'
  | .exc c as s' => ∀ μ' H' cls d, Nx μ s H μ' s' H' → StOk T.K Z μ' s' H' → ExOk T Z μ' s' H' c as cls d → W cls d σ H'
  | .err => False
abbrev XOk (T : Tb) (Z : List Addr) : List Addr → Sto → Hp → V → Xv → Prop := fun μ s H u x => XvOk T.K Z μ s H u x
section
variable {T : Tb} {W : WX} {σ : L2.St} {Z μ : List Addr} {s : Sto} {H : Hp}
theorem Po.bind {α β α' β' : Type} {r : R α} {f : α → Sto → R β} {Ok : List Addr → Sto → Hp → β' → β → Prop} {Ok1 : List Addr → Sto → Hp → α' → α → Prop} {Q : β' → Hp → Prop} {P : α' → Hp → Prop}
    (h : Po T W σ Z μ s H (r.bind f) Ok Q)
    (k : ∀ a s1 μ1 H1 b, r = .ok a s1 → Nx μ s H μ1 s1 H1 → StOk T.K Z μ1 s1 H1 → Ok1 μ1 s1 H1 b a → Po T W σ Z μ1 s1 H1 (f a s1) Ok Q → P b H1) : Po T W σ Z μ s H r Ok1 P := by
  cases r with
  | ok a s1 =>
    intro μ1 H1 b nx st ok
    refine k a s1 μ1 H1 b rfl nx st ok ?_
    have h' : Po T W σ Z μ s H (f a s1) Ok Q := h
    cases e : f a s1 with
    | ok c s2 => rw [e] at h'; exact fun μ2 H2 d nx2 st2 ok2 => h' μ2 H2 d (nx.trans nx2) st2 ok2
    | exc c as s2 => rw [e] at h'; exact fun μ2 H2 cls d nx2 st2 ok2 => h' μ2 H2 cls d (nx.trans nx2) st2 ok2
    | err => rw [e] at h'; exact h'
  | exc c as s1 => exact h
  | err => exact h
/-- .. from a later state -/
theorem Po.nx {α β : Type} {μ1 : List Addr} {s1 : Sto} {H1 : Hp} {r : R α} {Ok : List Addr → Sto → Hp → β → α → Prop} {Q : β → Hp → Prop} (h : Po T W σ Z μ s H r Ok Q) (nx : Nx μ s H μ1 s1 H1) : Po T W σ Z μ1 s1 H1 r Ok Q := by
  cases r with
  | ok c s2 => exact fun μ2 H2 d nx2 st2 ok2 => h μ2 H2 d (nx.trans nx2) st2 ok2
  | exc c as s2 => exact fun μ2 H2 cls d nx2 st2 ok2 => h μ2 H2 cls d (nx.trans nx2) st2 ok2
  | err => exact h
end

/-! ### new objects -/
section
variable {K : PySem.W.Frag} {Z μ : List Addr} {s : Sto} {H : Hp} {p : Addr} {o : HO}
theorem StOk.bmSome (st : StOk K Z μ s H) {a : Addr} (h : Bm μ s a) : ∃ o, H a = some o := by
  obtain ⟨n, c, e1, e2, e3⟩ := h
  have q := st.cell n a c e1 e2
  cases c with
  | lst xs => obtain ⟨vs, e, _⟩ := q; exact ⟨_, e⟩
  | dic t kvs =>
    cases t with
    | false => obtain ⟨ks, e, _⟩ := q; exact ⟨_, e⟩
    | true => exact absurd q fun z => z
  | frz d => cases e3
theorem StOk.bzNew (st : StOk K Z μ s H) (hp : H p = none) : ¬ Bz μ s Z p := fun z => by
  rcases z with z | z
  · obtain ⟨o, e⟩ := st.bmSome z; rw [hp] at e; cases e
  · obtain ⟨o, e⟩ := st.zin p z; rw [hp] at e; cases e
theorem Mv.new {B : Addr → Prop} (hp : H p = none) : Mv H (upd H p o) B B :=
  ⟨fun a u e n => by rw [upd_ne (ne_of_none e hp)]; exact e, fun a u e n => n⟩
theorem Nx.new (hp : H p = none) : Nx μ s H μ s (upd H p o) :=
  ⟨List.prefix_refl _, fun a u e _ => by rw [upd_ne (ne_of_none e hp)]; exact e, fun _ h => .inl h, fun a h => by
    by_cases e : a = p
    · subst e; exact absurd hp h
    · rw [upd_ne e]; exact h⟩
theorem CellOk.mv {H' : Hp} {B B' : Addr → Prop} {a : Addr} {c : Cell} (m : Mv H H' B B') (hk : Cell.chg c = true → ∀ o, H a = some o → H' a = some o) (h : CellOk K H B a c) : CellOk K H' B' a c := by
  cases c with
  | lst xs => obtain ⟨vs, e, r⟩ := h; exact ⟨vs, hk rfl _ e, r.mv m⟩
  | dic t kvs =>
    cases t with
    | false => obtain ⟨ks, e, r⟩ := h; exact ⟨ks, hk rfl _ e, r.mv m⟩
    | true => exact h
  | frz d =>
    obtain ⟨r, ⟨o, e⟩, n⟩ := h
    exact ⟨r.mv m, ⟨o, m.keep _ _ e n⟩, m.out _ _ e n⟩
theorem StOk.new (st : StOk K Z μ s H) (hp : H p = none) : StOk K Z μ s (upd H p o) :=
  ⟨st.len, st.nd, st.off, fun a ha => by
    obtain ⟨u, e⟩ := st.zin a ha
    exact ⟨u, by rw [upd_ne (ne_of_none e hp)]; exact e⟩, fun n a c e1 e2 => (st.cell n a c e1 e2).mv (Mv.new hp) fun _ u e => by rw [upd_ne (ne_of_none e hp)]; exact e⟩
theorem Rv.newT {vs : List V} {ds : List PyData} {ob : Obj} (ho : ob.dict = none) (st : StOk K Z μ s H) (hp : H p = none) (h : RvAll K H (Bz μ s Z) vs ds) : Rv K (upd H p (.frz ob (.tup vs))) (Bz μ s Z) (.ref p) (.tuple ds) :=
  .tup ⟨ob, ho, upd_same⟩ (st.bzNew hp) (h.mv (Mv.new hp))
theorem Rv.newL {vs : List V} {ds : List PyData} (st : StOk K Z μ s H) (hp : H p = none) (h : RvAll K H (Bz μ s Z) vs ds) : Rv K (upd H p (.lst vs)) (Bz μ s Z) (.ref p) (.list ds) :=
  .lst upd_same (st.bzNew hp) (h.mv (Mv.new hp))
end

section
variable {K : PySem.W.Frag} {Z μ : List Addr} {s : Sto} {H : Hp} {p : Addr} {o : HO}
theorem Mv.newZ (hp : H p = none) : Mv H (upd H p o) (Bz μ s Z) (Bz μ s (p :: Z)) :=
  ⟨fun a u e n => by rw [upd_ne (ne_of_none e hp)]; exact e, fun a u e n z => by
    rcases z with z | z
    · exact n (.inl z)
    · rcases List.mem_cons.mp z with z | z
      · exact ne_of_none e hp z
      · exact n (.inr z)⟩
theorem StOk.newZ (st : StOk K Z μ s H) (hp : H p = none) : StOk K (p :: Z) μ s (upd H p o) :=
  ⟨st.len, st.nd, fun a ha => by
    rcases List.mem_cons.mp ha with rfl | ha
    · exact fun z => st.bzNew hp (.inl z)
    · exact st.off a ha, fun a ha => by
    rcases List.mem_cons.mp ha with rfl | ha
    · exact ⟨o, upd_same⟩
    · obtain ⟨u, e⟩ := st.zin a ha
      exact ⟨u, by rw [upd_ne (ne_of_none e hp)]; exact e⟩, fun n a c e1 e2 => (st.cell n a c e1 e2).mv (Mv.newZ hp) fun _ u e => by rw [upd_ne (ne_of_none e hp)]; exact e⟩
theorem Mv.unZ {H : Hp} : Mv H H (Bz μ s (p :: Z)) (Bz μ s Z) :=
  ⟨fun _ _ e _ => e, fun a u e n z => n (by
    rcases z with z | z
    · exact .inl z
    · exact .inr (List.mem_cons_of_mem _ z))⟩
theorem StOk.unZ (st : StOk K (p :: Z) μ s H) : StOk K Z μ s H :=
  ⟨st.len, st.nd, fun a ha => st.off a (List.mem_cons_of_mem _ ha), fun a ha => st.zin a (List.mem_cons_of_mem _ ha), fun n a c e1 e2 => (st.cell n a c e1 e2).mv Mv.unZ fun _ _ e => e⟩
end
/-- as Po; a list is a new one, known to nobody -/
def Pf (T : Tb) (W : WX) (σ : L2.St) (Z μ : List Addr) (s : Sto) (H : Hp) (r : R Xv) (Q : VK) : Prop :=
  match r with
  | .ok (.v (.list ds)) s' => ∀ μ' H' p vs, Nx μ s H μ' s' H' → StOk T.K (p :: Z) μ' s' H' → H p = none → H' p = some (.lst vs) → RvAll T.K H' (Bz μ' s' (p :: Z)) vs ds → Q (.ref p) H'
  | r => Po T W σ Z μ s H r (XOk T Z) Q
section
variable {T : Tb} {W : WX} {σ : L2.St} {Z μ : List Addr} {s : Sto} {H : Hp} {Q : VK}
/-- what is enough for anything is enough for a new one -/
theorem Po.pf {r : R Xv} (st : StOk T.K Z μ s H) (h : Po T W σ Z μ s H r (XOk T Z) Q) : Pf T W σ Z μ s H r Q := by
  unfold Pf
  split
  · intro μ' H' p vs nx st' hp e rv
    refine h μ' H' _ nx st'.unZ (.lst e (fun z => ?_) (rv.mv Mv.unZ))
    rcases z with z | z
    · exact st'.off p (List.mem_cons_self ..) z
    · obtain ⟨o, q⟩ := st.zin p z
      rw [hp] at q
      cases q
  · exact h
theorem Pf.lstN {ds : List PyData} {vs : List V} (h : Pf T W σ Z μ s H (.ok (.v (.list ds)) s) Q) (st : StOk T.K Z μ s H) (r : RvAll T.K H (Bz μ s Z) vs ds) : ∀ p, H p = none → Q (.ref p) (upd H p (.lst vs)) :=
  fun p hp => h μ _ p vs (Nx.new hp) (st.newZ hp) hp upd_same (r.mv (Mv.newZ hp))
end
/-! ### what is read -/
/-- readable as d -/
def Rq (K : PySem.W.Frag) (H : Hp) (B : Addr → Prop) (u : V) : PyData → Prop
  | .none => u = .non
  | .bool b => u = .bl b
  | .int i => u = .int i
  | .str x => u = .str x
  | .list ds => ∃ a vs, u = .ref a ∧ H a = some (.lst vs) ∧ RvAll K H B vs ds
  | .tuple ds => ∃ a vs, u = .ref a ∧ SqT K H a vs ∧ RvAll K H B vs ds
  | .dict kvs => Rv K H B u (.dict kvs)
theorem Rv.rq {K : PySem.W.Frag} {H : Hp} {B : Addr → Prop} {u : V} {d : PyData} (h : Rv K H B u d) : Rq K H B u d := by
  cases h with
  | non => rfl
  | bl b => rfl
  | int i => rfl
  | str x => rfl
  | lst e n r => exact ⟨_, _, rfl, e, r⟩
  | tup e n r => exact ⟨_, _, rfl, e.sq, r⟩
  | wt e r => exact ⟨_, _, rfl, e.sq _, r⟩
  | dK e n r => exact .dK e n r
theorem rd_rq {K : PySem.W.Frag} {Z μ : List Addr} {s : Sto} {H : Hp} {u : V} {x : Xv} {d : PyData} (st : StOk K Z μ s H) (h : XvOk K Z μ s H u x) (e : rd s x = some d) : Rq K H (Bz μ s Z) u d := by
  cases x with
  | v d' =>
    have e' := Option.some.inj e
    subst e'
    exact Rv.rq h
  | c n =>
    obtain ⟨a, e1, rfl⟩ := h
    simp only [rd] at e
    cases q : s[n]? with
    | none => rw [q] at e; cases e
    | some c =>
      have hc := st.cell n a c e1 q
      rw [q] at e
      cases c with
      | lst xs =>
        have e' := Option.some.inj e
        subst e'
        obtain ⟨vs, e2, r⟩ := hc
        exact ⟨_, _, rfl, e2, r⟩
      | dic t kvs => cases e
      | frz d' =>
        have e' := Option.some.inj e
        subst e'
        exact Rv.rq hc.1
  | w ns => cases e
/-- a tuple is never changed -/
theorem rd_tup {K : PySem.W.Frag} {Z μ : List Addr} {s : Sto} {H : Hp} {u : V} {x : Xv} {ds : List PyData} (st : StOk K Z μ s H) (h : XvOk K Z μ s H u x) (e : rd s x = some (.tuple ds)) : Rv K H (Bz μ s Z) u (.tuple ds) := by
  cases x with
  | v d' =>
    have e' := Option.some.inj e
    subst e'
    exact h
  | c n =>
    obtain ⟨a, e1, rfl⟩ := h
    simp only [rd] at e
    cases q : s[n]? with
    | none => rw [q] at e; cases e
    | some c =>
      have hc := st.cell n a c e1 q
      rw [q] at e
      cases c with
      | lst xs => cases Option.some.inj e
      | dic t kvs => cases e
      | frz d' =>
        have e' := Option.some.inj e
        subst e'
        exact hc.1
  | w ns => cases e
mutual
theorem Rv.dp {K : PySem.W.Frag} {H : Hp} {B : Addr → Prop} : ∀ {u : V} {d : PyData}, Rv K H B u d → d.canLay0 = true → Dp K H u d
  | _, _, .non, _ => .non
  | _, _, .bl b, _ => .bl b
  | _, _, .int i, _ => .int i
  | _, _, .str x, _ => .str x
  | _, _, .lst e n r, h => .lst (.inl (.inl e)) (RvAll.dp r (by simpa only [PyData.canLay0] using h))
  | _, _, .tup e n r, h => .tup e.sq (RvAll.dp r (by simpa only [PyData.canLay0] using h))
  | _, _, .wt e r, h => .tup (e.sq _) (RvAll.dp r (by simpa only [PyData.canLay0] using h))
  | _, _, .dK _ _ _, h => by simp [PyData.canLay0] at h
theorem RvAll.dp {K : PySem.W.Frag} {H : Hp} {B : Addr → Prop} : ∀ {us : List V} {ds : List PyData}, RvAll K H B us ds → PyData.canLayAll0 ds = true → DpAll K H us ds
  | _, _, .nil, _ => .nil
  | _, _, .cons h t, e => by
    simp only [PyData.canLayAll0, Bool.and_eq_true] at e
    exact .cons (Rv.dp h e.1) (RvAll.dp t e.2)
end
theorem Rq.dp {K : PySem.W.Frag} {H : Hp} {B : Addr → Prop} {u : V} {d : PyData} (h : Rq K H B u d) (e : d.canLay0 = true) : Dp K H u d := by
  cases d with
  | none => cases h; exact .non
  | bool b => cases h; exact .bl b
  | int i => cases h; exact .int i
  | str x => cases h; exact .str x
  | list ds => obtain ⟨a, vs, rfl, e1, r⟩ := h; exact .lst (.inl (.inl e1)) (r.dp (by simpa only [PyData.canLay0] using e))
  | tuple ds => obtain ⟨a, vs, rfl, e1, r⟩ := h; exact .tup e1 (r.dp (by simpa only [PyData.canLay0] using e))
  | dict kvs => simp [PyData.canLay0] at e
theorem okD_lay {d : PyData} (h : okD d = true) : d.canLay0 = true := SeqAt.canLay_of_shaped h

/-! ### readings by values -/
def r1X (T : Tb) (W : WX) (f : Xv → Sto → R Xv) : V → Hp → VK → Prop := fun u H Q => ∃ σ Z μ s x, StOk T.K Z μ s H ∧ XvOk T.K Z μ s H u x ∧ Po T W σ Z μ s H (f x s) (XOk T Z) Q
def r2X (T : Tb) (W : WX) (f : Xv → Xv → Sto → R Xv) : R2 := fun u w H Q => ∃ σ Z μ s x y, StOk T.K Z μ s H ∧ XvOk T.K Z μ s H u x ∧ XvOk T.K Z μ s H w y ∧ Po T W σ Z μ s H (f x y s) (XOk T Z) Q
def r2F (T : Tb) (W : WX) (f : Xv → Xv → Sto → R Xv) : R2 := fun u w H Q => ∃ σ Z μ s x y, StOk T.K Z μ s H ∧ XvOk T.K Z μ s H u x ∧ XvOk T.K Z μ s H w y ∧ Pf T W σ Z μ s H (f x y s) Q
def rnX (T : Tb) (W : WX) (f : List Xv → Sto → R Xv) : List V → Hp → VK → Prop := fun us H Q => ∃ σ Z μ s xs, StOk T.K Z μ s H ∧ XvsOk T.K Z μ s H us xs ∧ Po T W σ Z μ s H (f xs s) (XOk T Z) Q

section
variable {T : Tb} {W : WX} {X : Cx} {σ : L2.St} {Z μ : List Addr} {s : Sto} {H : Hp} {Q : VK}
theorem Po.here {z : PyData} {u : V} (h : Po T W σ Z μ s H (.ok (.v z) s) (XOk T Z) Q) (st : StOk T.K Z μ s H) (r : Rv T.K H (Bz μ s Z) u z) : Q u H :=
  h μ H u (Nx.refl _ _ _) st r
theorem Po.tupN {ds : List PyData} {vs : List V} (h : Po T W σ Z μ s H (.ok (.v (.tuple ds)) s) (XOk T Z) Q) (st : StOk T.K Z μ s H) (r : RvAll T.K H (Bz μ s Z) vs ds) : NewT H vs Q :=
  fun p o ho hp => h μ _ _ (Nx.new hp) (st.new hp) (Rv.newT ho st hp r)
theorem Po.lstN {ds : List PyData} {vs : List V} (h : Po T W σ Z μ s H (.ok (.v (.list ds)) s) (XOk T Z) Q) (st : StOk T.K Z μ s H) (r : RvAll T.K H (Bz μ s Z) vs ds) : ∀ p, H p = none → Q (.ref p) (upd H p (.lst vs)) :=
  fun p hp => h μ _ _ (Nx.new hp) (st.new hp) (Rv.newL st hp r)
end

section
variable {T : Tb} {W : WX} {X : Cx}
theorem szOk_le {n : Nat} (h : szOk n = true) : n ≤ sizeLine := by
  have e := sizeLine_eq
  have q : n ≤ 16777216 := of_decide_eq_true h
  omega
theorem RvAll.rep {K : PySem.W.Frag} {H : Hp} {B : Addr → Prop} {vs : List V} {ds : List PyData} (h : RvAll K H B vs ds) : ∀ k : Nat, RvAll K H B (List.replicate k vs).flatten (List.replicate k ds).flatten
  | 0 => by simp only [List.replicate_zero, List.flatten_nil]; exact .nil
  | k + 1 => by simp only [List.replicate_succ, List.flatten_cons]; exact h.append (RvAll.rep h k)

theorem op_binX (hK : T.K = X.K) (op : Operator) : OpR X (binaryOp op) (r2F T W (binX op)) := by
  intro pins s σ H x y v u Q I rx ry h
  obtain ⟨σ', Z, μ, t, a, b, st, xa, yb, po⟩ := h
  unfold binX at po
  cases ea : rd t a with
  | none => rw [ea] at po; exact absurd po (fun z => z)
  | some d =>
  cases eb : rd t b with
  | none => rw [ea, eb] at po; exact absurd po (fun z => z)
  | some e =>
  have qa := rd_rq st xa ea
  have qb := rd_rq st yb eb
  have qa' : ∀ ds, d = .tuple ds → Rv T.K H (Bz μ t Z) x (.tuple ds) := fun ds e => by subst e; exact rd_tup st xa ea
  have qb' : ∀ ds, e = .tuple ds → Rv T.K H (Bz μ t Z) y (.tuple ds) := fun ds e => by subst e; exact rd_tup st yb eb
  rw [ea, eb] at po
  simp only at po
  cases eL : binL op d e with
  | some xs =>
    rw [eL] at po
    simp only at po
    unfold binL at eL
    split at eL
    · rename_i op' d' e' xs' ys'
      split at eL
      · rename_i hz
        have e1 := Option.some.inj eL
        subst e1
        obtain ⟨a1, vs1, rfl, h1, r1⟩ := qa
        obtain ⟨a2, vs2, rfl, h2, r2⟩ := qb
        refine op_cat pins s σ H _ _ v u Q I rx ry ⟨a1, a2, vs1, vs2, rfl, rfl, h1, h2, ?_, po.lstN st (r1.append r2)⟩
        rw [r1.length, r2.length]
        exact szOk_le hz
      · cases eL
    · rename_i op' d' e' xs' k
      split at eL
      · rename_i hz
        have e1 := Option.some.inj eL
        subst e1
        obtain ⟨a1, vs1, rfl, h1, r1⟩ := qa
        have e2 : y = .int k := qb
        subst e2
        refine op_rep pins s σ H _ _ v u Q I rx ry ⟨a1, k, vs1, rfl, rfl, h1, by omega, by omega, ?_, po.lstN st (r1.rep _)⟩
        rw [r1.length]
        exact szOk_le hz.2.2
      · cases eL
    · cases eL
  | none =>
    rw [eL] at po
    simp only at po
    cases eD : binD op d e with
    | none => rw [eD] at po; exact absurd po (fun z => z)
    | some z =>
      rw [eD] at po
      simp only at po
      unfold binD at eD
      split at eD
      · cases qa; cases qb
        have e1 := Option.some.inj eD
        subst e1
        exact op_add pins s σ H _ _ v u Q I rx ry ⟨_, _, rfl, rfl, Po.here (T := T) (W := W) (σ := σ') po st (.int _)⟩
      · cases qa; cases qb
        split at eD
        · rename_i hz
          have e1 := Option.some.inj eD
          subst e1
          exact op_add_str pins s σ H _ _ v u Q I rx ry ⟨_, _, rfl, rfl, szOk_le hz, Po.here (T := T) (W := W) (σ := σ') po st (.str _)⟩
        · cases eD
      · split at eD
        · rename_i hz
          have e1 := Option.some.inj eD
          subst e1
          obtain ⟨a1, vs1, rfl, h1, r1⟩ := qa
          obtain ⟨a2, vs2, rfl, h2, r2⟩ := qb
          rw [hK] at h1 h2
          refine op_catAN pins s σ H _ _ v u Q I rx ry ⟨a1, a2, vs1, vs2, rfl, rfl, h1, h2, ?_, fun ev => ?_, fun _ ev => ?_, fun _ _ => Po.tupN (T := T) (W := W) (σ := σ') po st (r1.append r2)⟩
          · rw [r1.length, r2.length]
            exact szOk_le hz
          · subst ev
            cases r1
            exact Po.here (T := T) (W := W) (σ := σ') po st (qb' _ rfl)
          · subst ev
            cases r2
            rw [List.append_nil] at po
            exact Po.here (T := T) (W := W) (σ := σ') po st (qa' _ rfl)
        · cases eD
      · cases qa; cases qb
        have e1 := Option.some.inj eD
        subst e1
        exact op_sub pins s σ H _ _ v u Q I rx ry ⟨_, _, rfl, rfl, Po.here (T := T) (W := W) (σ := σ') po st (.int _)⟩
      · cases qa; cases qb
        split at eD
        · rename_i hz
          have e1 := Option.some.inj eD
          subst e1
          refine op_mul pins s σ H _ _ v u Q I rx ry ⟨_, _, rfl, rfl, ?_, Po.here (T := T) (W := W) (σ := σ') po st (.int _)⟩
          unfold mulOk at hz
          rw [Bool.or_eq_true, decide_eq_true_eq, decide_eq_true_eq] at hz
          exact hz
        · cases eD
      · cases qa; cases qb
        split at eD
        · rename_i hz
          have e1 := Option.some.inj eD
          subst e1
          exact op_mod pins s σ H _ _ v u Q I rx ry ⟨_, _, rfl, rfl, hz, Po.here (T := T) (W := W) (σ := σ') po st (.int _)⟩
        · cases eD
      · cases qa; cases qb
        split at eD
        · rename_i hz
          have e1 := Option.some.inj eD
          subst e1
          exact op_fdiv pins s σ H _ _ v u Q I rx ry ⟨_, _, rfl, rfl, hz, Po.here (T := T) (W := W) (σ := σ') po st (.int _)⟩
        · cases eD
      · cases qa; cases qb
        split at eD
        · rename_i hz
          have e1 := Option.some.inj eD
          subst e1
          refine op_pow pins s σ H _ _ v u Q I rx ry ⟨_, _, rfl, rfl, ⟨hz.1, by omega, ?_⟩, Po.here (T := T) (W := W) (σ := σ') po st (.int _)⟩
          have := hz.2.2
          omega
        · cases eD
      · cases eD
end
end Mi
end

section
set_option maxRecDepth 100000
set_option maxHeartbeats 2000000
/-! MiExc1: an own error class whose __init__ says super().__init__(x), then self.f = x. -/
namespace Mi
open PySem PySem.Spec PySem.Calls PyProof.Rows L2
/-- the text of such an __init__ -/
structure InitD where
  name : Str
  qual : Str
  params : Arguments
  scope : Scope
  slf : Str
  x : Str
  f : Str
  p0 : Pos
  p1 : Pos
  p2 : Pos
  p3 : Pos
  p4 : Pos
  p5 : Pos
  p6 : Pos
  p7 : Pos
  p8 : Pos
  p9 : Pos
def InitD.body (d : InitD) : List Stmt := [.Expr (.Call (.Attribute (.Call (.Name "super" d.p0) [] [] d.p1) "__init__" d.p2) [.Name d.x d.p3] [] d.p4) d.p5, .Assign [.Attribute (.Name d.slf d.p6) d.f d.p7] (.Name d.x d.p8) d.p9]
structure InitD.Ok (d : InitD) : Prop where
  bind : ∀ (kV doc pm : Value) (an : Option Addr) (cdv ct : Value) (cc : Addr) (s : Shared) (u v : Value), BindsTo s (PySem.W.ksFn d.name d.qual d.params d.body d.scope .none kV doc pm an cdv ct cc) ⟨[u, v], []⟩ [(d.slf, u), (d.x, v)]
  head : ∃ ar, (d.params.posonlyargs ++ d.params.args).head? = some ar ∧ ar.arg = d.slf
  cell : ∀ x ∈ d.scope.names, x.2 ≠ .cell
  co : d.scope.isCoroutine = false
  gen : d.scope.isGenerator = false
  kind : d.scope.kind = .function
  ls : d.scope.names.lookup d.slf = some .local
  lx : d.scope.names.lookup d.x = some .local
  lsup : d.scope.names.lookup ("super" : Str) = some .globalImplicit
  lcls : d.scope.names.lookup ("__class__" : Str) = some .free
  ne : d.slf ≠ d.x
  db1 : (d.slf == ("__debug__" : Str)) = false
  db2 : (d.x == ("__debug__" : Str)) = false
  call : ∀ (L fI : Addr) (cdv : Value) (cc : Addr), ∃ pl : Sem Bool, eval (.Call (.Attribute (.Call (.Name "super" d.p0) [] [] d.p1) "__init__" d.p2) [.Name d.x d.p3] [] d.p4) (PySem.W.ksEnv d.qual d.scope L fI cdv cc) = (do
    let ov ← attributeBase (.Call (.Name "super" d.p0) [] [] d.p1) "__init__" (PySem.W.ksEnv d.qual d.scope L fI cdv cc) (eval (.Call (.Name "super" d.p0) [] [] d.p1) (PySem.W.ksEnv d.qual d.scope L fI cdv cc))
    standAt d.p2.atName
    let (f, first) ← holding [ov] (getMethod ov "__init__" pl)
    callWith d.p4 f first (backTo d.p4 (starEach [.Name d.x d.p3] (PySem.W.ksEnv d.qual d.scope L fI cdv cc))) [])
  int : ∀ (L fI : Addr) (cdv : Value) (cc : Addr), interactive (PySem.W.ksEnv d.qual d.scope L fI cdv cc) = false
  sw1 : ∀ (L fI : Addr) (cdv : Value) (cc : Addr), swapsWith (.Call (.Attribute (.Call (.Name "super" d.p0) [] [] d.p1) "__init__" d.p2) [.Name d.x d.p3] [] d.p4) none d.p5.line (PySem.W.ksEnv d.qual d.scope L fI cdv cc) = pure false
  sw2 : ∀ (L fI : Addr) (cdv : Value) (cc : Addr), swapsWith (.Name d.x d.p8) (some (.Attribute (.Name d.slf d.p6) d.f d.p7)) d.p9.line (PySem.W.ksEnv d.qual d.scope L fI cdv cc) = pure false
structure SupC (P : Program) (K : PySem.W.Frag) (B newId initId : String) (bmB : List Value) (C fI : Addr) (d : InitD) : Prop where
  q : PySem.W.excInitIn K C bmB newId = true
  iC : PySem.W.findIn K (.ref C) "__init__" = some (some (.ref fI))
  tI : PySem.W.typeIn K (.ref fI) = some (.type "function")
  fo : ∃ (oc : Value) (od : Option Addr) (osl : Array (Option Value)) (kV doc pm : Value) (an : Option Addr) (cda : Addr) (ct : Value) (cc : Addr) (ccl : Value) (cdd : Option Addr) (ccs : Array (Option Value)) (vs : Array Value) (file : Str) (tf : Tok) (cl : Value) (cld : Option Addr) (csl : Array (Option Value)),
    K.lookup fI = some ⟨oc, od, .func (PySem.W.ksFn d.name d.qual d.params d.body d.scope .none kV doc pm an (.ref cda) ct cc), osl⟩ ∧ PySem.W.codeIn K (.ref cda) d.qual = true ∧ K.lookup cda = some ⟨ccl, cdd, .fields vs, ccs⟩ ∧ vs[2]? = some (.str file tf) ∧
    ((P.main.file : Str) == file) = true ∧ K.lookup cc = some ⟨cl, cld, .cell (some (.ref C)), csl⟩
  cd : ∃ cd, PySem.W.clsIn K C = some cd
  sub : PySem.W.mroIn K C (.ref C) = some true
  sup : PySem.W.nsIn K mainGlobals "super" = some none
  top : (P.main.scope.names.lookup ("super" : Str)).isSome = false
  opq : PySem.W.nsIn K cStatics "thirdparty.any" = some none
  ini : PySem.W.ks_superIn K C C "__init__" = some (some (.builtin initId))
  isB : PySem.W.subIn K (.ref C) (.type B) = some true
  sa : PySem.W.findIn K (.ref C) "__setattr__" = some (some (.builtin "object.__setattr__"))
  over : PySem.W.excOver K C bmB = true
  tak : PySem.W.takerIn K C d.f = some none
  hd : PySem.W.hasDictIn K C = true
  exC : PySem.W.subIn K (.ref C) (.type "BaseException") = some true
  tyC : PySem.W.typeIn K (.ref C) = some (.type "type")
  kC : PySem.W.keepIn K (.ref C) = true
section
variable {P : Program} {w : World} {K : PySem.W.Frag} {B newId initId : String} {bmB : List Value} {C fI : Addr} {d : InitD} {A : Around} {mg mb : Str → Option Value}
theorem sup_init (D : d.Ok) (S : SupC P K B newId initId bmB C fI d) (KF : PySem.W.KxsFacts B initId) (FB : ExcBaseFacts B newId initId bmB) (SF : StoreFacts B bmB "object.__setattr__" "object") {h0 : Heap} {t e : Addr} (he : e = h0.objs.size) {g : Array GenState} {dr : Drawn} {tk : Nat} {os : OsState} {v : Value} {R : Result → Shared → Prop}
    (X0 : K.In h0) (G0 : h0.Ns mainGlobals mg) (B0 : h0.Ns builtinsNs mb) (hbl : ∀ x : Str, x ≠ "__name__" → mb x = bootBuiltins x) (NL : h0.NoLimit) (hroom : A.depth < recursionLimit)
    (hq : ∀ h' dx tk' t' hs tk2 n, (∀ b o, h0.get? b = some o → h'.get? b = some o) → h'.get? e = some (PySem.W.excObj C t' (some dx) .none) → h'.get? dx = some (PySem.W.dictOf [⟨hs, .str d.f tk2, v⟩] n) → e < dx → R (.ok (.ret .none)) ⟨h', g, dr, tk', os⟩) :
    codeAny (model P w) A (.call (.ref fI) ⟨[.ref e, v], []⟩) R ⟨h0.push (PySem.W.excObj C t none .none), g, dr, tk, os⟩ := by
  obtain ⟨oc, od, osl, kV, doc, pm, an, cda, ct, cc, ccl, cdd, ccs, vs, file, tf, cl, cld, csl, hf, hcd, hcode, hvs, hfile, hcell⟩ := S.fo
  obtain ⟨ar, hp, har⟩ := D.head
  obtain ⟨cdD, hD⟩ := S.cd
  have kp : ∀ b o, h0.get? b = some o → (h0.push (PySem.W.excObj C t none .none)).get? b = some o := fun b o e => Heap.get?_push_of_some _ e
  have X1 : K.In (h0.push (PySem.W.excObj C t none .none)) := X0.keeps kp
  refine ks_codeAny_call_defAt (fd := PySem.W.ksFn d.name d.qual d.params d.body d.scope .none kV doc pm an (.ref cda) ct cc) (body := d.body) (binds := [(d.slf, .ref e), (d.x, v)]) hroom (X1 _ _ hf) rfl (NL.keeps kp) (PySem.W.codeRec_of X1 hcd) rfl (D.bind _ _ _ _ _ _ _ _ _ _) D.cell (fun y hy => ?_) (fun h₁ hns hk₁ => ?_) D.co D.gen D.kind
  · simp only [List.mem_cons, List.not_mem_nil, or_false] at hy
    rcases hy with rfl | rfl
    · exact D.ls
    · exact D.lx
  have sz : (h0.push (PySem.W.excObj C t none .none)).objs.size = h0.objs.size + 1 := by simp [Heap.push]
  have hpe : (h0.push (PySem.W.excObj C t none .none)).get? e = some (PySem.W.excObj C t none .none) := Heap.get?_push_at he rfl
  obtain ⟨L, hL⟩ : ∃ L, L = (h0.push (PySem.W.excObj C t none .none)).objs.size := ⟨_, rfl⟩
  rw [← hL] at hns ⊢
  obtain ⟨m, hm⟩ : ∃ m : Str → Option Value, m = fun y => [(d.slf, (.ref e : Value)), (d.x, v)].reverse.lookup y := ⟨_, rfl⟩
  rw [← hm] at hns
  have mx : m d.x = some v := by rw [hm]; simp [List.lookup]
  have ms : m d.slf = some (.ref e) := by
    rw [hm]
    have : (d.slf == d.x) = false := by simp [D.ne]
    simp [List.lookup, this]
  have F : Fr h0 L h₁ m := ⟨hns, fun b o z => hk₁ _ _ (kp b o z), by omega⟩
  have none0 : ∀ b, h0.objs.size ≤ b → h0.get? b = none := fun b hb => by
    cases z : h0.get? b with
    | none => rfl
    | some o => exact absurd (Heap.lt_size z) (Nat.not_lt.mpr hb)
  have N : News h0 L h₁ [(e, PySem.W.excObj C t none .none)] := fun p hp => by
    cases List.mem_singleton.mp hp
    exact ⟨hk₁ _ _ hpe, Nat.ne_of_lt (by show (e : Nat) < L; rw [hL, sz, he]; exact Nat.lt_succ_self _), none0 _ (Nat.le_of_eq he.symm)⟩
  show _root_.PySem.wpAt (model P w) (A.deeper (PySem.W.ksEnv d.qual d.scope L fI (.ref cda) cc)) (.func d.body (PySem.W.ksEnv d.qual d.scope L fI (.ref cda) cc)) (execs d.body (PySem.W.ksEnv d.qual d.scope L fI (.ref cda) cc)) _ _ _
  have ev : ∀ {A : Around} {E : Value → Shared → Prop} {s : Shared} {y : Str} {u : Value} {p : Pos} {Q : Value → Shared → Prop}, s.heap.Ns L m → m y = some u → d.scope.names.lookup y = some .local → (y == ("__debug__" : Str)) = false → Q u s → wpAny (model P w) A (eval (.Name y p) (PySem.W.ksEnv d.qual d.scope L fI (.ref cda) cc)) Q E s := fun hn hy hl hdb q =>
    wpAny_Name (wpAny_loadName_local (env := PySem.W.ksEnv d.qual d.scope L fI (.ref cda) cc) D.kind hl hn hy q) hdb
  have X2 : K.In h₁ := X0.keeps F.keep
  obtain ⟨oD, hD1, hD2⟩ : ∃ oD, h₁.get? C = some oD ∧ oD.data = .cls cdD := by
    unfold PySem.W.clsIn at hD
    split at hD
    · rename_i c d cd' sl ho
      cases hD
      exact ⟨_, X2 _ _ ho, rfl⟩
    · cases hD
  obtain ⟨pl, hcall⟩ := D.call L fI (.ref cda) cc
  refine ks_wpAt_execs_cons (ks_wpAt_Expr_any (ks_wpAt_MethodCall (pl := pl) ?_ hcall) (D.int L fI (.ref cda) cc) (D.sw1 L fI (.ref cda) cc))
  refine ks_wpAt_super_base (env := PySem.W.ksEnv d.qual d.scope L fI (.ref cda) cc) D.lsup D.lcls (by decide) rfl (X2 _ _ hf) rfl hp rfl (X2 _ _ hcode) rfl hvs hfile S.top ?_
  refine PySem.W.ks_loadName_global D.kind D.lsup (loadGlobal_builtin (env := PySem.W.ksEnv d.qual d.scope L fI (.ref cda) cc) (G0.keeps F.keep) (PySem.W.mg_none_of X0 G0 S.sup) (B0.keeps F.keep) ((hbl _ (by decide +kernel)).trans PyProof.Rows.Boot.«super») ⟨rfl, ?_⟩)
  refine wpAny_loadName_free D.kind D.lcls rfl ⟨_, X2 _ _ hcell, rfl⟩ ?_
  refine wpAny_loadName_local D.kind (by rw [har]; exact D.ls) hns (by rw [har]; exact ms) ?_
  refine ks_wpAny_isType_cls hD1 hD2 ⟨rfl, ?_⟩
  refine ks_wpAny_call_super hD1 hD2 (N _ (List.mem_cons_self ..)).1 rfl (fun c e => by cases e) (PySem.W.looks_mroIn X2 S.sub) (fun h2 e2 k2 => ?_)
  obtain ⟨F2, N2, l2⟩ := PySem.W.ks_newsPush (s := ⟨h₁, g, dr, tk, os⟩) F N rfl e2 k2
  refine PySem.W.kxs_method KF F2 X0 N2 (List.mem_cons_self ..) (PySem.W.InstAt.of_exc0 N2 (List.mem_cons_of_mem _ (List.mem_cons_self ..))) S.opq S.ini S.isB (by decide) ?_
  intro q h3 F3 N3 l3
  refine PySem.W.kxs_callWith1 N3 (List.mem_cons_self ..) (spliced_more (ev F3.ns mx D.lx D.db2 (spliced_none ⟨PySem.W.kxs_at N3 (List.mem_cons_self ..), ?_⟩)))
  have q1 : q ≠ e := fun z => by
    have := l3 (e, PySem.W.excObj C t none .none) (by simp)
    simp only [z] at this
    exact absurd this (Nat.lt_irrefl _)
  have q2 : h₁.objs.size ≠ e := fun z => by
    have := l2 (e, PySem.W.excObj C t none .none) (by simp)
    simp only [z] at this
    exact absurd this (Nat.lt_irrefl _)
  refine PySem.W.kxs_call F3 X0 N3 FB S.q (List.mem_cons_self ..) (.tail q1 (.tail q2 (.head (by simp)))) (by rw [sizeLine_eq]; show 1 ≤ 16777216; decide) ?_
  intro t' h4 F4 N4 l4
  have q3 : t' ≠ e := fun z => by
    have := l4 (e, PySem.W.excObj C t none .none) (by simp)
    simp only [z] at this
    exact absurd this (Nat.lt_irrefl _)
  refine wpAt_of_wpAny (wpAny_execs_cons (plainObj_wpAny_Assign_Attribute (ev F4.ns mx D.lx D.db2 (ev F4.ns ms D.ls D.db1 ?_)) (D.sw2 L fI (.ref cda) cc)))
  refine PySem.W.set_exc0 SF F4 X0 N4 (x := e) (t := t') (c2 := .none) (by simp) S.sa S.over S.tak S.hd rfl (.tail q3 (.tail q1 (.tail q2 (.head (by simp))))) (by simp [PySem.W.putL]) ?_
  intro dx h5 F5 N5 l5
  exact wpAny_execs_nil (hq h5 dx _ t' _ _ _ F5.keep (N5 (e, PySem.W.excObj C t' (some dx) .none) (by simp)).1 (N5 _ (List.mem_cons_self ..)).1 (l5 (e, PySem.W.excObj C t' none .none) (by simp)))
end
/-! ### in the layer -/
section
variable {X : Cx} {x : Str} {e : Expr} {ta : TA} {p pos : Pos} {k : Nat} {B newId initId : String} {bmB : List Value} {C fI : Addr} {d : InitD}
/-- C(e): the error, its dict holding what e said -/
def tMkS (C : Addr) (f : Str) (ta : TA) : L2.St → Hp → XK → Prop := fun σ H Q => ta σ H fun vs H1 => ∃ y, vs = [y] ∧ ∀ dx, H1 dx = none → Q (.ref C) (some dx) (upd H1 dx (.xd [(f, y)]))
theorem pmk_sup (D : d.Ok) (S : SupC X.prog X.K B newId initId bmB C fI d) (KF : PySem.W.KxsFacts B initId) (FB : ExcBaseFacts B newId initId bmB) (SF : StoreFacts B bmB "object.__setattr__" "object")
    (hr : Room k X.A) (hg : Gl X x) (hm : X.mg x = some (.ref C)) (ha : PA X [e] ta)
    (hdb : (x == ("__debug__" : Str)) = false) (he : starEach [e] X.env = (false, eval e X.env) :: starEach [] X.env) : PMk X (.Call (.Name x p) [e] [] pos) (tMkS C d.f ta) := by
  intro pins s σ H Q I h
  refine wpAny_Call_Name_kw (ld_glob I hg hm ?_ hdb)
  refine PySem.W.callWith_K (h₀ := X.base) I.ok.mod.kin S.kC (thn (ha.run pos pins s σ H _ I h) fun us s1 ⟨vs, H1, I1, r1, y, ev, q1⟩ => ⟨I1.kIn, ?_⟩) he rfl
  show wpAny _ _ (call (.ref C) us) _ _ _
  subst ev
  cases r1 with
  | @cons _ u _ ur ry rn =>
    cases rn
    obtain ⟨hp, g, dr, tk, os⟩ := s1
    obtain ⟨nm, N, qn, bs, bm, hdct, sn, sub, ab, col, dd, k0, k1, k2, k3, k5, hC, hT⟩ := PySem.W.excInit_of I1.kIn S.q
    have sz : (hp.push (PySem.W.kdv_tup [u])).objs.size = hp.objs.size + 1 := by simp [Heap.push]
    have kp : ∀ b o, hp.get? b = some o → (hp.push (PySem.W.kdv_tup [u])).get? b = some o := fun b o z => Heap.get?_push_of_some _ z
    obtain ⟨mb, hmb, hbl⟩ := I1.ok.mod.blt
    have hroom : (X.A.under (.builtin "type.__call__" ⟨.ref C :: [u], []⟩)).depth < recursionLimit := by
      have := hr.dp
      rw [make_depth]
      omega
    refine wpAny_call (PySem.HandSPX.call_own FB hT hC (PySem.W.looks_findIn I1.kIn S.iC) (fun self => PySem.W.bind_fn I1.kIn self S.tI) (by rw [sizeLine_eq]; show 1 ≤ 16777216; decide)
      (sup_init (P := X.prog) (w := X.w) (K := X.K) (h0 := hp.push (PySem.W.kdv_tup [u])) (t := hp.objs.size) (e := hp.objs.size + 1) D S KF FB SF sz.symm (I1.kIn.keeps kp) ((I1.ok.mod.glob.keeps I1.bk).keeps kp) ((hmb.keeps I1.bk).keeps kp) hbl ((I1.ok.mod.nolimit.keeps I1.bk).keeps kp) hroom
        fun h' dx tk' t' hs tk2 n kk ge gd lt => ⟨rfl, ?_⟩))
    have k1' : ∀ b o, hp.get? b = some o → h'.get? b = some o := fun b o z => kk b o (kp b o z)
    obtain ⟨G, g1, g2⟩ := restrict h' fun b => decide (b ≠ hp.objs.size + 1)
    have gk : ∀ b, b ≠ hp.objs.size + 1 → G.get? b = h'.get? b := fun b hb => g1 b (decide_eq_true hb)
    have nge : ∀ b o, hp.get? b = some o → b ≠ hp.objs.size + 1 := fun b o z => Nat.ne_of_lt (Nat.lt_succ_of_lt (Heap.lt_size z))
    have lt' : (hp.objs.size + 1 : Nat) < dx := lt
    have hdx : hp.objs.size ≤ dx := Nat.le_of_lt (Nat.lt_of_succ_lt lt')
    have J : Inv X pins σ (upd H1 dx (.xd [(d.f, y)])) ⟨G, g, dr, tk', os⟩ := I1.laid (h' := G) (t' := tk') (a := dx) (o := .xd [(d.f, y)]) (fun b o z => (gk b (nge b o z)).trans (k1' b o z)) hdx
      ⟨fun z => if z = d.f then some u else none, ⟨_, #[⟨hs, .str d.f tk2, u⟩], n, (gk dx (Nat.ne_of_gt lt')).trans gd, rfl, ?_, ?_, ?_⟩, fun z => ?_⟩
    · refine ⟨hp.objs.size + 1, _, _, ⟨G, g, dr, tk', os⟩, _, .ref C, some dx, rfl, J, fun b o z => ?_, g2 _ (by simp), ge, ⟨rfl, rfl⟩, rfl, rfl, ?_, rfl, J.bare, raises_own S.exC S.tyC, q1 dx (I1.hok.fresh hdx)⟩
      · by_cases hb : b = hp.objs.size + 1
        · rw [hb, g2 _ (by simp)] at z
          cases z
        · exact (gk b hb).symm.trans z
      · rw [upd_ne (Nat.ne_of_lt lt')]
        exact I1.hok.fresh (Nat.le_succ _)
    · intro z hz
      simp only [List.mem_toArray, List.mem_singleton] at hz
      subst hz
      exact ⟨_, _, rfl⟩
    · show List.Pairwise _ [_]
      exact List.pairwise_singleton ..
    · intro z
      by_cases hz : z = d.f
      · subst hz
        simp [nsFind, findBy, Value.isStr]
      · have : (d.f == z) = false := by simp; exact fun e => hz e.symm
        simp [nsFind, findBy, Value.isStr, hz, this]
        try (intro e; exact hz e.symm)
    · exact relO_put (fs := []) (mA := fun _ => none) ry (fun g => True.intro) z
end
end Mi
end

section
set_option maxRecDepth 100000
set_option maxHeartbeats 2000000
/-! MiExc3: isinstance of a caught error, its dict there or not. -/
namespace Mi
open PySem PySem.Spec PySem.Calls PyProof.Rows L2 PySem.W
section
variable {prog : Program} {w : World} {A : Around} {E : Value → Shared → Prop} {s : Shared} {K : PySem.W.Frag} {x D : Addr} {ox : Obj} {od : Option Obj}
theorem cls_asked {Q : Option Value → Shared → Prop} (C : ExcC K D) (X : K.In s.heap) (I : PySem.W.InstAt s.heap x ox D od) (h : Q (some (.ref D)) { s with toks := s.toks + 1 }) : wpAny (model prog w) A (getAttr? (.ref x) "__class__") Q E s := by
  have hc : (clsIn K D).isSome = true := by obtain ⟨cd, hc, _⟩ := any_some C.hd; rw [hc]; rfl
  have hf : findObj K D od "__class__" = some (.bind (.builtin "getset_descriptor.__get__") (.builtin "object.__class__")) := by
    cases od with
    | none => exact findObj_dataN hc C.ha C.hn C.ht
    | some o => exact findObj_data hc C.ha C.hn C.ht
  obtain ⟨hp, g, d, t, os⟩ := s
  have L0 := I.type (M := model prog w)
  have L1 := looks_findIn (M := model prog w) X C.hg
  have L2 := looks_findIn (M := model prog w) X C.hk
  have L3 := looks_find (M := model prog w) X I hf
  have sub : Looks (model prog w) hp (isInstance (.ref x) (.type "BaseException")) true := L0.andThen (looks_subIn X C.hs)
  have hx0 : (false && onTheHeap (Value.builtin "BaseException.__getattribute__")) = false := rfl
  have hx2 : (Value.builtin "BaseException.__getattribute__" == Value.builtin "object.__getattribute__") = false := by decide +kernel
  have hx1 : (onTheHeap (Value.ref D) && Value.builtin "BaseException.__getattribute__" == Value.builtin "object.__getattribute__") = false := by rw [hx2]; rfl
  unfold getAttr? getAttrBy? getAttrBy
  refine wpAny_bind (wpAny_mkText (wpAny_bind (wpAny_attempt (wpAny_holding (wpAny_bind (L0.at (wpAny_bind (L1.at ?_))))))))
  show wpAny _ _ (if (onTheHeap (Value.ref D) && Value.builtin "BaseException.__getattribute__" == Value.builtin "object.__getattribute__") = true then _ else _) _ _ _
  rw [hx1, if_neg Bool.false_ne_true]
  unfold getAttrByItsOwn hookBefore
  refine wpAny_bind ?_
  rw [if_pos (show onTheHeap (Value.ref D) = true from rfl)]
  refine L2.at ?_
  refine wpAny_bind (wpAny_attempt (wpAny_holding ?_))
  unfold callGetattribute
  rw [hx0, if_neg Bool.false_ne_true]
  unfold boundAndCalled
  rw [PySem.F.excAttr_ValueError.ga.bind (.ref x)]
  refine wpAny_bind (wpAny_pure ?_)
  show wpAny _ _ (call (.builtin "BaseException.__getattribute__") [.ref x, .str "__class__" t]) _ _ _
  refine wpAny_call (codeAny_call_builtin PySem.F.excAttr_ValueError.ga.plain PySem.F.entry_bexc_ga ?_)
  refine @check_slot (model prog w) _ _ ⟨hp, g, d, t + 1, os⟩ "BaseException.__getattribute__" "BaseException" "__getattribute__" (.ref x) [.str "__class__" t] [] _ (by decide +kernel) (by decide +kernel) sub (PySem.F.args_bexc_ga (.ref x) (.str "__class__" t)) ?_
  unfold Builtin.«object.__getattribute__»
  refine wpAny_bind (wpAny_of_eq (a := ((Value.ref x : Value), [Value.str "__class__" t])) (by first | rfl | (simp only [slotArgs]; rfl)) ?_)
  refine wpAny_bind (wpAny_pure (wpAny_bind (L0.at (wpAny_bind (L3.at ?_)))))
  show wpAny _ _ (holding [Value.builtin "object.__class__"] (call (.builtin "getset_descriptor.__get__") [.builtin "object.__class__", .ref x, .ref D]) >>= ret) _ _ _
  refine wpAny_bind (wpAny_holding (wpAny_call (class_get (s := ⟨hp, g, d, t + 1, os⟩) (ox := ox) (od := od) X I C.hm ?_)))
  refine wpAny_pure ?_
  show wpAny _ _ (handedOut (.ref D)) _ _ _
  rw [handedOut_of (v := .ref D) rfl]
  first
    | exact wpAny_pure (wpAny_pure h)
    | exact wpAny_pure h
    | exact wpAny_pure (wpAny_bind (wpAny_pure (wpAny_pure h)))
theorem kitx_err (C : ExcC K D) : KitX K (.ref x) (.ref D) (fun h => PySem.W.InstAt h x ox D od) where
  ty := fun _ _ _ I => I.type
  it := fun _ _ X _ => by
    obtain ⟨cdD, hcD, _⟩ := any_some C.hd
    unfold clsIn at hcD
    split at hcD
    · rename_i c' d' cd' sl' ho
      intro A' Q' E' s' k q
      unfold isType loadHead
      exact wpAny_bind (wpAny_loadPart (k _ _ (X _ _ ho)) (wpAny_pure q))
    · cases hcD
  ne := fun h tp dd its n sl X htp => by
    obtain ⟨cdD, hcD, _⟩ := any_some C.hd
    refine Bool.eq_false_iff.mpr fun q => ?_
    have e : D = tp := Value.ref.inj (beq_iff_eq.mp q)
    subst e
    unfold clsIn at hcD
    split at hcD
    · rename_i c' d' cd' sl' ho
      have z := (X _ _ ho).symm.trans htp
      cases z
    · cases hcD
  ca := fun X I k => cls_asked C X I k
end
/-- isinstance(e, c), e the error that the suite holds; its dict, if it has one, is known -/
def rIsX (K : PySem.W.Frag) (D a : Addr) (d : Option Addr) : List V → Hp → VK → Prop := fun xs H Q => ∃ (c : V) (cv : Value) (b : Bool), xs = [.ref a, c] ∧ (∀ u, RelV c u → u = cv) ∧ PySem.W.kitOne K (.ref D) cv = some b ∧ (∀ dd, d = some dd → ∃ fs, H dd = some (.xd fs)) ∧ Q (.bl b) H
theorem call_isX {X : Cx} {a D : Addr} {oe : Obj} {d : Option Addr} {pn : List (Addr × Obj)} (C : ExcC X.K D) (hz : Zc (.ref D) d oe) (hf : ∃ vs, oe.data = .fields vs) : CallR (X.suite a ((a, oe) :: pn)) (.builtin "isinstance") (rIsX X.K D a d) := by
  intro pins s σ H xs us Q I r h
  obtain ⟨c, cv, b, rfl, hcv, e, hdd, q⟩ := h
  cases r with
  | cons rx rr =>
    cases rr with
    | cons rt rr =>
      cases rr
      cases rx
      have ec := hcv _ rt
      subst ec
      obtain ⟨hget, _⟩ := I.pin (a, oe) (List.mem_append.mpr (.inl List.mem_cons_self))
      obtain ⟨vs, hv⟩ := hf
      obtain ⟨od, J⟩ : ∃ od, PySem.W.InstAt s.heap a oe D od := by
        cases hd : d with
        | none => exact ⟨none, hget, hz.1, by unfold PySem.W.notCls; rw [hv] <;> rfl, by rw [hz.2, hd]; trivial⟩
        | some dd =>
          obtain ⟨fs, ed⟩ := hdd dd hd
          obtain ⟨mA, hns, _⟩ := (I.hok dd _ ed : ObjOk X.prog X.w H s.heap dd (.xd fs))
          obtain ⟨o, ho, _⟩ := lookIn_ns hns
          exact ⟨some o, hget, hz.1, by unfold PySem.W.notCls; rw [hv] <;> rfl, by rw [hz.2, hd]; exact ho⟩
      exact PySem.W.kia_one (kitx_err C) I.kIn J e (fun z => nomatch z) fun tk => ⟨.bl b, H, I.kept (t' := tk) fun _ _ z => z, rfl, q⟩
end Mi
end

section
set_option maxRecDepth 100000
/-! MiDic1: tuple(d), list(d.values()), dict(tuple of pairs): rules over the layer. -/
namespace Mi
open PySem PySem.Spec PyProof.Rows L2

section
variable {prog : Program} {w : World} {A : Around} {E : Value → Shared → Prop} {s : Shared} {Ty : String} {r d : Addr} {n : Nat} {P : Nat → Value → Prop} {OK : Heap → Prop}
theorem collect_kdl {Q : List Value → Shared → Prop} (K : PySem.W.KdlSrc prog w Ty r d n P OK) (hh : A.handled = none) (hok : OK s.heap) (hn : n ≤ sizeLine)
    (hQ : ∀ (h' : Heap) (tk : Nat) (acc : Array Value), (∀ b o, s.heap.get? b = some o → h'.get? b = some o) → ItemsOf P acc n → Q acc.toList { s with heap := h', toks := tk }) :
    wpAny (model prog w) A (collect (.ref r)) Q E s := by
  unfold collect
  refine wpAny_bind (wpAny_runValue (codeAny_builtin F.entry_proto_collect ?_))
  rw [Around.under_plainId F.plain_proto_collect _]
  show wpAny _ A.in1 (newList [] >>= fun l => again (.builtin "list.__iadd__" ⟨[l, .ref r], []⟩)) _ _ s
  refine wpAny_bind (wpAny_newObj_type ?_)
  refine wpAny_pure ⟨plainId_quiet F.plain_list_iadd _, codeAny_builtin F.entry_list_iadd ?_⟩
  rw [Around.under_plainId F.plain_list_iadd _]
  show wpAny _ A.in1 (Builtin.List.listExtendWith (.ref s.heap.objs.size) (.ref r) (.ref s.heap.objs.size)) _ _ _
  have hS : (s.heap.push { cls := .type "list", data := .seq ([] : List Value).toArray }).get? s.heap.objs.size = some { cls := .type "list", data := .seq #[] 0 } := Heap.get?_push_size _ rfl
  have hlt := K.there _ hok
  refine wpAny_mono (PySem.W.kdl_extend (A := A) (R := fun rr s' => rr = .ok (.ret (.ref s.heap.objs.size)) ∧ ∃ (h' : Heap) (tk : Nat) (acc : Array Value) (c' : Nat), s' = { s with heap := h', toks := tk } ∧
      (∀ b o, s.heap.get? b = some o → h'.get? b = some o) ∧ h'.get? s.heap.objs.size = some { cls := .type "list", dict := none, data := .seq acc c', slots := #[] } ∧ ItemsOf P acc n)
    (s := { s with heap := s.heap.push { cls := .type "list", data := .seq ([] : List Value).toArray } }) K hh (K.keep _ _ hok fun b _ o e => Heap.get?_push_of_some _ e) s.heap.objs.size (Nat.ne_of_gt hlt.1) (Nat.ne_of_gt hlt.2) (.ref s.heap.objs.size) 0 hS
    (fun h' tk acc c' hk e hi => ⟨rfl, h', tk, acc, c', rfl, fun b o q => hk b o (Nat.ne_of_lt (Heap.lt_size q)) (Heap.get?_push_of_some _ q), e, hi⟩) hn) (fun fin s' h => ?_) (fun e s' h => ?_)
  · cases fin with
    | done f =>
      obtain ⟨e, h', tk, acc, c', rfl, hk, hS', hi⟩ := h
      cases e
      show wpAny _ A (load s.heap.objs.size >>= _) _ _ _
      exact wpAny_bind (wpAny_load hS' (wpAny_pure (hQ h' tk acc hk hi)))
    | again c' =>
      refine ⟨h.1, codeAny_mono h.2 fun rr s'' hr' => ?_⟩
      obtain ⟨rfl, h', tk, acc, c', rfl, hk, hS', hi⟩ := hr'
      show wpAny _ A (load s.heap.objs.size >>= _) _ _ _
      exact wpAny_bind (wpAny_load hS' (wpAny_pure (hQ h' tk acc hk hi)))
  · exact absurd h.1 (by simp)
theorem code_tuple_kdl {Q₁ : Value → Shared → Prop} (K : PySem.W.KdlSrc prog w Ty r d n P OK) (hh : A.handled = none) (hok : OK s.heap) (hn : n ≤ sizeLine)
    (h : ∀ (h' : Heap) (tk : Nat) (acc : Array Value), (∀ b o, s.heap.get? b = some o → h'.get? b = some o) → ItemsOf P acc n →
      Q₁ (.ref h'.objs.size) { s with heap := h'.push { cls := .type "tuple", data := .seq acc }, toks := tk }) :
    codeAny (model prog w) A (.call (.builtin "tuple.__new__") ⟨[.type "tuple", .ref r], []⟩) (wants Q₁ E) s := by
  refine codeAny_of_tree ?_
  show wpAny _ A.in1 (do checkBuiltinCall "tuple.__new__" ⟨[.type "tuple", .ref r], []⟩; again (.builtin "tuple.__new__" ⟨[.type "tuple", .ref r], []⟩)) _ _ s
  refine wpAny_bind (wpAny_of_eq (F.newCall_tuple_1 _) (wpAny_pure ⟨plainId_quiet F.plain_tuple_new _, codeAny_builtin F.entry_tuple_new ?_⟩))
  rw [Around.under_plainId F.plain_tuple_new _]
  have hsub := sub_tuple_self
  have hinit := init_tuple_lookup
  have hmh := madeHere_tuple
  have hTI : s.TypeIs (.ref r) Ty := K.type s hok
  have hnt := K.notTuple
  have hh1 : A.in1.handled = none := hh
  wp_walk using wpAny_typeOf hTI, collect_kdl (A := A.in1) K hh1 hok hn
  · intro h' tk acc hk hacc
    show wpAny _ _ (Builtin.Tuple.tupleExact acc.toList.toArray >>= fun v => ret v) _ _ _
    unfold Builtin.Tuple.tupleExact
    refine wpAny_bind (wpAny_newObj_type ?_ (by show acc.toList.toArray.size ≤ sizeLine; simp only [Array.toArray_toList]; rw [hacc.1]; exact hn))
    refine wpAny_pure ?_
    have e : acc.toList.toArray = acc := by simp
    rw [e]
    exact h h' tk acc hk hacc
theorem call_tuple_kdl {Q : Value → Shared → Prop} (K : PySem.W.KdlSrc prog w Ty r d n P OK) (hh : A.handled = none) (hok : OK s.heap) (hn : n ≤ sizeLine)
    (hQ : ∀ (h' : Heap) (tk : Nat) (acc : Array Value), (∀ b o, s.heap.get? b = some o → h'.get? b = some o) → ItemsOf P acc n →
      Q (.ref h'.objs.size) { s with heap := h'.push { cls := .type "tuple", data := .seq acc }, toks := tk }) :
    wpAny (model prog w) A (call (.type "tuple") [.ref r]) Q E s := by
  refine callType_codes (Q₁ := fun obj s₁ => s₁.TypeIs obj "tuple" ∧ Q obj s₁) F.called_tuple (F.typeCall_tuple_1 _) F.entry_object_init
    (code_tuple_kdl (A := A.in1) K hh hok hn fun h' tk acc hk hacc => ⟨⟨_, Heap.get?_push_size _ rfl, rfl⟩, hQ h' tk acc hk hacc⟩) fun obj s₁ h₁ => ?_
  exact ⟨h₁.1, F.args_object_init_2 obj _, object_init_meets F.called_tuple.init.lookup F.called_tuple.made (by decide) prog w A.in1 _ s₁ ⟨h₁.1, rfl, h₁.2⟩⟩
end
end Mi
end

section
set_option maxRecDepth 100000
/-! MiDic2: dicts by values: what is found, what is put. -/
namespace Mi
open PySem PySem.Spec PyProof.Rows L2
theorem keq_kd (a b : Key) : keqD (kd a) (kd b) = decide (a = b) := by
  cases a <;> cases b <;> simp [kd, keqD, keq1]
theorem keyD_kd {d : PyData} (h : keyD d = true) : ∃ k : Key, d = kd k := by
  cases d with
  | int i => exact ⟨.inl i, rfl⟩
  | str x => exact ⟨.inr x, rfl⟩
  | _ => cases h
theorem keyD_of (k : Key) : keyD (kd k) = true := by cases k <;> rfl
section
variable {K : PySem.W.Frag} {H : Hp} {B : Addr → Prop}
theorem rv_kd {u : V} {k : Key} (h : Rv K H B u (kd k)) : u = kV k := by
  cases k with
  | inl i => cases h; rfl
  | inr x => cases h; rfl
theorem rv_of_kd (k : Key) : Rv K H B (kV k) (kd k) := by
  cases k with
  | inl i => exact .int i
  | inr x => exact .str x
theorem rq_kd {u : V} {k : Key} (h : Rq K H B u (kd k)) : u = kV k := by
  cases k with
  | inl i => exact h
  | inr x => exact h
theorem RvKv.look : ∀ {ks : List (Key × V)} {kvs : List (PyData × PyData)}, RvKv K H B ks kvs → ∀ k : Key, (lookD kvs (kd k) = none ∧ valV ks k = none) ∨ ∃ d v, lookD kvs (kd k) = some d ∧ valV ks k = some v ∧ Rv K H B v d
  | _, _, .nil, k => .inl ⟨rfl, rfl⟩
  | _, _, .cons (k := k') (v := v) (d := d) (ks := ks) (kvs := kvs) h t, k => by
    rw [lookD, keq_kd]
    by_cases e : k' = k
    · rw [if_pos (decide_eq_true e), valV_pos (p := (k', v)) e]
      exact .inr ⟨d, v, rfl, rfl, h⟩
    · rw [if_neg (by simp [e]), valV_neg (p := (k', v)) e]
      exact RvKv.look t k
theorem RvKv.any : ∀ {ks : List (Key × V)} {kvs : List (PyData × PyData)}, RvKv K H B ks kvs → ∀ k : Key, (kvs.any fun p => keqD p.1 (kd k)) = ks.any fun kv => decide (kv.1 = k)
  | _, _, .nil, k => rfl
  | _, _, .cons h t, k => by rw [List.any_cons, List.any_cons, keq_kd, RvKv.any t k]
theorem RvKv.map : ∀ {ks : List (Key × V)} {kvs : List (PyData × PyData)}, RvKv K H B ks kvs → ∀ (k : Key) {v : V} {d : PyData}, Rv K H B v d → RvKv K H B (ks.map fun kv => if kv.1 = k then (kv.1, v) else kv) (kvs.map fun p => if keqD p.1 (kd k) then (p.1, d) else p)
  | _, _, .nil, k, _, _, _ => .nil
  | _, _, .cons (k := k') h t, k, _, _, r => by
    rw [List.map_cons, List.map_cons]
    simp only [keq_kd]
    by_cases e : k' = k
    · rw [if_pos e, if_pos (decide_eq_true e)]
      have := RvKv.map t k r
      exact .cons r this
    · rw [if_neg e, if_neg (by simp [e])]
      exact .cons h (RvKv.map t k r)
theorem RvKv.snoc : ∀ {ks : List (Key × V)} {kvs : List (PyData × PyData)}, RvKv K H B ks kvs → ∀ (k : Key) {v : V} {d : PyData}, Rv K H B v d → RvKv K H B (ks ++ [(k, v)]) (kvs ++ [(kd k, d)])
  | _, _, .nil, k, _, _, r => .cons r .nil
  | _, _, .cons h t, k, _, _, r => .cons h (RvKv.snoc t k r)
theorem RvKv.put {ks : List (Key × V)} {kvs : List (PyData × PyData)} (h : RvKv K H B ks kvs) (k : Key) {v : V} {d : PyData} (r : Rv K H B v d) : RvKv K H B (putK ks k v) (putD kvs (kd k) d) := by
  unfold putK putD
  rw [h.any k]
  split
  · exact h.map k r
  · exact h.snoc k r
theorem RvKv.merge : ∀ {more : List (Key × V)} {mores : List (PyData × PyData)}, RvKv K H B more mores → ∀ {ks : List (Key × V)} {kvs : List (PyData × PyData)}, RvKv K H B ks kvs → RvKv K H B (mergeK ks more) (mergeD kvs mores)
  | _, _, .nil, _, _, h => h
  | _, _, .cons (k := k) r t, _, _, h => RvKv.merge t (h.put k r)
theorem RvKv.keys : ∀ {ks : List (Key × V)} {kvs : List (PyData × PyData)}, RvKv K H B ks kvs → RvAll K H B (ks.map fun kv => kV kv.1) (kvs.map (·.1))
  | _, _, .nil => .nil
  | _, _, .cons (k := k) _ t => .cons (rv_of_kd k) (RvKv.keys t)
theorem RvKv.vals : ∀ {ks : List (Key × V)} {kvs : List (PyData × PyData)}, RvKv K H B ks kvs → RvAll K H B (ks.map (·.2)) (kvs.map (·.2))
  | _, _, .nil => .nil
  | _, _, .cons r t => .cons r (RvKv.vals t)
theorem RvKv.get : ∀ {ks : List (Key × V)} {kvs : List (PyData × PyData)}, RvKv K H B ks kvs → ∀ {i : Nat} {p : PyData × PyData}, kvs[i]? = some p → ∃ (k : Key) (v : V), ks[i]? = some (k, v) ∧ p.1 = kd k ∧ Rv K H B v p.2
  | _, _, .nil, i, p, h => by simp at h
  | _, _, .cons (k := k) (v := v) r t, 0, p, h => by
    have := Option.some.inj h
    subst this
    exact ⟨k, v, rfl, rfl, r⟩
  | _, _, .cons r t, i + 1, p, h => RvKv.get t (i := i) h
/-- a dict that stays: its keys are ints and texts -/
theorem Rv.dicK {u : V} {kvs : List (PyData × PyData)} (h : Rv K H B u (.dict kvs)) (hk : kindT kvs = false) : ∃ a ks, u = .ref a ∧ DicO H a (.dK ks) ∧ ¬ B a ∧ RvKv K H B ks kvs := by
  cases h with
  | dK e n r => exact ⟨_, _, rfl, e, n, r⟩
theorem DicO.rd {a : Addr} {u : HO} (h : DicO H a u) : Rd H a u := by obtain ⟨o, e⟩ := h; exact .inr ⟨o, e⟩
end
section
variable {K : PySem.W.Frag} {Z μ : List Addr} {s : Sto} {H : Hp}
/-- a dict as it is asked -/
theorem rdK_ok {u : V} {x : Xv} {t : Bool} {kvs : List (PyData × PyData)} (st : StOk K Z μ s H) (xo : XvOk K Z μ s H u x) (h : rdK s x = some (t, kvs)) (ht : t = false) : ∃ a ks, u = .ref a ∧ Rd H a (.dK ks) ∧ RvKv K H (Bz μ s Z) ks kvs := by
  subst ht
  cases x with
  | v d =>
    cases d with
    | dict kv =>
      simp only [rdK, Option.some.injEq, Prod.mk.injEq] at h
      obtain ⟨h1, rfl⟩ := h
      obtain ⟨a, ks, rfl, e, _, r⟩ := Rv.dicK (show Rv K H (Bz μ s Z) u (.dict kv) from xo) h1
      exact ⟨a, ks, rfl, e.rd, r⟩
    | _ => cases h
  | c n =>
    obtain ⟨a, e1, rfl⟩ := xo
    simp only [rdK] at h
    cases q : s[n]? with
    | none => rw [q] at h; cases h
    | some c =>
      have hc := st.cell n a c e1 q
      rw [q] at h
      cases c with
      | lst xs => cases h
      | frz d => cases h
      | dic t kv =>
        simp only [Option.some.injEq, Prod.mk.injEq] at h
        obtain ⟨rfl, rfl⟩ := h
        obtain ⟨ks, e2, r⟩ := hc
        exact ⟨a, ks, rfl, .inl e2, r⟩
  | w ns => cases h
theorem isK_ok {u : V} {x : Xv} (st : StOk K Z μ s H) (xo : XvOk K Z μ s H u x) (h : isK x s = true) : ∃ a, u = .ref a ∧ IsD H a := by
  unfold isK at h
  obtain ⟨⟨t, kvs⟩, e⟩ := Option.isSome_iff_exists.mp h
  cases t with
  | false =>
    obtain ⟨a, ks, rfl, r, _⟩ := rdK_ok st xo e rfl
    exact ⟨a, rfl, .inl ⟨ks, r⟩⟩
  | true =>
    cases x with
    | v d =>
      cases d with
      | dict kv =>
        have xo : Rv K H (Bz μ s Z) u (.dict kv) := xo
        cases xo with
        | dK e n r => exact ⟨_, rfl, .inl ⟨_, e.rd⟩⟩
      | _ => cases e
    | c n =>
      obtain ⟨a, e1, rfl⟩ := xo
      simp only [rdK] at e
      cases q : s[n]? with
      | none => rw [q] at e; cases e
      | some c =>
        have hc := st.cell n a c e1 q
        rw [q] at e
        cases c with
        | lst xs => cases e
        | frz d => cases e
        | dic t kv =>
          simp only [Option.some.injEq, Prod.mk.injEq] at e
          obtain ⟨rfl, rfl⟩ := e
          exact absurd hc fun z => z
    | w ns => cases e
/-- what is found -/
theorem dget_ok {u y : V} {x : Xv} {t : Bool} {kvs : List (PyData × PyData)} {k : PyData} (st : StOk K Z μ s H) (xo : XvOk K Z μ s H u x) (h : rdK s x = some (t, kvs)) (hk : keyOk t k = true) (q : Rq K H (Bz μ s Z) y k) :
    ∃ a, u = .ref a ∧ ((lookD kvs k = none ∧ DGet H a y none) ∨ ∃ d v, lookD kvs k = some d ∧ DGet H a y (some v) ∧ Rv K H (Bz μ s Z) v d) := by
  unfold keyOk at hk
  rw [Bool.and_eq_true, Bool.not_eq_true'] at hk
  obtain ⟨a, ks, rfl, e, r⟩ := rdK_ok st xo h hk.1
  obtain ⟨kk, rfl⟩ := keyD_kd hk.2
  have ey := rq_kd q
  refine ⟨a, rfl, ?_⟩
  rcases r.look kk with ⟨h1, h2⟩ | ⟨d, v, h1, h2, rv⟩
  · exact .inl ⟨h1, .inl ⟨ks, kk, e, ey, h2.symm⟩⟩
  · exact .inr ⟨d, v, h1, .inl ⟨ks, kk, e, ey, h2.symm⟩, rv⟩
end
section
variable {X : Cx}
theorem ix_dic (hu : X.A.units + 1 < cLine) : IxR X (fun x y H Q => ∃ a v, x = .ref a ∧ DGet H a y (some v) ∧ Q v H) := by
  intro value slice pins s σ H x y v u Q I rx ry h hs
  obtain ⟨a, r, rfl, g, q⟩ := h
  obtain rfl : v = Value.ref a := rx
  exact tail_any (dict_typeIs I g) slot_dict_getitem.lookup (d_getItem hu I g ry fun w' s' I' rw' => ⟨r, H, I', rw', q⟩) hs
end
end Mi
end

section
set_option maxRecDepth 100000
/-! MiVal2: comparisons, places, slices, built-in functions by values. -/
namespace Mi
open PySem PySem.Spec PyProof.Rows L2
section
variable {T : Tb} {W : WX} {X : Cx}

/-! ### comparisons -/
theorem op_inT (hu : X.A.units + 65 < cLine) {pins : List (Addr × Obj)} {s : Shared} {σ : L2.St} {H : Hp} {x y : V} {v u : Value} {Q : VK} {d : PyData} {ds : List PyData} (I : Inv X pins σ H s) (rx : RelV x v) (ry : RelV y u)
    (hd : Dp X.K H x d) (he : Dp X.K H y (.tuple ds)) (sd : SeqAt.shaped d = true) (se : SeqAt.shaped (.tuple ds) = true) (q : Q (.bl (ds.any fun z => PyData.eqv z d)) H) : wpAny (model X.prog X.w) X.A (compareOp .In v u) (EP X pins σ Q) X.xe s := by
  obtain ⟨as, r1⟩ := Dp.reads I d x v hd rx
  obtain ⟨bs, r2⟩ := Dp.reads I (.tuple ds) y u he ry
  exact SeqAt.in_tuple_reads r2 r1 (SeqAt.canLay_of_shaped se) (SeqAt.canLay_of_shaped sd) (room_in_shaped sd hu) ⟨.bl _, H, I, rfl, q⟩
theorem op_notInT (hu : X.A.units + 65 < cLine) {pins : List (Addr × Obj)} {s : Shared} {σ : L2.St} {H : Hp} {x y : V} {v u : Value} {Q : VK} {d : PyData} {ds : List PyData} (I : Inv X pins σ H s) (rx : RelV x v) (ry : RelV y u)
    (hd : Dp X.K H x d) (he : Dp X.K H y (.tuple ds)) (sd : SeqAt.shaped d = true) (se : SeqAt.shaped (.tuple ds) = true) (q : Q (.bl (!ds.any fun z => PyData.eqv z d)) H) : wpAny (model X.prog X.w) X.A (compareOp .NotIn v u) (EP X pins σ Q) X.xe s := by
  obtain ⟨as, r1⟩ := Dp.reads I d x v hd rx
  obtain ⟨bs, r2⟩ := Dp.reads I (.tuple ds) y u he ry
  exact SeqAt.notIn_tuple_reads r2 r1 (SeqAt.canLay_of_shaped se) (SeqAt.canLay_of_shaped sd) (room_in_shaped sd hu) ⟨.bl _, H, I, rfl, q⟩
theorem shaped_depth {d : PyData} (h : SeqAt.shaped d = true) : d.depth ≤ 64 := by
  unfold SeqAt.shaped at h
  rw [Bool.and_eq_true, decide_eq_true_eq] at h
  exact h.2
theorem str1 {z : Str} {c : Nat} (h : z.cps.toList = [c]) : z = ⟨#[c]⟩ := by
  cases z with
  | mk a =>
    have : a = #[c] := by
      apply Array.toList_inj.mp
      exact h
    rw [this]

theorem op_cmpX (hK : T.K = X.K) (hu : X.A.units + 65 < cLine) (op : CmpOp) : OpR X (compareOp op) (r2X T W (cmpX op)) := by
  intro pins s σ H x y v u Q I rx ry h
  obtain ⟨σ', Z, μ, t, a, b, st, xa, yb, po⟩ := h
  have inK_ok : Po T W σ' Z μ t H (inK op a b t) (XOk T Z) Q → wpAny (model X.prog X.w) X.A (compareOp op v u) (EP X pins σ Q) X.xe s := fun po => by
    unfold inK at po
    split at po
    · rename_i k tt kvs ea eb
      split at po
      · rename_i hk
        obtain ⟨p, rfl, hg⟩ := dget_ok st yb eb hk (rd_rq st xa ea)
        obtain rfl : u = Value.ref p := ry
        have hg' : ∃ o, DGet H p x o ∧ o.isSome = (lookD kvs k).isSome := by
          rcases hg with ⟨e1, g⟩ | ⟨d, w, e1, g, _⟩
          · exact ⟨none, g, by rw [e1]; rfl⟩
          · exact ⟨some w, g, by rw [e1]; rfl⟩
        obtain ⟨o, g, eo⟩ := hg'
        split at po
        · refine d_in (by omega) I g rx fun s' I' => ⟨.bl o.isSome, H, I', rfl, ?_⟩
          rw [eo]
          exact po.here st (.bl _)
        · refine d_notIn (by omega) I g rx fun s' I' => ⟨.bl (!o.isSome), H, I', rfl, ?_⟩
          rw [eo]
          exact po.here st (.bl _)
        · exact absurd po fun z => z
      · exact absurd po fun z => z
    · exact absurd po fun z => z
  unfold cmpX at po
  cases ea : rd t a with
  | none => rw [ea] at po; exact inK_ok po
  | some d =>
  cases eb : rd t b with
  | none => rw [ea, eb] at po; exact inK_ok po
  | some e =>
  have qa := rd_rq st xa ea
  have qb := rd_rq st yb eb
  rw [ea, eb] at po
  simp only at po
  cases eC : cmpD op d e with
  | none => rw [eC] at po; exact absurd po (fun z => z)
  | some k =>
  rw [eC] at po
  simp only at po
  have fin : Q (.bl k) H := po.here st (.bl k)
  have dpa : okD d = true → Dp X.K H x d := fun h => by rw [← hK]; exact qa.dp (okD_lay h)
  have dpb : okD e = true → Dp X.K H y e := fun h => by rw [← hK]; exact qb.dp (okD_lay h)
  unfold cmpD at eC
  cases op with
  | Eq =>
    simp only at eC
    split at eC
    · rename_i hz
      rw [Bool.and_eq_true] at hz
      have e1 := Option.some.inj eC
      subst e1
      exact op_eqD (by omega) pins s σ H _ _ v u Q I rx ry ⟨d, e, dpa hz.1, dpb hz.2, hz.1, hz.2, fin⟩
    · cases eC
  | NotEq =>
    simp only at eC
    split at eC
    · rename_i hz
      rw [Bool.and_eq_true] at hz
      have e1 := Option.some.inj eC
      subst e1
      exact op_neD (by omega) pins s σ H _ _ v u Q I rx ry ⟨d, e, dpa hz.1, dpb hz.2, hz.1, hz.2, fin⟩
    · cases eC
  | Lt =>
    simp only at eC
    unfold ltD at eC
    split at eC
    · cases qa; cases qb
      have e1 := Option.some.inj eC
      subst e1
      exact op_lt pins s σ H _ _ v u Q I rx ry ⟨_, _, rfl, rfl, fin⟩
    · cases qa; cases qb
      have e1 := Option.some.inj eC
      subst e1
      exact op_lt_str pins s σ H _ _ v u Q I rx ry ⟨_, _, rfl, rfl, fin⟩
    · rename_i xs ys
      split at eC
      · rename_i hz
        rw [Bool.and_eq_true, Bool.and_eq_true] at hz
        have e1 := Option.some.inj eC
        subst e1
        obtain ⟨as, r1⟩ := Dp.reads I _ x v (dpa hz.1.1) rx
        obtain ⟨bs, r2⟩ := Dp.reads I _ y u (dpb hz.1.2) ry
        have hd := shaped_depth hz.1.1
        exact PySem.W.rcLt_alike _ _ X.A s v u as bs r1 r2 hz.2 (fun z => nomatch z) (by omega) _ _ _ _ ⟨.bl _, H, I, rfl, fin⟩
      · cases eC
    · cases eC
  | LtE =>
    simp only at eC
    split at eC
    · cases qa; cases qb
      have e1 := Option.some.inj eC
      subst e1
      exact op_le pins s σ H _ _ v u Q I rx ry ⟨_, _, rfl, rfl, fin⟩
    · cases eC
  | Gt =>
    simp only at eC
    split at eC
    · cases qa; cases qb
      have e1 := Option.some.inj eC
      subst e1
      exact op_gt pins s σ H _ _ v u Q I rx ry ⟨_, _, rfl, rfl, fin⟩
    · cases eC
  | GtE =>
    simp only at eC
    split at eC
    · cases qa; cases qb
      have e1 := Option.some.inj eC
      subst e1
      exact op_ge pins s σ H _ _ v u Q I rx ry ⟨_, _, rfl, rfl, fin⟩
    · cases eC
  | Is =>
    simp only at eC
    split at eC
    · cases qb
      have e1 := Option.some.inj eC
      refine op_isN pins s σ H _ _ v u Q I rx ry ⟨rfl, ?_⟩
      have e2 : decide (x = V.non) = k := by
        rw [← e1]
        cases d with
        | none => cases qa; rfl
        | bool b => cases qa; rfl
        | int i => cases qa; rfl
        | str z => cases qa; rfl
        | list ds => obtain ⟨p, vs, rfl, _⟩ := qa; rfl
        | tuple ds => obtain ⟨p, vs, rfl, _⟩ := qa; rfl
        | dict kvs => cases (show Rv T.K H (Bz μ t Z) x (.dict kvs) from qa) <;> rfl
      rw [e2]
      exact fin
    · cases eC
  | IsNot =>
    simp only at eC
    split at eC
    · cases qb
      have e1 := Option.some.inj eC
      refine op_notN pins s σ H _ _ v u Q I rx ry ⟨rfl, ?_⟩
      have e2 : (!decide (x = V.non)) = k := by
        rw [← e1]
        cases d with
        | none => cases qa; rfl
        | bool b => cases qa; rfl
        | int i => cases qa; rfl
        | str z => cases qa; rfl
        | list ds => obtain ⟨p, vs, rfl, _⟩ := qa; rfl
        | tuple ds => obtain ⟨p, vs, rfl, _⟩ := qa; rfl
        | dict kvs => cases (show Rv T.K H (Bz μ t Z) x (.dict kvs) from qa) <;> rfl
      rw [e2]
      exact fin
    · cases eC
  | In =>
    simp only at eC
    unfold inD at eC
    split at eC
    · split at eC
      · rename_i hz
        rw [Bool.and_eq_true] at hz
        have e1 := Option.some.inj eC
        subst e1
        exact op_inD hu pins s σ H _ _ v u Q I rx ry ⟨d, _, dpa hz.1, dpb hz.2, hz.1, hz.2, fin⟩
      · cases eC
    · split at eC
      · rename_i hz
        rw [Bool.and_eq_true] at hz
        have e1 := Option.some.inj eC
        subst e1
        exact op_inT hu I rx ry (dpa hz.1) (dpb hz.2) hz.1 hz.2 fin
      · cases eC
    · split at eC
      · split at eC
        · rename_i hc
          cases qa; cases qb
          have e1 := Option.some.inj eC
          subst e1
          exact op_in_sign pins s σ H _ _ v u Q I rx ry ⟨_, _, by rw [str1 hc], rfl, fin⟩
        · cases eC
      · cases eC
    · split at eC
      · rename_i kvs hk
        have yb' : XvOk T.K Z μ t H y (.v (.dict kvs)) := qb
        obtain ⟨p, rfl, hg⟩ := dget_ok st yb' (rfl : rdK t (.v (.dict kvs)) = some (kindT kvs, kvs)) hk qa
        obtain rfl : u = Value.ref p := ry
        have hg' : ∃ o, DGet H p x o ∧ o.isSome = (lookD kvs d).isSome := by
          rcases hg with ⟨e1, g⟩ | ⟨d', w, e1, g, _⟩
          · exact ⟨none, g, by rw [e1]; rfl⟩
          · exact ⟨some w, g, by rw [e1]; rfl⟩
        obtain ⟨o, g, eo⟩ := hg'
        have e1 := Option.some.inj eC
        subst e1
        refine d_in (by omega) I g rx fun s' I' => ⟨.bl (o.isSome), H, I', rfl, ?_⟩
        rw [eo]
        exact fin
      · cases eC
    · cases eC
  | NotIn =>
    simp only at eC
    cases eI : inD d e with
    | none => rw [eI] at eC; cases eC
    | some k' =>
    rw [eI] at eC
    have e0 : (!k') = k := Option.some.inj eC
    subst e0
    unfold inD at eI
    split at eI
    · split at eI
      · rename_i hz
        rw [Bool.and_eq_true] at hz
        have e1 := Option.some.inj eI
        subst e1
        exact op_notInD hu pins s σ H _ _ v u Q I rx ry ⟨d, _, dpa hz.1, dpb hz.2, hz.1, hz.2, fin⟩
      · cases eI
    · split at eI
      · rename_i hz
        rw [Bool.and_eq_true] at hz
        have e1 := Option.some.inj eI
        subst e1
        exact op_notInT hu I rx ry (dpa hz.1) (dpb hz.2) hz.1 hz.2 fin
      · cases eI
    · split at eI
      · split at eI
        · rename_i hc
          cases qa; cases qb
          have e1 := Option.some.inj eI
          subst e1
          exact op_notIn_sign pins s σ H _ _ v u Q I rx ry ⟨_, _, by rw [str1 hc], rfl, fin⟩
        · cases eI
      · cases eI
    · split at eI
      · rename_i kvs hk
        have yb' : XvOk T.K Z μ t H y (.v (.dict kvs)) := qb
        obtain ⟨p, rfl, hg⟩ := dget_ok st yb' (rfl : rdK t (.v (.dict kvs)) = some (kindT kvs, kvs)) hk qa
        obtain rfl : u = Value.ref p := ry
        have hg' : ∃ o, DGet H p x o ∧ o.isSome = (lookD kvs d).isSome := by
          rcases hg with ⟨e1, g⟩ | ⟨d', w, e1, g, _⟩
          · exact ⟨none, g, by rw [e1]; rfl⟩
          · exact ⟨some w, g, by rw [e1]; rfl⟩
        obtain ⟨o, g, eo⟩ := hg'
        have e1 := Option.some.inj eI
        subst e1
        refine d_notIn (by omega) I g rx fun s' I' => ⟨.bl (!o.isSome), H, I', rfl, ?_⟩
        rw [eo]
        exact fin
      · cases eI
    · cases eI

/-! ### -a -/
theorem un_negX : UnR X (unaryOp .USub) (r1X T W negX) := by
  intro pins s σ H x v Q I rx h
  obtain ⟨σ', Z, μ, t, a, st, xa, po⟩ := h
  unfold negX at po
  split at po
  · have xa : Rv T.K H (Bz μ t Z) x (.int _) := xa
    cases xa
    exact un_neg pins s σ H _ v Q I rx ⟨_, rfl, po.here st (.int _)⟩
  · exact absurd po (fun z => z)

/-! ### places -/
theorem RvAll.atI {K : PySem.W.Frag} {H : Hp} {B : Addr → Prop} {vs : List V} {ds : List PyData} {i : Int} {d : PyData} (h : RvAll K H B vs ds) (e : L2.atI ds i = some d) : ∃ v, L2.atI vs i = some v ∧ Rv K H B v d := by
  unfold L2.atI at e ⊢
  rw [h.length]
  cases q : ixN ds.length i with
  | none => rw [q] at e; cases e
  | some j =>
    rw [q] at e
    exact h.get (i := j) e
theorem atI_map {α β : Type} (f : α → β) {xs : List α} {i : Int} {x : α} (e : L2.atI xs i = some x) : L2.atI (xs.map f) i = some (f x) := by
  unfold L2.atI at e ⊢
  rw [List.length_map]
  cases q : ixN xs.length i with
  | none => rw [q] at e; cases e
  | some j =>
    rw [q] at e
    have e' : xs[j]? = some x := e
    show (xs.map f)[j]? = some (f x)
    rw [List.getElem?_map, e']
    rfl
theorem XvOk.wSq {Z μ : List Addr} {t : Sto} {H : Hp} {x : V} {ns : List Int} (hK : T.K = X.K) (h : XvOk T.K Z μ t H x (.w ns)) : ∃ a, x = .ref a ∧ SqL X.K H a (ns.map V.int) := by
  obtain ⟨a, e, r⟩ := h
  refine ⟨a, e, ?_⟩
  rw [← hK]
  rcases r with ⟨r, _⟩ | r
  · exact .inl r
  · exact .inr r
theorem ix_subX (hK : T.K = X.K) (hu : X.A.units + 65 < cLine) : IxR X (r2X T W subX) := by
  intro value slice pins s σ H x y v u Q I rx ry h hs
  obtain ⟨σ', Z, μ, t, a, b, st, xa, yb, po⟩ := h
  unfold subX at po
  split at po
  · rename_i d e ea eb
    have qa := rd_rq st xa ea
    have qb := rd_rq st yb eb
    cases eC : ixD d e with
    | none => rw [eC] at po; exact absurd po (fun z => z)
    | some k =>
    rw [eC] at po
    simp only at po
    unfold ixD at eC
    split at eC
    · rename_i _ kvs
      split at eC
      · rename_i hk
        have xa' : XvOk T.K Z μ t H x (.v (.dict kvs)) := qa
        obtain ⟨p, rfl, hg⟩ := dget_ok st xa' (rfl : rdK t (.v (.dict kvs)) = some (kindT kvs, kvs)) hk qb
        rcases hg with ⟨e1, _⟩ | ⟨d', w, e1, g, rv⟩
        · rw [e1] at eC; cases eC
        · rw [e1] at eC
          cases Option.some.inj eC
          exact ix_dic (by omega) value slice pins s σ H _ _ v u Q I rx ry ⟨p, w, rfl, g, po.here st rv⟩ hs
      · cases eC
    · obtain ⟨p, vs, rfl, e1, r⟩ := qa
      cases qb
      obtain ⟨w, ew, rw_⟩ := r.atI eC
      exact ix_list value slice pins s σ H _ _ v u Q I rx ry ⟨p, vs, _, w, rfl, rfl, .inl (.inl e1), ew, po.here st rw_⟩ hs
    · obtain ⟨p, vs, rfl, e1, r⟩ := qa
      cases qb
      obtain ⟨w, ew, rw_⟩ := r.atI eC
      rw [hK] at e1
      exact ix_tup value slice pins s σ H _ _ v u Q I rx ry ⟨p, vs, _, w, rfl, rfl, e1, ew, po.here st rw_⟩ hs
    · cases qa; cases qb
      split at eC
      · rename_i hz
        cases q : L2.atI (_ : List Nat) _ with
        | none => rw [q] at eC; cases eC
        | some c =>
          rw [q] at eC
          have e1 := Option.some.inj eC
          subst e1
          exact ix_str value slice pins s σ H _ _ v u Q I rx ry ⟨_, _, c, rfl, rfl, szOk_le hz, q, po.here st (.str _)⟩ hs
      · cases eC
    · cases eC
  · split at po
    · rename_i ns i hno
      have yb : Rv T.K H (Bz μ t Z) y (.int i) := yb
      cases yb
      cases q : L2.atI ns i with
      | none => rw [q] at po; exact absurd po (fun z => z)
      | some n =>
        rw [q] at po
        simp only at po
        obtain ⟨p, rfl, hs'⟩ := xa.wSq hK
        exact ix_list value slice pins s σ H _ _ v u Q I rx ry ⟨p, _, i, .int n, rfl, rfl, hs', atI_map V.int q, po.here st (.int n)⟩ hs
    · unfold subK at po
      split at po
      · rename_i tt kvs k ea eb
        split at po
        · rename_i hk
          obtain ⟨p, rfl, hg⟩ := dget_ok st xa ea hk (rd_rq st yb eb)
          rcases hg with ⟨e1, _⟩ | ⟨d', w, e1, g, rv⟩
          · rw [e1] at po; exact absurd po fun z => z
          · rw [e1] at po
            exact ix_dic (by omega) value slice pins s σ H _ _ v u Q I rx ry ⟨p, w, rfl, g, Po.here (T := T) (W := W) (σ := σ') po st rv⟩ hs
        · exact absurd po fun z => z
      · exact absurd po fun z => z
    · exact absurd po (fun z => z)

/-! ### slices -/
theorem RvAll.cut {K : PySem.W.Frag} {H : Hp} {B : Addr → Prop} {vs : List V} {ds : List PyData} (h : RvAll K H B vs ds) (lo hi : Option Int) : RvAll K H B (cutV vs lo hi) (cutD ds lo hi) := by
  unfold cutV cutD
  rw [h.length]
  exact (h.drop _).take _
theorem cut_map {α β : Type} (f : α → β) (xs : List α) (lo hi : Option Int) : cutD (xs.map f) lo hi = (cutD xs lo hi).map f := by
  unfold cutD
  rw [List.length_map, List.map_take, List.map_drop]
theorem RvAll.ints {K : PySem.W.Frag} {H : Hp} {B : Addr → Prop} : ∀ ns : List Int, RvAll K H B (ns.map V.int) (ns.map PyData.int)
  | [] => .nil
  | n :: r => .cons (.int n) (RvAll.ints r)
theorem cutV_D (xs : List V) (lo hi : Option Int) : cutV xs lo hi = cutD xs lo hi := rfl
def rSlX (T : Tb) (W : WX) : V → Option Int → Option Int → Hp → VK → Prop := fun u lo hi H Q => ∃ σ Z μ s x, StOk T.K Z μ s H ∧ XvOk T.K Z μ s H u x ∧ Pf T W σ Z μ s H (sliceX x lo hi s) Q
theorem cut_whole {α : Type} {xs : List α} {lo hi : Option Int} (h : HT.sIx xs.length 0 lo = 0 ∧ HT.sIx xs.length xs.length hi = xs.length) : cutD xs lo hi = xs := by
  unfold cutD
  rw [h.1, h.2, List.drop_zero, Nat.sub_zero, List.take_length]
theorem sl_sliceX (hK : T.K = X.K) : SlR X (rSlX T W) := by
  intro pins s σ H x v vl vu lo hi sl Q I rx hs pl pu h
  obtain ⟨σ', Z, μ, t, a, st, xa, po⟩ := h
  unfold sliceX at po
  split at po
  · rename_i ns
    obtain ⟨p, rfl, hs'⟩ := xa.wSq hK
    refine sl_list pins s σ H _ v vl vu lo hi sl Q I rx hs pl pu ⟨p, _, rfl, hs', ?_⟩
    rw [cutV_D, cut_map]
    exact po.lstN st (RvAll.ints _)
  · split at po
    · rename_i ea
      obtain ⟨p, vs, rfl, e3, r⟩ := rd_rq st xa ea
      exact sl_list pins s σ H _ v vl vu lo hi sl Q I rx hs pl pu ⟨p, vs, rfl, .inl (.inl e3), po.lstN st (r.cut lo hi)⟩
    · rename_i xs ea
      obtain ⟨p, vs, rfl, e3, r⟩ := rd_rq st xa ea
      have rt := rd_tup st xa ea
      rw [hK] at e3
      refine sl_tupAN pins s σ H _ v vl vu lo hi sl Q I rx hs pl pu ⟨p, vs, rfl, e3, fun hw => ?_, fun _ => Po.tupN (T := T) (W := W) (σ := σ') po st (r.cut lo hi)⟩
      rw [r.length] at hw
      rw [cut_whole hw] at po
      exact Po.here (T := T) (W := W) (σ := σ') po st rt
    · rename_i z ea
      have q := rd_rq st xa ea
      cases q
      split at po
      · rename_i hz
        refine sl_str pins s σ H _ v vl vu lo hi sl Q I rx hs pl pu ⟨z, rfl, szOk_le hz, ?_⟩
        exact Po.here (T := T) (W := W) (σ := σ') po st (.str _)
      · exact absurd po fun z => z
    · exact absurd po (fun z => z)
end
end Mi
end

section
set_option maxRecDepth 100000
/-! MiDic3: dict(..), tuple(d), list(d), list(d.values()), len(d): rules. -/
namespace Mi
open PySem PySem.Spec PyProof.Rows L2
/-- wanted of a new dict that stays -/
def NewD (H : Hp) (ks : List (Key × V)) (Q : VK) : Prop := ∀ (p : Addr) (o : Obj), H p = none → Q (.ref p) (upd H p (.frz o (.dK ks)))
/-- a tuple whose object is known -/
def PlT (K : PySem.W.Frag) (H : Hp) (a : Addr) (xs : List V) : Prop := TupO H a xs ∨ WrT K a xs
section
variable {X : Cx}
theorem _root_.L2.Inv.tupP {pins : List (Addr × Obj)} {σ : L2.St} {H : Hp} {s : Shared} {a : Addr} {xs : List V} (I : Inv X pins σ H s) (h : PlT X.K H a xs) : ∃ its : List Value, Vals xs its ∧ PlainSeq "tuple" s.heap a its.toArray ∧ xs.length ≤ sizeLine := by
  rcases h with ⟨o, hd, e⟩ | ⟨o, its, n, h1, h2, h3, h4, h5, h6⟩
  · obtain ⟨ho, hz, its, r, o', ho', hc, n, hdat⟩ := I.hok a _ e
    rw [ho] at ho'
    cases Option.some.inj ho'
    exact ⟨its, r, ⟨o, n, ho, hc, hd, hdat⟩, hz⟩
  · refine ⟨its.toList, h6, ⟨o, n, I.kIn a o h1, h2, h3, by simpa using h4⟩, ?_⟩
    have e := h6.length
    simp only [Array.length_toList] at e
    omega
theorem _root_.L2.Inv.laidD {pins : List (Addr × Obj)} {σ : L2.St} {H : Hp} {s : Shared} {h' : Heap} {tk : Nat} {kvs : List (Key × V)} {vs : List (Key × Value)} (I : Inv X pins σ H s) (hz : kvs.length ≤ sizeLine) (rel : KV kvs vs)
    (hd : h'.DictOf (mixKind X.prog X.w) s.heap.objs.size vs) (k : ∀ b o, s.heap.get? b = some o → h'.get? b = some o) : ∃ o, Inv X pins σ (upd H s.heap.objs.size (.frz o (.dK kvs))) { s with heap := h', toks := tk } := by
  obtain ⟨o, es, ep, ho, hr⟩ := id hd
  have hm : (s.heap.objs.size == sysModules) = false := beq_eq_false_iff_ne.mpr (Nat.ne_of_gt I.big)
  exact ⟨o, I.laid (t' := tk) (o := .frz o (.dK kvs)) k (Nat.le_refl _) ⟨ho, hz, hm, vs, rel, hd⟩⟩
theorem refsP {us : List Value} {ps : List Addr} (r : Vals (ps.map V.ref) us) : us = ps.map Value.ref := refs_at r
theorem call_dictA (hcalm : X.calm = true) : CallR X (.type "dict") (fun xs H Q => ∃ (a : Addr) (ps : List Addr) (kvs : List (Key × V)), xs = [.ref a] ∧ (SqL X.K H a (ps.map V.ref) ∨ PlT X.K H a (ps.map V.ref)) ∧ Paired (fun p kv => SqT X.K H p [kV kv.1, kv.2]) ps kvs ∧
    NewD H (mergeK [] kvs) Q) := by
  intro pins s σ H xs us Q I r q
  obtain ⟨a, ps, kvs, ex, hq, hp, q⟩ := q
  subst ex
  obtain ⟨u, eu, rx⟩ := vals1 r
  subst eu
  cases rx
  obtain ⟨prs, rel, hl, hpr⟩ := pairs_of I hp
  have fin : ∀ (h' : Heap) (tk : Nat), ps.length ≤ sizeLine → h'.DictOf (mixKind X.prog X.w) s.heap.objs.size (merged [] prs) → (∀ b o, s.heap.get? b = some o → h'.get? b = some o) → EP X pins σ Q (.ref s.heap.objs.size) { s with heap := h', toks := tk } := fun h' tk hz hd' k => by
    have hlen : (mergeK [] kvs).length ≤ sizeLine := by
      refine Nat.le_trans (length_mergeK kvs []) ?_
      rw [List.length_nil, Nat.zero_add, rel.length, hl]
      exact hz
    obtain ⟨o, J⟩ := I.laidD (tk := tk) hlen (KV.merge rel .nil) hd' k
    exact ⟨.ref s.heap.objs.size, _, J, rfl, q _ o (I.hok.fresh (Nat.le_refl _))⟩
  rcases hq with hq | hq
  · obtain ⟨its, rv, pl, hz⟩ := I.list hq
    have ei := refs_at rv
    subst ei
    rw [List.length_map] at hz
    obtain ⟨o, n, ho, hc, hd, hdat⟩ := pl
    refine L2.call_dict_pairs (prs := prs) (I.ok.hd hcalm) ho hc hd hdat (by simp [hl]) (by rw [hl]; exact hz) (fun j q' e => ?_) fun h' tk hd' k => fin h' tk hz hd' k
    obtain ⟨b, u, e1, e2, e3⟩ := hpr j q' e
    exact ⟨b, u, by simp [e1], e2, e3⟩
  · obtain ⟨its, rv, pl, hz⟩ := I.tupP hq
    have ei := refs_at rv
    subst ei
    rw [List.length_map] at hz
    -- the pairs as values
    have key : ∀ j, j < prs.length → ∃ u, IsTup s.heap (ps.getD j 0) #[u, ((prs.map (·.2)).getD j .none)] ∧ (∃ kk, prs[j]? = some (kk, (prs.map (·.2)).getD j .none) ∧ keyIs kk u = true) ∧ ps[j]? = some (ps.getD j 0) := fun j hj => by
      obtain ⟨b, u, e1, e2, e3⟩ := hpr j prs[j] (List.getElem?_eq_getElem hj)
      have ep : ps.getD j 0 = b := by rw [List.getD_eq_getElem?_getD, e1]; rfl
      have ev : (prs.map (·.2)).getD j .none = prs[j].2 := by rw [List.getD_eq_getElem?_getD, List.getElem?_map, List.getElem?_eq_getElem hj]; rfl
      exact ⟨u, by rw [ep, ev]; exact e2, ⟨prs[j].1, by rw [ev]; exact List.getElem?_eq_getElem hj, e3⟩, by rw [ep]; exact e1⟩
    have hu : ∃ us : List Value, us.length = prs.length ∧ ∀ j (hj : j < prs.length), ∃ u, us[j]? = some u ∧ IsTup s.heap (ps.getD j 0) #[u, ((prs.map (·.2)).getD j .none)] ∧ (∃ kk, prs[j]? = some (kk, (prs.map (·.2)).getD j .none) ∧ keyIs kk u = true) ∧ ps[j]? = some (ps.getD j 0) := by
      have : ∀ n, n ≤ prs.length → ∃ us : List Value, us.length = n ∧ ∀ j (hj : j < n), ∃ u, us[j]? = some u ∧ IsTup s.heap (ps.getD j 0) #[u, ((prs.map (·.2)).getD j .none)] ∧ (∃ kk, prs[j]? = some (kk, (prs.map (·.2)).getD j .none) ∧ keyIs kk u = true) ∧ ps[j]? = some (ps.getD j 0) := by
        intro n
        induction n with
        | zero => exact fun _ => ⟨[], rfl, fun j hj => absurd hj (Nat.not_lt_zero _)⟩
        | succ n ih =>
          intro hn
          obtain ⟨us, hl, hs⟩ := ih (by omega)
          obtain ⟨u, hu⟩ := key n (by omega)
          refine ⟨us ++ [u], by simp [hl], fun j hj => ?_⟩
          by_cases e : j = n
          · subst e
            exact ⟨u, by rw [List.getElem?_append_right (by omega), hl]; simp, hu⟩
          · obtain ⟨u', e1, e2⟩ := hs j (by omega)
            exact ⟨u', by rw [List.getElem?_append_left (by omega)]; exact e1, e2⟩
      exact this _ (Nat.le_refl _)
    obtain ⟨us, hul, hus⟩ := hu
    have hps : (us.zip (prs.map (·.2))).length = prs.length := by simp [hul]
    refine PySem.call_dict_pairs (knd := mixKind X.prog X.w) (kvs := prs) (PairArg.tuple a _ (fun j => ps.getD j 0) (us.zip (prs.map (·.2)))) (I.ok.hd hcalm) ⟨pl, ?_, ?_⟩ ⟨by rw [hps], ?_⟩ (by rw [hps, hl]; exact hz) fun h' tk hd' k => fin h' tk hz hd' fun b o e => k b o (by simp) e
    · rw [hps, List.size_toArray, List.length_map, hl]
    · intro j kk v hj
      have hj' : j < prs.length := by rw [← hps]; exact (List.getElem?_eq_some_iff.mp hj).1
      obtain ⟨u, e1, e2, ⟨k', e3, e4⟩, e5⟩ := hus j hj'
      rw [List.getElem?_zip_eq_some, e1, List.getElem?_map, e3] at hj
      obtain ⟨h1, h2⟩ := hj
      cases Option.some.inj h1
      cases Option.some.inj h2
      exact ⟨by rw [List.getElem?_toArray, List.getElem?_map, e5]; rfl, .inl e2⟩
    · intro j kk v hj
      have hj' : j < prs.length := by rw [← hps]; exact (List.getElem?_eq_some_iff.mp hj).1
      obtain ⟨u, e1, e2, ⟨k', e3, e4⟩, e5⟩ := hus j hj'
      have hj : (us.zip (prs.map (·.2)))[j]? = some (kk, v) := hj
      rw [List.getElem?_zip_eq_some, e1, List.getElem?_map, e3] at hj
      obtain ⟨h1, h2⟩ := hj
      cases Option.some.inj h1
      cases Option.some.inj h2
      exact ⟨k', e3, e4⟩
theorem call_lenDR : CallR X (.builtin "len") (fun xs H Q => ∃ a kvs, xs = [V.ref a] ∧ Rd H a (.dK kvs) ∧ Q (.int kvs.length) H) := by
  intro pins s σ H xs us Q I r h
  obtain ⟨a, kvs, rfl, ha, q⟩ := h
  obtain ⟨u, rfl, ru⟩ := vals1 r
  cases ru
  exact d_len I ha fun t s' I' => ⟨.int kvs.length, H, I', ⟨t, rfl⟩, q⟩
theorem keys_vals {kvs : List (Key × V)} {vs : List (Key × Value)} {acc : List Value} (rk : KV kvs vs) (hl : acc.length = vs.length) (h : ∀ (j : Nat) (w : Value), acc[j]? = some w → ∃ k x, vs[j]? = some (k, x) ∧ keyIs k w = true) : Vals (kvs.map fun kv => kV kv.1) acc := by
  refine vals_of_at (by rw [List.length_map, hl]; exact Paired.length rk) fun j x w h1 h2 => ?_
  obtain ⟨k, y, hky, hi⟩ := h j w h2
  have e1 : (kvs.map (·.1))[j]? = some k := by
    rw [KV.keys rk, List.getElem?_map, hky] <;> rfl
  have e2 : (kvs.map fun kv => kV kv.1)[j]? = some (kV k) := by
    have e3 : (kvs.map fun kv => kV kv.1) = (kvs.map (·.1)).map kV := by rw [List.map_map] <;> rfl
    rw [e3, List.getElem?_map, e1] <;> rfl
  rw [e2] at h1
  cases h1
  exact keyIs_rel hi
theorem call_list_dKR (hc : X.calm = true) : CallR X (.type "list") (fun xs H Q => ∃ p kvs, xs = [.ref p] ∧ Rd H p (.dK kvs) ∧ ∀ q, H q = none → Q (.ref q) (upd H q (.lst (kvs.map fun kv => kV kv.1)))) := by
  intro pins s σ H xs us Q I r h
  obtain ⟨p, kvs, e, hk, q⟩ := h
  subst e
  obtain ⟨u, eu, rx⟩ := vals1 r
  subst eu
  obtain rfl : u = Value.ref p := rx
  obtain ⟨z, lo, vs, rk, hd⟩ := (show ObjOk X.prog X.w H s.heap p (.dK kvs) from hk.ok I.hok)
  obtain ⟨ep, hat⟩ := hd.dictAt
  have hl : kvs.length = vs.length := Paired.length rk
  refine PySem.W.kdl_call (PySem.W.kdl_dict (knd := mixKind X.prog X.w) (kvs := vs) (ep := ep) lo) (I.ok.hd hc) hat (by rw [← hl]; exact z) fun h' tk acc' c' hkeep hS hacc => ?_
  refine ⟨.ref s.heap.objs.size, upd H s.heap.objs.size (.lst (kvs.map fun kv => kV kv.1)), I.laid hkeep (Nat.le_refl _) (show ObjOk X.prog X.w _ _ _ (.lst (kvs.map fun kv => kV kv.1)) from ⟨?_, acc'.toList, c', ?_, ?_⟩), rfl, q _ (I.hok.fresh (Nat.le_refl _))⟩
  · rw [List.length_map]; exact z
  · exact keys_vals rk (by simp [hacc.1]) fun j w h2 => hacc.2 j w (by rw [← Array.getElem?_toList]; exact h2)
  · rw [Array.toArray_toList]; exact hS
theorem call_tuple_dKR (hc : X.calm = true) : CallR X (.type "tuple") (fun xs H Q => ∃ p kvs, xs = [.ref p] ∧ Rd H p (.dK kvs) ∧ NewT H (kvs.map fun kv => kV kv.1) Q) := by
  intro pins s σ H xs us Q I r h
  obtain ⟨p, kvs, e, hk, q⟩ := h
  subst e
  obtain ⟨u, eu, rx⟩ := vals1 r
  subst eu
  obtain rfl : u = Value.ref p := rx
  obtain ⟨z, lo, vs, rk, hd⟩ := (show ObjOk X.prog X.w H s.heap p (.dK kvs) from hk.ok I.hok)
  obtain ⟨ep, hat⟩ := hd.dictAt
  have hl : kvs.length = vs.length := Paired.length rk
  refine call_tuple_kdl (PySem.W.kdl_dict (knd := mixKind X.prog X.w) (kvs := vs) (ep := ep) lo) (I.ok.hd hc) hat (by rw [← hl]; exact z) fun h' tk acc hk hacc => ?_
  have I1 : Inv X pins σ H { s with heap := h', toks := tk } := I.kept (t' := tk) hk
  have v : Vals (kvs.map fun kv => kV kv.1) acc.toList := keys_vals rk (by simp [hacc.1]) fun j w h2 => hacc.2 j w (by rw [← Array.getElem?_toList]; exact h2)
  have J := I1.laidT (by rw [List.length_map]; exact z) v
  rw [Array.toArray_toList] at J
  exact ⟨.ref h'.objs.size, _, J, rfl, q _ _ rfl (I1.hok.fresh (Nat.le_refl _))⟩
def rValsL : V → Hp → VK → Prop := fun x H Q => ∃ (d : Addr) (kvs : List (Key × V)), x = .ref d ∧ Rd H d (.dK kvs) ∧ ∀ q, H q = none → Q (.ref q) (upd H q (.lst (kvs.map (·.2))))
def tListVals (te : TE) : TE := fun σ H Q => te σ H fun x H1 => rValsL x H1 Q
theorem pe_listVals {e : Expr} {te : TE} {p pos apos cpos : Pos} (hc : X.calm = true) (he : PE X e te) (hg : Gl X "list") (hm : X.mg "list" = none) (hv : bootBuiltins "list" = some (.type "list")) (hbase : attributeBase e "values" X.env (eval e X.env) = eval e X.env) (hline : (apos.endLine == cpos.line) = true)
    (hs : starEach [.Call (.Attribute e "values" apos) [] [] cpos] X.env = (false, eval (.Call (.Attribute e "values" apos) [] [] cpos) X.env) :: starEach [] X.env := by rfl) :
    PE X (.Call (.Name "list" p) [.Call (.Attribute e "values" apos) [] [] cpos] [] pos) (tListVals te) := by
  refine ⟨fun pins s σ H Q I hq => ?_⟩
  refine wpAny_Call_Name_kw (ld_blt I hg hm hv ?_)
  refine PyProof.Rows.callWith_type1 ?_ hs rfl
  rw [hs]
  show wpAny _ _ (spliced ((false, eval (.Call (.Attribute e "values" apos) [] [] cpos) X.env) :: backTo pos (starEach [] X.env))) _ _ s
  refine Calls.spliced_cons ?_
  refine wpAny_Call_method (T := "dict") (id := "dict.values") hbase rfl hline F.plainAttrs_dict F.slot_dict_values F.type_dict_values (thn (he.run pins s σ H _ I hq) fun u s1 ⟨x, H1, I1, rx, d, kvs, ex, hd, q⟩ => ?_)
  subst ex
  obtain rfl : u = Value.ref d := rx
  obtain ⟨hz, hs0, vs, kv, hdo⟩ := (show ObjOk X.prog X.w H1 s1.heap d (.dK kvs) from hd.ok I1.hok)
  obtain ⟨ep, hat⟩ := hdo.dictAt
  have lk : kvs.length = vs.length := Paired.length kv
  have I2 : Inv X pins σ H1 { s1 with heap := s1.heap.push { cls := .type "dict_values", data := .fields #[.ref d] } } := I1.kept (t' := s1.toks) fun b ob q => Heap.get?_push_of_some _ q
  refine ⟨hdo.typeIs, hdo.mapOf.noDict, ?_⟩
  show wpAny _ _ (callWith cpos (.builtin "dict.values") [.ref d] [] []) _ X.xe s1
  refine method_meetsIn F.slot_dict_values F.entry_dict_values rfl (PySem.evalArgs_none ⟨rfl, hdo.typeIs, F.args_dict_values_1 _, _, meets_dict_values (mixKind X.prog X.w) d hs0, ⟨vs, hdo⟩, ?_⟩)
  refine Calls.spliced_nil ?_
  refine PySem.W.kdl_call (PySem.W.kdl_values (knd := mixKind X.prog X.w) (r := s1.heap.objs.size) (d := d) (kvs := vs) (ep := ep)) (I1.ok.hd hc) ⟨⟨_, Heap.get?_push_size _ rfl, rfl, rfl⟩, hat.push _⟩ (by omega) fun h' tk acc c hk hS hacc => ?_
  refine ⟨.ref _, _, I2.laid (t' := tk) (o := .lst (kvs.map (·.2))) hk (Nat.le_refl _) ⟨by rw [List.length_map]; exact hz, acc.toList, c, ?_, ?_⟩, rfl, q _ (I2.hok.fresh (Nat.le_refl _))⟩
  · refine vals_of_at (by rw [List.length_map]; simp [hacc.1, lk]) fun j x w h1 h2 => ?_
    obtain ⟨k, hky⟩ := hacc.2 j w (by rw [← Array.getElem?_toList]; exact h2)
    rw [List.getElem?_map] at h1
    cases e : kvs[j]? with
    | none => rw [e] at h1; cases h1
    | some p =>
      rw [e] at h1
      cases Option.some.inj h1
      obtain ⟨k', v'⟩ := p
      obtain ⟨u, hu, ru⟩ := kv_get kv e
      rw [hky] at hu
      cases Option.some.inj hu
      exact ru
  · rw [Array.toArray_toList]; exact hS
end
section
variable {K : PySem.W.Frag} {H : Hp} {B : Addr → Prop}
theorem Rv.plT {u : V} {ds : List PyData} (h : Rv K H B u (.tuple ds)) : ∃ a vs, u = .ref a ∧ PlT K H a vs ∧ RvAll K H B vs ds := by
  cases h with
  | tup e n r => exact ⟨_, _, rfl, .inl e, r⟩
  | wt e r => exact ⟨_, _, rfl, .inr e, r⟩
theorem PlT.sq {a : Addr} {xs : List V} (h : PlT K H a xs) : SqT K H a xs := by
  rcases h with h | h
  · exact h.sq
  · exact h.sq _
theorem RvAll.two {vs : List V} {d e : PyData} (h : RvAll K H B vs [d, e]) : ∃ v w, vs = [v, w] ∧ Rv K H B v d ∧ Rv K H B w e := by
  cases h with
  | cons a t =>
    cases t with
    | cons b t =>
      cases t
      exact ⟨_, _, rfl, a, b⟩
theorem pairs_ok : ∀ {vs : List V} {ds : List PyData} {kvs : List (PyData × PyData)}, RvAll K H B vs ds → pairsD ds = some kvs → ∃ (ps : List Addr) (ks : List (Key × V)), vs = ps.map V.ref ∧ Paired (fun p kv => SqT K H p [kV kv.1, kv.2]) ps ks ∧ RvKv K H B ks kvs
  | _, _, _, .nil, h => by
    cases Option.some.inj h
    exact ⟨[], [], rfl, .nil, .nil⟩
  | _, _, _, .cons (d := d) (ds := ds) r t, h => by
    unfold pairsD at h
    split at h
    · cases ‹_ :: _ = []›
    · rename_i k v r' e
      cases e
      split at h
      · rename_i hk
        split at h
        · rename_i kvs' e'
          cases Option.some.inj h
          obtain ⟨ps, ks, rfl, pp, rk⟩ := pairs_ok t e'
          obtain ⟨a, xs, rfl, pl, rr⟩ := r.plT
          obtain ⟨x, y, rfl, r1, r2⟩ := rr.two
          obtain ⟨kk, rfl⟩ := keyD_kd hk
          have := rv_kd r1
          subst this
          exact ⟨a :: ps, (kk, y) :: ks, rfl, .cons pl.sq pp, .cons r2 rk⟩
        · cases h
      · cases h
    · cases h
theorem putD_kind {kvs : List (PyData × PyData)} {k v : PyData} (h : kindT kvs = false) (hk : keyD k = true) : kindT (putD kvs k v) = false := by
  unfold putD
  split
  · cases kvs with
    | nil => rfl
    | cons p r =>
      obtain ⟨a, b⟩ := p
      rw [List.map_cons]
      cases a <;> first | (cases h; done) | (split <;> rfl)
  · cases kvs with
    | nil => cases k <;> first | rfl | cases hk
    | cons p r => obtain ⟨a, b⟩ := p; cases a <;> first | rfl | cases h
theorem RvKv.kindF {ks : List (Key × V)} {kvs : List (PyData × PyData)} (h : RvKv K H B ks kvs) : kindT kvs = false := by
  cases h with
  | nil => rfl
  | cons _ _ => rename_i k _ _ _ _ _ _; cases k <;> rfl
end
section
variable {T : Tb} {W : WX} {X : Cx} {σ : L2.St} {Z μ : List Addr} {s : Sto} {H : Hp} {Q : VK}
theorem Po.dicN {kvs : List (PyData × PyData)} {ks : List (Key × V)} (h : Po T W σ Z μ s H (.ok (.v (.dict kvs)) s) (XOk T Z) Q) (st : StOk T.K Z μ s H) (r : RvKv T.K H (Bz μ s Z) ks kvs) : NewD H ks Q :=
  fun p o hp => h μ _ _ (Nx.new hp) (st.new hp) (.dK ⟨o, upd_same⟩ (st.bzNew hp) (r.mv (Mv.new hp)))
end
end Mi
end

section
/-! MiSort: the evaluator's sorting is the library's. -/
namespace Mi
open PySem PySem.W
section
variable {α : Type} {le : α → α → Bool}
def insB (le : α → α → Bool) (d : α) : List α → List α
  | [] => [d]
  | e :: r => if !le d e then e :: insB le d r else d :: e :: r
def sortB (le : α → α → Bool) : List α → List α
  | [] => []
  | d :: r => insB le d (sortB le r)
theorem insB_perm (d : α) : ∀ r : List α, (insB le d r).Perm (d :: r)
  | [] => List.Perm.refl _
  | e :: r => by
    unfold insB
    split
    · exact ((insB_perm d r).cons e).trans (List.Perm.swap d e r)
    · exact List.Perm.refl _
theorem sortB_perm : ∀ l : List α, (sortB le l).Perm l
  | [] => List.Perm.refl _
  | d :: r => (insB_perm d _).trans ((sortB_perm r).cons d)
theorem insB_sorted (h : TotalLe le) (d : α) : ∀ r : List α, r.Pairwise (fun a b => le a b = true) → (insB le d r).Pairwise (fun a b => le a b = true)
  | [], _ => List.pairwise_singleton _ _
  | e :: r, hr => by
    have h1 := List.pairwise_cons.mp hr
    unfold insB
    split
    · rename_i hc
      refine List.pairwise_cons.mpr ⟨fun x hx => ?_, insB_sorted h d r h1.2⟩
      rcases List.mem_cons.mp ((insB_perm d r).mem_iff.mp hx) with rfl | hx
      · rcases h.total e x with q | q
        · exact q
        · simp [q] at hc
      · exact h1.1 x hx
    · rename_i hc
      have hde : le d e = true := by simpa using hc
      refine List.pairwise_cons.mpr ⟨fun x hx => ?_, hr⟩
      rcases List.mem_cons.mp hx with rfl | hx
      · exact hde
      · exact h.trans _ _ _ hde (h1.1 x hx)
theorem sortB_sorted (h : TotalLe le) : ∀ l : List α, (sortB le l).Pairwise (fun a b => le a b = true)
  | [] => List.Pairwise.nil
  | d :: r => insB_sorted h d _ (sortB_sorted h r)
theorem insB_filter (h : TotalLe le) (c d : α) : ∀ r : List α, (insB le d r).filter (sameRank le c) = (d :: r).filter (sameRank le c)
  | [] => rfl
  | e :: r => by
    unfold insB
    split
    · rename_i hc
      have hde : le d e = false := by simpa using hc
      rw [List.filter_cons, insB_filter h c d r, List.filter_cons, List.filter_cons, List.filter_cons]
      by_cases p : sameRank le c d = true
      · have q : sameRank le c e = false := by
          cases hq : sameRank le c e with
          | false => rfl
          | true =>
            unfold sameRank at p hq
            rw [Bool.and_eq_true] at p hq
            have := h.trans _ _ _ p.2 hq.1
            first | (rw [hde] at this; cases this) | (have := h.trans _ _ _ p.1 hq.2; rw [hde] at this; cases this)
        simp [p, q]
      · simp [p]
    · rfl
theorem sortB_filter (h : TotalLe le) (c : α) : ∀ l : List α, (sortB le l).filter (sameRank le c) = l.filter (sameRank le c)
  | [] => rfl
  | d :: r => by
    show (insB le d (sortB le r)).filter _ = _
    rw [insB_filter h, List.filter_cons, sortB_filter h c r, ← List.filter_cons]
theorem sortB_eq (h : TotalLe le) (l : List α) : sortB le l = l.mergeSort le := sort_unique h (sortB_sorted h l) fun c => sortB_filter h c l
end
end Mi
namespace Mi
open PySem PySem.W
theorem insD_eq (d : PyData) : ∀ r : List PyData, insD d r = insB (dataLe false fun b => b) d r
  | [] => rfl
  | e :: r => by
    unfold insD insB
    rw [insD_eq d r]
    have h : (!dataLe false (fun b => b) d e) = dataLt e d := by
      rw [dataLe_eq]
      show (!(cond false _ (!dataLt e d))) = _
      simp
    rw [h]
theorem sortD_eqB : ∀ l : List PyData, sortD l = sortB (dataLe false fun b => b) l
  | [] => rfl
  | d :: r => by
    show insD d (sortD r) = insB _ d (sortB _ r)
    rw [sortD_eqB r, insD_eq]
theorem sortD_eq (l : List PyData) : sortD l = l.mergeSort (dataLe false fun b => b) := by
  rw [sortD_eqB]
  exact sortB_eq (sortLe_total _ false _) l
end Mi
end

section
set_option maxRecDepth 100000
/-! MiTup: sorted(..) of a tuple. -/
namespace Mi
open PySem PySem.W PyProof.Rows
section
variable {prog : Program} {w : World} {A : Around} {E : Value → Shared → Prop} {s : Shared}
theorem collect_tup {l : Addr} {vs : List Value} {Q : List Value → Shared → Prop} (ht : IsTup s.heap l vs.toArray) (hz : vs.length ≤ sizeLine)
    (q : Q vs { s with heap := (s.heap.push (seqObj "list" #[] 0)).update s.heap.objs.size (Obj.mapSeq (· ++ vs.toArray)) }) : wpAny (model prog w) A (collect (.ref l)) Q E s := by
  obtain ⟨o, h1, h2, n, h3⟩ := ht
  unfold collect
  refine wpAny_bind (wpAny_runValue (codeAny_builtin entry_proto_collect' ?_))
  change wpAny _ _ (do again (.builtin "list.__iadd__" ⟨[← newList [], .ref l], []⟩)) _ _ _
  refine wpAny_bind (wpAny_newList (wpAny_pure ⟨Code.quiet_builtin _ (by decide +kernel), codeAny_builtin entry_list_iadd' ?_⟩))
  change wpAny _ _ (Builtin.List.listExtendWith (.ref s.heap.objs.size) (.ref l) (.ref s.heap.objs.size)) _ _ _
  unfold Builtin.List.listExtendWith
  have h1' : (s.heap.push (seqObj "list" #[] 0)).get? l = some o := Heap.get?_push_of_some _ h1
  refine wpAny_bind (wpAny_typeOf (T := "tuple") ⟨o, h1', h2⟩ ?_)
  rw [if_pos (by have : (Value.type "tuple" == Value.type "tuple") = true := by rfl
                 rw [this]; simp)]
  refine wpAny_bind (listItems_at h1' h3 ?_)
  refine wpAny_bind (listItems_at (xs := #[]) (n := 0) (Heap.get?_push_size _ rfl) rfl ?_)
  rw [if_neg (by simp)]
  refine wpAny_bind (listUpdate_at (xs := #[]) (n := 0) (Heap.get?_push_size _ rfl) rfl ?_ (Nat.zero_le _) (by
    change (#[] ++ vs.toArray).size ≤ sizeLine + 1
    simp only [Array.size_append, List.size_toArray, List.length_nil]
    omega))
  refine wpAny_pure ?_
  change wpAny (model prog w) A (do
      let o ← load s.heap.objs.size
      match o.data with
      | .seq xs _ => pure xs.toList
      | _ => unsupported "internal:collect") Q E _
  refine wpAny_bind (wpAny_load (get?_update_seq (Heap.get?_push_size _ rfl) _) ?_)
  change wpAny _ _ (pure ((#[] : Array Value) ++ vs.toArray).toList) _ _ _
  have e : ((#[] : Array Value) ++ vs.toArray).toList = vs := by simp
  rw [e]
  exact wpAny_pure q
/-- l's items come out of collect -/
def Collects (prog : Program) (w : World) (s : Shared) (l : Addr) (vs : List Value) : Prop := ∀ (A : Around) (E : Value → Shared → Prop) (Q : List Value → Shared → Prop),
  Q vs { s with heap := (s.heap.push (seqObj "list" #[] 0)).update s.heap.objs.size (Obj.mapSeq (· ++ vs.toArray)) } → wpAny (model prog w) A (collect (.ref l)) Q E s
theorem collects_tup {l : Addr} {vs : List Value} (ht : IsTup s.heap l vs.toArray) (hz : vs.length ≤ sizeLine) : Collects prog w s l vs := fun A E Q q => collect_tup ht hz q
theorem sorted_coll {κ : PyData → Value → Prop} {l : Addr} {vs : List Value} {Q : Value → Shared → Prop} (hc : Collects prog w s l vs) (hL : vs.length ≤ sizeLine)
    (body : ∀ E' : Value → Shared → Prop, wpAny (model prog w) A.in1.in1 (Builtin.«list.sort» ⟨[.ref (s.heap.objs.size + 1)], []⟩) (fun f s' => f = .done (.ret .none) ∧ Q (.ref (s.heap.objs.size + 1)) s') E' { s with heap := copyHeap s.heap vs }) :
    wpAny (model prog w) A (call (.builtin "sorted") [.ref l]) Q E s := by
  refine call_function_entry_kw kind_sorted plain_sorted entry_sorted (args_sorted1 _) ?_
  unfold Builtin.«sorted»
  refine wpAny_bind (m := checkCount "sorted" 1 1 _) (wpAny_pure (wpAny_bind (hc _ _ _ ?_)))
  refine wpAny_bind (wpAny_newList ?_ hL)
  have e : ((s.heap.push (seqObj "list" #[] 0)).update s.heap.objs.size (Obj.mapSeq (· ++ vs.toArray))).objs.size = s.heap.objs.size + 1 := by
    rw [Heap.size_update, size_push']
  change wpAny _ _ _ _ _ { s with heap := copyHeap s.heap vs }
  rw [e]
  refine wpAny_bind (wpAny_holding (wpAny_call_entry_kw slot_list_sort ⟨_, copyHeap_at s.heap vs, rfl⟩ entry_list_sort ?_ (args_list_sort _)))
  change wpAny (model prog w) A.in1.in1 (Builtin.«list.sort» ⟨[.ref (s.heap.objs.size + 1)], []⟩) _ _ _
  refine wpAny_mono (body _) (fun f s' hf => ?_) fun _ _ z => z
  obtain ⟨rfl, hq⟩ := hf
  exact ⟨_, rfl, wpAny_pure ⟨_, rfl, hq⟩⟩
theorem sorted_collD {β : Type} {vs : List Value} {bs : List β} {enc : β → PyData} {R : Value → β → Prop} {l : Addr} {Q : Value → Shared → Prop} (hc : Collects prog w s l vs) (e : EachIs R vs bs) (er : EachIs (fun v b => ∃ as, Reads s.heap v (enc b) as) vs bs)
    (hal : AllAlike (bs.map enc)) (hk : Sortable (bs.map enc)) (hL : bs.length ≤ sizeLine) (hu : ∀ b, b ∈ bs → A.units + 2 + (enc b).depth < cLine)
    (h : ∀ out, out.length = bs.length → EachIs R out (bs.mergeSort (dataLe false enc)) → Q (.ref (s.heap.objs.size + 1)) { s with heap := sortedAll s.heap vs (List.toArray out) }) :
    wpAny (model prog w) A (call (.builtin "sorted") [.ref l]) Q E s := by
  have er' : EachIs (fun v b => ∃ as, Reads (sortingHeap (copyHeap s.heap vs) (s.heap.objs.size + 1) vs) v (enc b) as) vs bs := er.mono fun _ _ z => by
    obtain ⟨as, r⟩ := z
    exact ⟨as, PyProof.Rows.Reads.keeps (fun _ _ => sorting_copy_old) r⟩
  have hL' : vs.length ≤ sizeLine := by rw [e.length]; exact hL
  have S := SortsAt.data (prog := prog) (w := w) (A := A.in1.in1) (s := { s with heap := sortingHeap (copyHeap s.heap vs) (s.heap.objs.size + 1) vs }) (each_map (R := fun v d => ∃ as, Reads (sortingHeap (copyHeap s.heap vs) (s.heap.objs.size + 1) vs) v d as) enc er') hal hk (bound_map hu)
  refine sorted_coll (κ := fun _ _ => True) hc hL' fun E' => list_sort_vals (s := { s with heap := copyHeap s.heap vs }) (copyHeap_at s.heap vs) S hL' ⟨rfl, ?_⟩
  exact h _ (by rw [sortVals_length false rfl]; exact e.length) (sortVals_data false e er' hal)
end
end Mi
end

section
set_option maxRecDepth 100000
/-! MiVal3: built-in functions by values. -/
namespace Mi
open PySem PySem.Spec PyProof.Rows L2
section
variable {T : Tb} {W : WX} {X : Cx}
theorem rdAll1 {s : Sto} {xs : List Xv} {d : PyData} (h : rdAll s xs = some [d]) : ∃ x, xs = [x] ∧ rd s x = some d := by
  cases xs with
  | nil => simp [rdAll] at h
  | cons x r =>
    simp only [rdAll] at h
    cases e1 : rd s x with
    | none => rw [e1] at h; cases h
    | some d1 =>
      cases r with
      | nil =>
        simp only [e1, rdAll] at h
        have := Option.some.inj h
        cases this
        exact ⟨x, rfl, e1⟩
      | cons y r2 =>
        simp only [e1, rdAll] at h
        cases e2 : rd s y with
        | none => rw [e2] at h; cases h
        | some d2 =>
          cases e3 : rdAll s r2 with
          | none => rw [e2, e3] at h; cases h
          | some ds => rw [e2, e3] at h; cases Option.some.inj h
theorem rdAll2 {s : Sto} {xs : List Xv} {d e : PyData} (h : rdAll s xs = some [d, e]) : ∃ x y, xs = [x, y] ∧ rd s x = some d ∧ rd s y = some e := by
  cases xs with
  | nil => simp [rdAll] at h
  | cons x r =>
    simp only [rdAll] at h
    cases e1 : rd s x with
    | none => rw [e1] at h; cases h
    | some d1 =>
      cases e3 : rdAll s r with
      | none => rw [e1, e3] at h; cases h
      | some ds =>
        rw [e1, e3] at h
        have q := Option.some.inj h
        simp only [List.cons.injEq] at q
        obtain ⟨rfl, rfl⟩ := q
        obtain ⟨y, rfl, e4⟩ := rdAll1 e3
        exact ⟨x, y, rfl, e1, e4⟩
theorem XvsOk.one {K : PySem.W.Frag} {Z μ : List Addr} {s : Sto} {H : Hp} {us : List V} {x : Xv} (h : XvsOk K Z μ s H us [x]) : ∃ u, us = [u] ∧ XvOk K Z μ s H u x := by
  cases h with
  | cons h t => cases t; exact ⟨_, rfl, h⟩
theorem XvsOk.two {K : PySem.W.Frag} {Z μ : List Addr} {s : Sto} {H : Hp} {us : List V} {x y : Xv} (h : XvsOk K Z μ s H us [x, y]) : ∃ u w, us = [u, w] ∧ XvOk K Z μ s H u x ∧ XvOk K Z μ s H w y := by
  cases h with
  | cons h t =>
    obtain ⟨w, rfl, h2⟩ := t.one
    exact ⟨_, _, rfl, h, h2⟩
theorem RvAll.allB {K : PySem.W.Frag} {H : Hp} {B : Addr → Prop} : ∀ {vs : List V} {ds : List PyData} {b : Bool}, RvAll K H B vs ds → allB ds = some b → ∃ bs : List Bool, vs = bs.map V.bl ∧ b = bs.all id
  | _, _, _, .nil, e => ⟨[], rfl, by have := Option.some.inj e; rw [← this]; rfl⟩
  | _, _, _, .cons (d := d) h t, e => by
    cases d with
    | bool c =>
      simp only [Mi.allB] at e
      split at e
      · rename_i c' q
        obtain ⟨bs, rfl, rfl⟩ := RvAll.allB t q
        cases h
        have := Option.some.inj e
        exact ⟨c :: bs, rfl, by rw [← this]; rfl⟩
      · cases e
    | _ => simp [Mi.allB] at e
theorem RvAll.anyB {K : PySem.W.Frag} {H : Hp} {B : Addr → Prop} : ∀ {vs : List V} {ds : List PyData} {b : Bool}, RvAll K H B vs ds → anyB ds = some b → ∃ bs : List Bool, vs = bs.map V.bl ∧ b = bs.any id
  | _, _, _, .nil, e => ⟨[], rfl, by have := Option.some.inj e; rw [← this]; rfl⟩
  | _, _, _, .cons (d := d) h t, e => by
    cases d with
    | bool c =>
      simp only [Mi.anyB] at e
      split at e
      · rename_i c' q
        obtain ⟨bs, rfl, rfl⟩ := RvAll.anyB t q
        cases h
        have := Option.some.inj e
        exact ⟨c :: bs, rfl, by rw [← this]; rfl⟩
      · cases e
    | _ => simp [Mi.anyB] at e
theorem RvAll.sumI {K : PySem.W.Frag} {H : Hp} {B : Addr → Prop} : ∀ {vs : List V} {ds : List PyData} {b : Int}, RvAll K H B vs ds → sumI ds = some b → ∃ bs : List Int, vs = bs.map V.int ∧ b = bs.sum
  | _, _, _, .nil, e => ⟨[], rfl, by have := Option.some.inj e; rw [← this]; rfl⟩
  | _, _, _, .cons (d := d) h t, e => by
    cases d with
    | int c =>
      simp only [Mi.sumI] at e
      split at e
      · rename_i c' q
        obtain ⟨bs, rfl, rfl⟩ := RvAll.sumI t q
        cases h
        have := Option.some.inj e
        exact ⟨c :: bs, rfl, by rw [← this, List.sum_cons]⟩
      · cases e
    | _ => simp [Mi.sumI] at e

theorem RvKv.length {K : PySem.W.Frag} {H : Hp} {B : Addr → Prop} : ∀ {ks : List (Key × V)} {kvs : List (PyData × PyData)}, RvKv K H B ks kvs → ks.length = kvs.length
  | _, _, .nil => rfl
  | _, _, .cons _ t => by rw [List.length_cons, List.length_cons, RvKv.length t]
/-- the built-in of a name -/
def bltV : B → Value
  | .len => .builtin "len"
  | .tup => .type "tuple"
  | .all => .builtin "all"
  | .any => .builtin "any"
  | .sum => .builtin "sum"
  | .abs => .builtin "abs"
  | .int => .type "int"
  | .str => .type "str"
  | .max2 => .builtin "max"
  | .min2 => .builtin "min"
  | .lenSet => .builtin "len"
  | .max1 => .builtin "max"
  | .min1 => .builtin "min"
  | .dict => .type "dict"
theorem RvAll.intsD {K : PySem.W.Frag} {H : Hp} {B : Addr → Prop} : ∀ {vs : List V} {ds : List PyData} {ns : List Int}, RvAll K H B vs ds → intsD ds = some ns → vs = ns.map V.int
  | _, _, ns, .nil, h => by
    cases Option.some.inj h
    rfl
  | _, _, ns, .cons (d := d) a r, h => by
    cases d with
    | int i =>
      unfold Mi.intsD at h
      split at h
      · rename_i ms hm
        cases Option.some.inj h
        cases a
        rw [r.intsD hm]
        rfl
      · cases h
    | _ => cases h
theorem maxI_ge : ∀ {ns : List Int} {a : Int}, a ≤ maxI a ns ∧ (∀ y ∈ ns, y ≤ maxI a ns) ∧ (maxI a ns = a ∨ maxI a ns ∈ ns)
  | [], a => ⟨Int.le_refl _, fun _ h => (nomatch h), .inl rfl⟩
  | i :: r, a => by
    obtain ⟨h1, h2, h3⟩ := maxI_ge (ns := r) (a := if a < i then i else a)
    have e : maxI a (i :: r) = maxI (if a < i then i else a) r := rfl
    rw [e]
    have h0 : a ≤ (if a < i then i else a) ∧ i ≤ (if a < i then i else a) := by split <;> omega
    refine ⟨by omega, fun y hy => ?_, ?_⟩
    · rcases List.mem_cons.mp hy with rfl | hy
      · omega
      · exact h2 y hy
    · rcases h3 with h3 | h3
      · rw [h3]
        split
        · exact .inr (List.mem_cons_self ..)
        · exact .inl rfl
      · exact .inr (List.mem_cons_of_mem _ h3)
theorem minI_le : ∀ {ns : List Int} {a : Int}, minI a ns ≤ a ∧ (∀ y ∈ ns, minI a ns ≤ y) ∧ (minI a ns = a ∨ minI a ns ∈ ns)
  | [], a => ⟨Int.le_refl _, fun _ h => (nomatch h), .inl rfl⟩
  | i :: r, a => by
    obtain ⟨h1, h2, h3⟩ := minI_le (ns := r) (a := if i < a then i else a)
    have e : minI a (i :: r) = minI (if i < a then i else a) r := rfl
    rw [e]
    have h0 : (if i < a then i else a) ≤ a ∧ (if i < a then i else a) ≤ i := by split <;> omega
    refine ⟨by omega, fun y hy => ?_, ?_⟩
    · rcases List.mem_cons.mp hy with rfl | hy
      · omega
      · exact h2 y hy
    · rcases h3 with h3 | h3
      · rw [h3]
        split
        · exact .inr (List.mem_cons_self ..)
        · exact .inl rfl
      · exact .inr (List.mem_cons_of_mem _ h3)
theorem maxI_is {ns : List Int} {i m : Int} (hm : m ∈ i :: ns) (hle : ∀ y, y ∈ i :: ns → y ≤ m) : m = maxI i ns := by
  obtain ⟨h1, h2, h3⟩ := maxI_ge (ns := ns) (a := i)
  have a1 : maxI i ns ≤ m := by
    rcases h3 with h3 | h3
    · rw [h3]; exact hle i (List.mem_cons_self ..)
    · exact hle _ (List.mem_cons_of_mem _ h3)
  have a2 : m ≤ maxI i ns := by
    rcases List.mem_cons.mp hm with rfl | hm
    · exact h1
    · exact h2 m hm
  omega
theorem minI_is {ns : List Int} {i m : Int} (hm : m ∈ i :: ns) (hle : ∀ y, y ∈ i :: ns → m ≤ y) : m = minI i ns := by
  obtain ⟨h1, h2, h3⟩ := minI_le (ns := ns) (a := i)
  have a1 : m ≤ minI i ns := by
    rcases h3 with h3 | h3
    · rw [h3]; exact hle i (List.mem_cons_self ..)
    · exact hle _ (List.mem_cons_of_mem _ h3)
  have a2 : minI i ns ≤ m := by
    rcases List.mem_cons.mp hm with rfl | hm
    · exact h1
    · exact h2 m hm
  omega
theorem RvAll.chars {K : PySem.W.Frag} {H : Hp} {B : Addr → Prop} (x : Str) : RvAll K H B (x.cps.toList.map fun c => V.str ⟨#[c]⟩) (chars x) := by
  unfold Mi.chars
  induction x.cps.toList with
  | nil => exact .nil
  | cons c r ih => exact .cons (.str _) ih
theorem signs_vals {x : Str} {acc : Array Value} (h : ItemsOf (SignAt x) acc x.cps.size) : Vals (x.cps.toList.map fun c => V.str ⟨#[c]⟩) acc.toList := by
  obtain ⟨hs, hi⟩ := h
  have key : ∀ (cs : List Nat) (us : List Value), us.length = cs.length → (∀ (j : Nat) (v : Value), us[j]? = some v → ∃ c u, cs[j]? = some c ∧ v = Value.str ⟨#[c]⟩ u) → Vals (cs.map fun c => V.str ⟨#[c]⟩) us := by
    intro cs
    induction cs with
    | nil =>
      intro us hl _
      cases us with
      | nil => exact .nil
      | cons u us => simp at hl
    | cons c r ih =>
      intro us hl hq
      cases us with
      | nil => simp at hl
      | cons u us =>
        obtain ⟨c', t, e1, e2⟩ := hq 0 u rfl
        cases Option.some.inj e1
        exact .cons ⟨t, e2⟩ (ih us (by simpa using hl) fun j v hj => by
          obtain ⟨c2, t2, e3, e4⟩ := hq (j + 1) v (by simpa using hj)
          exact ⟨c2, t2, by simpa using e3, e4⟩)
  refine key _ _ (by simpa using hs) fun j v hj => ?_
  obtain ⟨c, u, e1, e2⟩ := hi j v (by simpa using hj)
  exact ⟨c, u, by simpa using e1, e2⟩
theorem tuple_strX {X : Cx} {pins : List (Addr × Obj)} {s : Shared} {σ : L2.St} {H : Hp} {x : Str} {ws : List Value} {Q : VK} (hc : X.calm = true) (hz : szOk x.length = true) (I : Inv X pins σ H s) (r : Vals [V.str x] ws)
    (q : NewT H (x.cps.toList.map fun c => V.str ⟨#[c]⟩) Q) : wpAny (model X.prog X.w) X.A (call (.type "tuple") ws) (EP X pins σ Q) X.xe s := by
  cases r with
  | cons r0 rr =>
    cases rr
    obtain ⟨t, rfl⟩ := r0
    have hl : x.cps.size ≤ sizeLine := szOk_le hz
    refine call_tuple_str (I.ok.hd hc) x t (fun h' tk acc hk hi => ?_) hl
    have I1 : Inv X pins σ H { s with heap := h', toks := tk } := I.kept hk
    have J := I1.laidT (by simpa using hl) (signs_vals hi)
    rw [Array.toArray_toList] at J
    exact ⟨.ref h'.objs.size, _, J, rfl, q _ _ rfl (I1.hok.fresh (Nat.le_refl _))⟩
theorem call_bltX (hK : T.K = X.K) (hc : X.calm = true) (f : B) : CallR X (bltV f) (rnX T W (bltX f)) := by
  intro pins s σ H us ws Q I r h
  obtain ⟨σ', Z, μ, t, xs, st, xo, po⟩ := h
  unfold bltX at po
  split at po
  · rename_i ds eA
    cases eD : bltD f ds with
    | none => rw [eD] at po; exact absurd po (fun z => z)
    | some z =>
    rw [eD] at po
    simp only at po
    unfold bltD at eD
    split at eD
    · obtain ⟨x, rfl, ex⟩ := rdAll1 eA
      obtain ⟨u, rfl, xu⟩ := xo.one
      have q := rd_rq st xu ex
      obtain ⟨a, vs, rfl, e1, rr⟩ := q
      have e2 := Option.some.inj eD
      subst e2
      refine call_len_seq pins s σ H _ ws Q I r ⟨a, vs, rfl, .inl (.inl (.inl e1)), ?_⟩
      rw [rr.length]
      exact po.here st (.int _)
    · obtain ⟨x, rfl, ex⟩ := rdAll1 eA
      obtain ⟨u, rfl, xu⟩ := xo.one
      have q := rd_rq st xu ex
      obtain ⟨a, vs, rfl, e1, rr⟩ := q
      have e2 := Option.some.inj eD
      subst e2
      rw [hK] at e1
      refine call_len_seq pins s σ H _ ws Q I r ⟨a, vs, rfl, .inr e1, ?_⟩
      rw [rr.length]
      exact po.here st (.int _)
    · split at eD
      · rename_i hz
        obtain ⟨x, rfl, ex⟩ := rdAll1 eA
        obtain ⟨u, rfl, xu⟩ := xo.one
        have q := rd_rq st xu ex
        cases q
        have e2 := Option.some.inj eD
        subst e2
        exact call_len_str pins s σ H _ ws Q I r ⟨_, rfl, szOk_le hz, po.here st (.int _)⟩
      · cases eD
    · split at eD
      · cases eD
      · rename_i hk
        obtain ⟨x, rfl, ex⟩ := rdAll1 eA
        obtain ⟨u, rfl, xu⟩ := xo.one
        have e2 := Option.some.inj eD
        subst e2
        have q : Rv T.K H (Bz μ t Z) u (.dict _) := rd_rq st xu ex
        obtain ⟨a, ks, rfl, e1, _, rr⟩ := q.dicK ((Bool.not_eq_true _).mp hk)
        refine call_lenDR pins s σ H _ ws Q I r ⟨a, ks, rfl, e1.rd, ?_⟩
        rw [rr.length]
        exact po.here st (.int _)
    · obtain ⟨x, rfl, ex⟩ := rdAll1 eA
      obtain ⟨u, rfl, xu⟩ := xo.one
      have q := rd_rq st xu ex
      obtain ⟨a, vs, rfl, e1, rr⟩ := q
      have e2 := Option.some.inj eD
      subst e2
      exact call_tuple_ofN pins s σ H _ ws Q I r ⟨a, vs, rfl, .inl ⟨.inl (.inl e1), po.tupN st rr⟩⟩
    · obtain ⟨x, rfl, ex⟩ := rdAll1 eA
      obtain ⟨u, rfl, xu⟩ := xo.one
      have q := rd_rq st xu ex
      have qt := rd_tup st xu ex
      obtain ⟨a, vs, rfl, e1, rr⟩ := q
      have e2 := Option.some.inj eD
      subst e2
      rw [hK] at e1
      exact call_tuple_ofN pins s σ H _ ws Q I r ⟨a, vs, rfl, .inr ⟨e1, po.here st qt⟩⟩
    · split at eD
      · rename_i hz
        obtain ⟨x, rfl, ex⟩ := rdAll1 eA
        obtain ⟨u, rfl, xu⟩ := xo.one
        have q := rd_rq st xu ex
        cases q
        have e2 := Option.some.inj eD
        subst e2
        exact tuple_strX hc hz I r (Po.tupN (T := T) po st (RvAll.chars _))
      · cases eD
    · split at eD
      · cases eD
      · rename_i hk
        obtain ⟨x, rfl, ex⟩ := rdAll1 eA
        obtain ⟨u, rfl, xu⟩ := xo.one
        have q : Rv T.K H (Bz μ t Z) u (.dict _) := rd_rq st xu ex
        obtain ⟨a, ks, rfl, e1, _, rr⟩ := q.dicK ((Bool.not_eq_true _).mp hk)
        have e2 := Option.some.inj eD
        subst e2
        exact call_tuple_dKR hc pins s σ H _ ws Q I r ⟨a, ks, rfl, e1.rd, Po.tupN (T := T) po st rr.keys⟩
    · cases eB : pairsD (_ : List PyData) with
      | none => rw [eB] at eD; cases eD
      | some kvs =>
        rw [eB] at eD
        have e2 : PyData.dict (mergeD [] kvs) = z := Option.some.inj eD
        subst e2
        obtain ⟨x, rfl, ex⟩ := rdAll1 eA
        obtain ⟨u, rfl, xu⟩ := xo.one
        obtain ⟨a, vs, rfl, e1, rr⟩ := rd_rq st xu ex
        obtain ⟨ps, ks, rfl, pp, rk⟩ := pairs_ok rr eB
        rw [hK] at pp
        exact call_dictA hc pins s σ H _ ws Q I r ⟨a, ps, ks, rfl, .inl (.inl (.inl e1)), pp, Po.dicN (T := T) po st (rk.merge .nil)⟩
    · cases eB : pairsD (_ : List PyData) with
      | none => rw [eB] at eD; cases eD
      | some kvs =>
        rw [eB] at eD
        have e2 : PyData.dict (mergeD [] kvs) = z := Option.some.inj eD
        subst e2
        obtain ⟨x, rfl, ex⟩ := rdAll1 eA
        obtain ⟨u, rfl, xu⟩ := xo.one
        obtain ⟨a, vs, rfl, e1, rr⟩ := (rd_tup st xu ex).plT
        obtain ⟨ps, ks, rfl, pp, rk⟩ := pairs_ok rr eB
        rw [hK] at pp e1
        exact call_dictA hc pins s σ H _ ws Q I r ⟨a, ps, ks, rfl, .inr e1, pp, Po.dicN (T := T) po st (rk.merge .nil)⟩
    · obtain ⟨x, rfl, ex⟩ := rdAll1 eA
      obtain ⟨u, rfl, xu⟩ := xo.one
      obtain ⟨a, vs, rfl, e1, rr⟩ := rd_rq st xu ex
      cases eB : allB (_ : List PyData) with
      | none => rw [eB] at eD; cases eD
      | some b =>
        rw [eB] at eD
        have e2 : PyData.bool b = z := Option.some.inj eD
        subst e2
        obtain ⟨bs, rfl, rfl⟩ := rr.allB eB
        exact cr_all hc pins s σ H _ ws Q I r ⟨a, bs, rfl, .inl (.inl e1), po.here st (.bl _)⟩
    · obtain ⟨x, rfl, ex⟩ := rdAll1 eA
      obtain ⟨u, rfl, xu⟩ := xo.one
      obtain ⟨a, vs, rfl, e1, rr⟩ := rd_rq st xu ex
      cases eB : anyB (_ : List PyData) with
      | none => rw [eB] at eD; cases eD
      | some b =>
        rw [eB] at eD
        have e2 : PyData.bool b = z := Option.some.inj eD
        subst e2
        obtain ⟨bs, rfl, rfl⟩ := rr.anyB eB
        exact cr_any hc pins s σ H _ ws Q I r ⟨a, bs, rfl, .inl (.inl e1), po.here st (.bl _)⟩
    · obtain ⟨x, rfl, ex⟩ := rdAll1 eA
      obtain ⟨u, rfl, xu⟩ := xo.one
      obtain ⟨a, vs, rfl, e1, rr⟩ := rd_rq st xu ex
      cases eB : sumI (_ : List PyData) with
      | none => rw [eB] at eD; cases eD
      | some b =>
        rw [eB] at eD
        have e2 : PyData.int b = z := Option.some.inj eD
        subst e2
        obtain ⟨bs, rfl, rfl⟩ := rr.sumI eB
        exact cr_sum hc pins s σ H _ ws Q I r ⟨a, bs, rfl, .inl (.inl e1), po.here st (.int _)⟩
    · obtain ⟨x, rfl, ex⟩ := rdAll1 eA
      obtain ⟨u, rfl, xu⟩ := xo.one
      have q := rd_rq st xu ex
      cases q
      have e2 := Option.some.inj eD
      subst e2
      exact call_abs pins s σ H _ ws Q I r ⟨_, rfl, po.here st (.int _)⟩
    · obtain ⟨x, rfl, ex⟩ := rdAll1 eA
      obtain ⟨u, rfl, xu⟩ := xo.one
      have q := rd_rq st xu ex
      cases q
      have e2 := Option.some.inj eD
      subst e2
      exact call_int1 pins s σ H _ ws Q I r (.inl ⟨_, rfl, po.here st (.int _)⟩)
    · obtain ⟨x, rfl, ex⟩ := rdAll1 eA
      obtain ⟨u, rfl, xu⟩ := xo.one
      have q := rd_rq st xu ex
      cases q
      have e2 := Option.some.inj eD
      subst e2
      exact call_int1 pins s σ H _ ws Q I r (.inr ⟨_, rfl, po.here st (.int _)⟩)
    · obtain ⟨x, y, rfl, ex, ey⟩ := rdAll2 eA
      obtain ⟨u, w, rfl, xu, yw⟩ := xo.two
      have q := rd_rq st xu ex
      have q2 := rd_rq st yw ey
      cases q
      cases q2
      have e2 := Option.some.inj eD
      subst e2
      exact call_max2 hc pins s σ H _ ws Q I r ⟨_, _, rfl, po.here st (.int _)⟩
    · obtain ⟨x, y, rfl, ex, ey⟩ := rdAll2 eA
      obtain ⟨u, w, rfl, xu, yw⟩ := xo.two
      have q := rd_rq st xu ex
      have q2 := rd_rq st yw ey
      cases q
      cases q2
      have e2 := Option.some.inj eD
      subst e2
      exact call_min2 hc pins s σ H _ ws Q I r ⟨_, _, rfl, po.here st (.int _)⟩
    · obtain ⟨x, rfl, ex⟩ := rdAll1 eA
      obtain ⟨u, rfl, xu⟩ := xo.one
      obtain ⟨a, vs, rfl, e1, rr⟩ := rd_rq st xu ex
      split at eD
      · rename_i i ns eB
        have e2 := Option.some.inj eD
        subst e2
        obtain rfl := rr.intsD eB
        refine cr_max hc pins s σ H _ ws Q I r ⟨a, i :: ns, rfl, .inl (.inl e1), by simp, fun m hm hle => ?_⟩
        rw [maxI_is hm hle]
        exact po.here st (.int _)
      · cases eD
    · obtain ⟨x, rfl, ex⟩ := rdAll1 eA
      obtain ⟨u, rfl, xu⟩ := xo.one
      obtain ⟨a, vs, rfl, e1, rr⟩ := rd_rq st xu ex
      split at eD
      · rename_i i ns eB
        have e2 := Option.some.inj eD
        subst e2
        obtain rfl := rr.intsD eB
        refine cr_min hc pins s σ H _ ws Q I r ⟨a, i :: ns, rfl, .inl (.inl e1), by simp, fun m hm hle => ?_⟩
        rw [minI_is hm hle]
        exact po.here st (.int _)
      · cases eD
    · cases eD
  · split at po
    · obtain ⟨u, rfl, xu⟩ := xo.one
      obtain ⟨a, rfl, hs⟩ := xu.wSq hK
      refine call_len_seq pins s σ H _ ws Q I r ⟨a, _, rfl, .inl hs, ?_⟩
      rw [List.length_map]
      exact po.here st (.int _)
    · split at po
      · rename_i n _ _ kvs ec
        obtain ⟨u, rfl, xu⟩ := xo.one
        obtain ⟨a, ks, rfl, e1, rr⟩ := rdK_ok st xu (show rdK t (.c n) = some (false, kvs) by simp only [rdK, ec]) rfl
        refine call_lenDR pins s σ H _ ws Q I r ⟨a, ks, rfl, e1, ?_⟩
        rw [rr.length]
        exact Po.here (T := T) (W := W) (σ := σ') po st (.int _)
      · exact absurd po (fun z => z)
    · exact absurd po (fun z => z)

/-! ### built-ins that make a list -/
def rLX (T : Tb) (f : List Xv → Sto → R Xv) : List V → Hp → VK → Prop := fun us H Q => ∃ Z μ s xs ds, StOk T.K Z μ s H ∧ XvsOk T.K Z μ s H us xs ∧ f xs s = .ok (.v (.list ds)) s ∧
  ∀ p vs, H p = none → RvAll T.K H (Bz μ s Z) vs ds → Q (.ref p) (upd H p (.lst vs))
def bltlV : BL → Value
  | .list => .type "list"
  | .sorted => .builtin "sorted"
  | .sortedSet => .builtin "sorted"
open PySem.W in
theorem eachIs_zip {R : Value → V × PyData → Prop} : ∀ {us : List Value} {vs : List V} {ds : List PyData}, Vals vs us → vs.length = ds.length → (∀ u v d, RelV v u → (v, d) ∈ vs.zip ds → R u (v, d)) → EachIs R us (vs.zip ds)
  | _, _, [], .nil, _, _ => .nil
  | _, _, d :: ds, .cons r t, h, k => .cons (k _ _ _ r (by simp)) (eachIs_zip t (by simpa using h) fun u v d r' m => k u v d r' (by simp [m]))
  | _, _, [], .cons r t, h, _ => by simp at h
  | _, _, d :: ds, .nil, h, _ => by simp at h
theorem RvAll.zipMem {K : PySem.W.Frag} {H : Hp} {B : Addr → Prop} : ∀ {vs : List V} {ds : List PyData}, RvAll K H B vs ds → ∀ p ∈ vs.zip ds, Rv K H B p.1 p.2
  | _, _, .nil, p, h => by simp at h
  | _, _, .cons r t, p, h => by
    rw [List.zip_cons_cons, List.mem_cons] at h
    rcases h with rfl | h
    · exact r
    · exact RvAll.zipMem t p h
theorem RvAll.ofZip {K : PySem.W.Frag} {H : Hp} {B : Addr → Prop} : ∀ {ps : List (V × PyData)}, (∀ p ∈ ps, Rv K H B p.1 p.2) → RvAll K H B (ps.map (·.1)) (ps.map (·.2))
  | [], _ => .nil
  | p :: r, h => .cons (h p (by simp)) (RvAll.ofZip fun q hq => h q (by simp [hq]))
open PySem.W in
theorem eachIs_vals {R : Value → V × PyData → Prop} (k : ∀ u p, R u p → RelV p.1 u) : ∀ {us : List Value} {ps : List (V × PyData)}, EachIs R us ps → Vals (ps.map (·.1)) us
  | _, _, .nil => .nil
  | _, _, .cons h t => .cons (k _ _ h) (eachIs_vals k t)
theorem zip_snd {vs : List V} {ds : List PyData} (h : vs.length = ds.length) : (vs.zip ds).map (·.2) = ds := List.map_snd_zip (by omega)
theorem mem_of_lay {ds : List PyData} (h : PyData.canLayAll0 ds = true) : ∀ d ∈ ds, d.canLay0 = true := by
  induction ds with
  | nil => intro d hd; simp at hd
  | cons e r ih =>
    simp only [PyData.canLayAll0, Bool.and_eq_true] at h
    intro d hd
    rcases List.mem_cons.mp hd with rfl | hd
    · exact h.1
    · exact ih h.2 d hd
theorem depth_of_all {ds : List PyData} : ∀ d ∈ ds, d.depth ≤ PyData.depthAll ds := by
  induction ds with
  | nil => intro d hd; simp at hd
  | cons e r ih =>
    intro d hd
    simp only [PyData.depthAll]
    rcases List.mem_cons.mp hd with rfl | hd
    · omega
    · have := ih d hd
      omega
theorem sortOk_facts {ds : List PyData} (h : sortOk ds = true) : okD (.list ds) = true ∧ PySem.W.AllAlike ds ∧ PySem.W.Sortable ds ∧ ds.length ≤ sizeLine := by
  unfold sortOk eachIn at h
  rw [Bool.and_eq_true, Bool.and_eq_true, Bool.and_eq_true] at h
  obtain ⟨⟨⟨h1, h2⟩, h3⟩, h4⟩ := h
  refine ⟨h1, fun d hd e he => ?_, ?_, szOk_le h3⟩
  · rw [List.all_eq_true] at h2
    have := h2 d hd
    rw [List.all_eq_true] at this
    exact this e he
  · rw [Bool.or_eq_true] at h4
    rcases h4 with h4 | h4
    · refine .inl fun d hd => ?_
      rw [List.all_eq_true] at h4
      have q := h4 d hd
      split at q
      · exact ⟨_, _, rfl⟩
      · cases q
    · refine .inr fun d hd => ?_
      rw [List.all_eq_true] at h4
      have q := h4 d hd
      split at q
      · cases q
      · cases q
      · rename_i n1 n2
        exact ⟨n2, n1⟩
open PySem.W in
theorem sorted_its (hu : X.A.units + 70 < cLine) {pins : List (Addr × Obj)} {s : Shared} {σ : L2.St} {H : Hp} {a : Addr} {its : List Value} {vs : List V} {ds : List PyData} {B : Addr → Prop} {Q : VK} (I : Inv X pins σ H s) (rv : Vals vs its) (hp : Collects X.prog X.w s a its) (r : RvAll X.K H B vs ds) (ok : sortOk ds = true)
    (q : ∀ p vs', H p = none → RvAll X.K H B vs' (sortD ds) → Q (.ref p) (upd H p (.lst vs'))) : wpAny (model X.prog X.w) X.A (call (.builtin "sorted") [.ref a]) (EP X pins σ Q) X.xe s := by
  obtain ⟨okl, al, so, hl⟩ := sortOk_facts ok
  have lay : PyData.canLayAll0 ds = true := by
    have := okD_lay okl
    simpa only [PyData.canLay0] using this
  have dep := shaped_depth okl
  simp only [PyData.depth] at dep
  have e2 := zip_snd r.length
  refine sorted_collD (β := V × PyData) (enc := fun p => p.2) (R := fun u p => RelV p.1 u) hp (bs := vs.zip ds) ?_ ?_ (by rw [e2]; exact al) (by rw [e2]; exact so) ?_ (fun b hb => ?_) fun out h1 h2 => ?_
  · exact eachIs_zip rv r.length fun u v d r' m => r'
  · refine eachIs_zip rv r.length fun u v d r' m => ?_
    have hd : d ∈ ds := by
      have := List.mem_map_of_mem (f := (·.2)) m
      rw [e2] at this
      exact this
    obtain ⟨as, rr⟩ := Dp.reads I d v u ((r.zipMem _ m).dp (mem_of_lay lay d hd)) r'
    exact ⟨as, rr⟩
  · rw [List.length_zip, r.length]
    omega
  · have hd : b.2 ∈ ds := by
      have := List.mem_map_of_mem (f := (·.2)) hb
      rw [e2] at this
      exact this
    have := depth_of_all b.2 hd
    show X.A.units + 2 + b.2.depth < cLine
    omega
  · obtain ⟨ep, he'⟩ := PyProof.Rows.sortedAll_at s.heap its out.toArray
    have pm := List.mergeSort_perm (vs.zip ds) (dataLe false fun p : V × PyData => p.2)
    have h3 : Vals (((vs.zip ds).mergeSort (dataLe false fun p : V × PyData => p.2)).map (·.1)) out := eachIs_vals (fun u p h => h) h2
    have h4 : RvAll X.K H B (((vs.zip ds).mergeSort (dataLe false fun p : V × PyData => p.2)).map (·.1)) (((vs.zip ds).mergeSort (dataLe false fun p : V × PyData => p.2)).map (·.2)) :=
      RvAll.ofZip fun p hp => r.zipMem p (pm.mem_iff.mp hp)
    have h5 : ((vs.zip ds).mergeSort (dataLe false fun p : V × PyData => p.2)).map (·.2) = sortD ds := by
      rw [sortD_eq, sort_maps (r := dataLe false fun p : V × PyData => p.2) (s := dataLe false fun b => b) (fun p : V × PyData => p.2) (fun _ _ _ _ => rfl), e2]
    rw [h5] at h4
    have hlen : (((vs.zip ds).mergeSort (dataLe false fun p : V × PyData => p.2)).map (·.1)).length ≤ sizeLine := by
      rw [List.length_map, pm.length_eq, List.length_zip, r.length]
      omega
    exact ⟨.ref _, upd H (s.heap.objs.size + 1) (.lst _), I.laid (t' := s.toks) (fun _ _ => PyProof.Rows.sortedAll_old) (Nat.le_succ _) ⟨hlen, out, ep, h3, he'⟩, rfl, q _ _ (I.hok.fresh (Nat.le_succ _)) h4⟩
theorem call_bltlX (hc : X.calm = true) (hK : T.K = X.K) (hu : X.A.units + 70 < cLine) (f : BL) (hf : f ≠ .sortedSet) : CallR X (bltlV f) (rLX T (bltlX f)) := by
  intro pins s σ H us ws Q I r h
  obtain ⟨Z, μ, t, xs, ds, st, xo, eq, po⟩ := h
  unfold bltlX at eq
  split at eq
  · rename_i ds' eA
    cases eD : bltL f ds' with
    | none => rw [eD] at eq; cases eq
    | some z =>
    rw [eD] at eq
    simp only [R.ok.injEq, Xv.v.injEq, PyData.list.injEq, and_true] at eq
    subst eq
    unfold bltL at eD
    split at eD
    · obtain ⟨x, rfl, ex⟩ := rdAll1 eA
      obtain ⟨u, rfl, xu⟩ := xo.one
      obtain ⟨a, vs, rfl, e1, rr⟩ := rd_rq st xu ex
      have e2 := Option.some.inj eD
      subst e2
      exact call_list_of pins s σ H _ ws Q I r ⟨a, vs, rfl, .inl (.inl (.inl e1)), fun p hp => po p vs hp rr⟩
    · obtain ⟨x, rfl, ex⟩ := rdAll1 eA
      obtain ⟨u, rfl, xu⟩ := xo.one
      obtain ⟨a, vs, rfl, e1, rr⟩ := rd_rq st xu ex
      have e2 := Option.some.inj eD
      subst e2
      rw [hK] at e1
      exact call_list_of pins s σ H _ ws Q I r ⟨a, vs, rfl, .inr e1, fun p hp => po p vs hp rr⟩
    · split at eD
      · cases eD
      · rename_i hk
        obtain ⟨x, rfl, ex⟩ := rdAll1 eA
        obtain ⟨u, rfl, xu⟩ := xo.one
        have q : Rv T.K H (Bz μ t Z) u (.dict _) := rd_rq st xu ex
        obtain ⟨a, ks, rfl, e1, _, rr⟩ := q.dicK ((Bool.not_eq_true _).mp hk)
        have e2 := Option.some.inj eD
        subst e2
        exact call_list_dKR hc pins s σ H _ ws Q I r ⟨a, ks, rfl, e1.rd, fun p hp => po p _ hp rr.keys⟩
    · split at eD
      · rename_i hz
        obtain ⟨x, rfl, ex⟩ := rdAll1 eA
        obtain ⟨u, rfl, xu⟩ := xo.one
        obtain ⟨a, vs, rfl, e1, rr⟩ := rd_rq st xu ex
        have e2 := Option.some.inj eD
        subst e2
        rw [Vals.ref1 r]
        rw [hK] at rr po
        obtain ⟨its, rv, hl, hz'⟩ := I.list (.inl (.inl e1))
        exact sorted_its hu I rv (fun A E Q q => PyProof.Rows.collect_list hl.isList q (by rw [← rv.length]; exact hz')) rr hz fun p vs' hp h => po p vs' hp h
      · cases eD
    · split at eD
      · rename_i hz
        obtain ⟨x, rfl, ex⟩ := rdAll1 eA
        obtain ⟨u, rfl, xu⟩ := xo.one
        obtain ⟨a, vs, rfl, e1, rr⟩ := rd_rq st xu ex
        have e2 := Option.some.inj eD
        subst e2
        rw [Vals.ref1 r]
        rw [hK] at rr po e1
        obtain ⟨its, rv, hl, hz'⟩ := I.tuple e1
        exact sorted_its hu I rv (collects_tup hl (by rw [← rv.length]; exact hz')) rr hz fun p vs' hp h => po p vs' hp h
      · cases eD
    · exact absurd rfl hf
    · exact absurd rfl hf
    · cases eD
  · cases eq
end
end Mi
end

section
set_option maxRecDepth 100000
/-! MiSto: steps of the store: what is frozen, changed, laid. -/
namespace Mi
open PySem PySem.Spec PyProof.Rows L2
section
variable {K : PySem.W.Frag} {Z μ : List Addr} {s : Sto} {H : Hp}

theorem nodup_at {μ : List Addr} (nd : μ.Nodup) {n m : Nat} {a : Addr} (h1 : μ[n]? = some a) (h2 : μ[m]? = some a) : n = m := nd_ix nd h1 h2
theorem sset_self {s : Sto} {n : Nat} {c c' : Cell} (h : s[n]? = some c) : (s.set n c')[n]? = some c' := List.getElem?_set_self (List.getElem?_eq_some_iff.mp h).1
/-- a cell that is frozen -/
theorem bm_frz {n : Nat} {d : PyData} {a : Addr} (h : Bm μ (s.set n (.frz d)) a) : Bm μ s a ∧ ∀ b, μ.Nodup → μ[n]? = some b → a ≠ b := by
  obtain ⟨m, c, e1, e2, e3⟩ := h
  by_cases hm : n = m
  · subst hm
    by_cases hl : n < s.length
    · rw [List.getElem?_set_self hl] at e2
      cases Option.some.inj e2
      cases e3
    · rw [List.getElem?_eq_none (by rw [List.length_set]; omega)] at e2
      cases e2
  · rw [List.getElem?_set_ne hm] at e2
    refine ⟨⟨m, c, e1, e2, e3⟩, fun b nd eb z => hm (nodup_at nd eb (z ▸ e1))⟩
theorem Mv.less {B B' : Addr → Prop} (h : ∀ a, B' a → B a) : Mv H H B B' := ⟨fun _ _ e _ => e, fun a _ _ n z => n (h a z)⟩
theorem bz_frz {n : Nat} {d : PyData} : ∀ a, Bz μ (s.set n (.frz d)) Z a → Bz μ s Z a := fun a h => by
  rcases h with h | h
  · exact .inl (bm_frz h).1
  · exact .inr h
theorem frz_step {n : Nat} {a : Addr} {d : PyData} {c : Cell} (st : StOk K Z μ s H) (e1 : μ[n]? = some a) (e2 : s[n]? = some c) (hc : Cell.chg c = true)
    (hr : ∀ B' : Addr → Prop, (∀ b, B' b → Bz μ s Z b) → ¬ B' a → Rv K H B' (.ref a) d) : Nx μ s H μ (s.set n (.frz d)) H ∧ StOk K Z μ (s.set n (.frz d)) H ∧ Rv K H (Bz μ (s.set n (.frz d)) Z) (.ref a) d := by
  have hba : Bm μ s a := ⟨n, c, e1, e2, hc⟩
  have hna : ¬ Bz μ (s.set n (.frz d)) Z a := fun z => by
    rcases z with z | z
    · exact (bm_frz z).2 a st.nd e1 rfl
    · exact st.off a z hba
  have hrv := hr _ bz_frz hna
  refine ⟨⟨List.prefix_refl _, fun _ _ e _ => e, fun b h => .inl (bm_frz h).1, fun _ h => h⟩, ⟨by rw [List.length_set]; exact st.len, st.nd, fun b hb h => st.off b hb (bm_frz h).1, st.zin, fun m b c' q1 q2 => ?_⟩, hrv⟩
  by_cases hm : n = m
  · subst hm
    rw [e1] at q1
    cases q1
    rw [sset_self e2] at q2
    cases Option.some.inj q2
    exact ⟨hrv, st.bmSome hba, hna⟩
  · rw [List.getElem?_set_ne hm] at q2
    exact (st.cell m b c' q1 q2).mv (Mv.less bz_frz) fun _ _ e => e
theorem fz_ok {u : V} {x : Xv} {d : PyData} {s' : Sto} (st : StOk K Z μ s H) (h : XvOk K Z μ s H u x) (e : fz s x = some (d, s')) : Nx μ s H μ s' H ∧ StOk K Z μ s' H ∧ Rv K H (Bz μ s' Z) u d := by
  cases x with
  | v d' =>
    simp only [fz, Option.some.injEq, Prod.mk.injEq] at e
    obtain ⟨rfl, rfl⟩ := e
    exact ⟨Nx.refl _ _ _, st, h⟩
  | c n =>
    obtain ⟨a, e1, rfl⟩ := h
    simp only [fz] at e
    cases q : s[n]? with
    | none => rw [q] at e; cases e
    | some c =>
      have hc := st.cell n a c e1 q
      rw [q] at e
      cases c with
      | lst xs =>
        simp only [Option.some.injEq, Prod.mk.injEq] at e
        obtain ⟨rfl, rfl⟩ := e
        obtain ⟨vs, e2, r⟩ := hc
        exact frz_step st e1 q rfl fun B' hB hn => .lst e2 hn (r.mv (Mv.less hB))
      | dic t kvs => cases e
      | frz d' =>
        simp only [Option.some.injEq, Prod.mk.injEq] at e
        obtain ⟨rfl, rfl⟩ := e
        exact ⟨Nx.refl _ _ _, st, hc.1⟩
  | w ns => simp [fz] at e
/-- a list's cell is changed -/
theorem bm_chg {n : Nat} {c c' : Cell} {a : Addr} (e2 : s[n]? = some c) (hc : Cell.chg c = true) (hc' : Cell.chg c' = true) : Bm μ (s.set n c') a ↔ Bm μ s a := by
  constructor
  · rintro ⟨m, d, q1, q2, q3⟩
    by_cases hm : n = m
    · subst hm
      exact ⟨n, c, q1, e2, hc⟩
    · rw [List.getElem?_set_ne hm] at q2
      exact ⟨m, d, q1, q2, q3⟩
  · rintro ⟨m, d, q1, q2, q3⟩
    by_cases hm : n = m
    · subst hm
      exact ⟨n, c', q1, sset_self e2, hc'⟩
    · exact ⟨m, d, q1, by rw [List.getElem?_set_ne hm]; exact q2, q3⟩
theorem chg_step {n : Nat} {a : Addr} {c c' : Cell} {o : HO} (st : StOk K Z μ s H) (e1 : μ[n]? = some a) (e2 : s[n]? = some c) (hc : Cell.chg c = true) (hc' : Cell.chg c' = true)
    (hr : Mv H (upd H a o) (Bz μ s Z) (Bz μ (s.set n c') Z) → CellOk K (upd H a o) (Bz μ (s.set n c') Z) a c') : Nx μ s H μ (s.set n c') (upd H a o) ∧ StOk K Z μ (s.set n c') (upd H a o) := by
  have hba : Bm μ s a := ⟨n, c, e1, e2, hc⟩
  have biff : ∀ b, Bm μ (s.set n c') b ↔ Bm μ s b := fun b => bm_chg e2 hc hc'
  have hz : ∀ b, Bz μ (s.set n c') Z b ↔ Bz μ s Z b := fun b => or_congr (biff b) Iff.rfl
  have mv : Mv H (upd H a o) (Bz μ s Z) (Bz μ (s.set n c') Z) := ⟨fun b u e hn => by rw [upd_ne (fun (z : b = a) => hn (.inl (by rw [z]; exact hba)))]; exact e, fun b u e hn z => hn ((hz b).mp z)⟩
  refine ⟨⟨List.prefix_refl _, fun b u e hn => by rw [upd_ne (fun (z : b = a) => hn (by rw [z]; exact hba))]; exact e, fun b h => .inl ((biff b).mp h), fun b h => ?_⟩, ⟨by rw [List.length_set]; exact st.len, st.nd, fun b hb h => st.off b hb ((biff b).mp h), fun b hb => ?_, fun m b d q1 q2 => ?_⟩⟩
  · by_cases eb : b = a
    · subst eb
      rw [upd_same]
      exact fun z => nomatch z
    · rw [upd_ne eb]
      exact h
  · obtain ⟨u, e⟩ := st.zin b hb
    by_cases eb : b = a
    · subst eb
      exact absurd hba (st.off b hb)
    · exact ⟨u, by rw [upd_ne eb]; exact e⟩
  · by_cases hm : n = m
    · subst hm
      rw [e1] at q1
      cases q1
      rw [sset_self e2] at q2
      cases Option.some.inj q2
      exact hr mv
    · rw [List.getElem?_set_ne hm] at q2
      have hne : b ≠ a := fun z => hm (nodup_at st.nd e1 (z ▸ q1))
      exact (st.cell m b d q1 q2).mv mv fun _ u e => by rw [upd_ne hne]; exact e
/-- a new list becomes a cell -/
theorem bm_app {p : Addr} {c : Cell} (hl : μ.length = s.length) {a : Addr} (h : Bm (μ ++ [p]) (s ++ [c]) a) : Bm μ s a ∨ a = p := by
  obtain ⟨n, d, e1, e2, e3⟩ := h
  by_cases hn : n < s.length
  · rw [List.getElem?_append_left (by omega)] at e1
    rw [List.getElem?_append_left hn] at e2
    exact .inl ⟨n, d, e1, e2, e3⟩
  · rw [List.getElem?_append_right (by omega)] at e1
    have hl2 : n - μ.length = 0 := by
      have := (List.getElem?_eq_some_iff.mp e1).1
      simp at this
      omega
    rw [hl2] at e1
    exact .inr (Option.some.inj e1).symm
theorem bm_sub {p : Addr} {c : Cell} {a : Addr} (h : Bm μ s a) : Bm (μ ++ [p]) (s ++ [c]) a := by
  obtain ⟨n, d, e1, e2, e3⟩ := h
  exact ⟨n, d, by rw [List.getElem?_append_left (List.getElem?_eq_some_iff.mp e1).1]; exact e1, by rw [List.getElem?_append_left (List.getElem?_eq_some_iff.mp e2).1]; exact e2, e3⟩
/-- what is held apart is no cell's -/
theorem StOk.offμ {a : Addr} (st : StOk K Z μ s H) (ha : a ∈ Z) : a ∉ μ := fun hm => by
  obtain ⟨n, hn, e⟩ := List.mem_iff_getElem.mp hm
  have e1 : μ[n]? = some a := by rw [List.getElem?_eq_getElem hn, e]
  have hs : n < s.length := by rw [← st.len]; exact hn
  have e2 : s[n]? = some s[n] := List.getElem?_eq_getElem hs
  have q := st.cell n a _ e1 e2
  cases hc : s[n] with
  | lst xs => exact st.off a ha ⟨n, _, e1, e2, by rw [hc]; rfl⟩
  | dic kvs => exact st.off a ha ⟨n, _, e1, e2, by rw [hc]; rfl⟩
  | frz d =>
    rw [hc] at q
    exact q.2.2 (.inr ha)
theorem app_step {p : Addr} {c : Cell} (st : StOk K (p :: Z) μ s H) (hpZ : p ∉ Z) (hc : Cell.chg c = true) (hr : ∀ B' : Addr → Prop, (∀ b, B' b → Bz μ s (p :: Z) b) → CellOk K H B' p c) :
    StOk K Z (μ ++ [p]) (s ++ [c]) H ∧ (∀ a, Bm (μ ++ [p]) (s ++ [c]) a → Bm μ s a ∨ a = p) := by
  have hb : ∀ a, Bz (μ ++ [p]) (s ++ [c]) Z a → Bz μ s (p :: Z) a := fun a h => by
    rcases h with h | h
    · rcases bm_app st.len h with h | h
      · exact .inl h
      · exact .inr (h ▸ List.mem_cons_self ..)
    · exact .inr (List.mem_cons_of_mem _ h)
  refine ⟨⟨by simp [st.len], ?_, fun a ha h => ?_, fun a ha => st.zin a (List.mem_cons_of_mem _ ha), fun n a d e1 e2 => ?_⟩, fun a h => bm_app st.len h⟩
  · have hno : p ∉ μ := st.offμ (List.mem_cons_self ..)
    rw [List.nodup_append]
    exact ⟨st.nd, by simp, fun a ha b hb => by
      rw [List.mem_singleton] at hb
      rintro rfl
      exact hno (hb ▸ ha)⟩
  · rcases bm_app st.len h with h | h
    · exact st.off a (List.mem_cons_of_mem _ ha) h
    · exact hpZ (h ▸ ha)
  · by_cases hn : n < s.length
    · rw [List.getElem?_append_left (by have := st.len; omega)] at e1
      rw [List.getElem?_append_left hn] at e2
      exact (st.cell n a d e1 e2).mv (Mv.less hb) fun _ _ e => e
    · have hl := st.len
      rw [List.getElem?_append_right (by omega)] at e1 e2
      have h0 : n - s.length = 0 := by
        have := (List.getElem?_eq_some_iff.mp e2).1
        simp at this
        omega
      rw [h0] at e2
      rw [show n - μ.length = 0 by omega] at e1
      cases Option.some.inj e1
      cases Option.some.inj e2
      exact hr _ hb
end
end Mi
end

section
set_option maxRecDepth 100000
/-! MiCmp: from the model's syntax to the small language, with all that the layer's rules ask. -/
namespace Mi
open PySem

structure Cc where
  N : List Str
  sc : Scope
  fid : List (Str × (Nat × List Str))
  gid : List (Str × Nat)
  free : List Str
  chg : List Str
  asg : List Str
  kwt : List (Nat × Nat × List Str × List Nat)
  kp : Bool
  /-- error classes: the field, over LookupError (else over ValueError) -/
  xc : List (Str × (Option Str × Bool)) := []
/-- a comprehension's scope as it is used -/
def relS (scope sc : Scope) : Scope :=
  { scope with names := scope.names.map fun (n, k) => if (k == .free && sc.kind == .function && sc.names.lookup n == some .cell) then (n, .cell) else (n, k) }
def ownNames : List (Str × NameKind) → List Str
  | [] => []
  | (x, .local) :: r => x :: ownNames r
  | (x, .cell) :: r => x :: ownNames r
  | _ :: r => ownNames r

def idx (x : Str) : List Str → Nat → Option Nat
  | [], _ => none
  | y :: r, i => if x = y then some i else idx x r (i + 1)
def badName (x : Str) : Bool := (x == ("__debug__" : Str)) || (x == ("__classdict__" : Str)) || (x == ("__name__" : Str))
def isVis : Option NameKind → Bool
  | some .local => true
  | some .cell => true
  | some .free => true
  | _ => false
def isLoc : Option NameKind → Bool
  | some .local => true
  | some .cell => true
  | _ => false
def isGlb : Option NameKind → Bool
  | some .globalImplicit => true
  | _ => false
/-- a name of the def -/
def cVar (c : Cc) (x : Str) : Option Nat := if isVis (c.sc.names.lookup x) && !badName x then idx x c.N 0 else none
def cLoc (c : Cc) (x : Str) : Option Nat := if isLoc (c.sc.names.lookup x) && !badName x && c.asg.any (fun y => decide (x = y)) then idx x c.N 0 else none
/-- a built-in name -/
def cBlt (c : Cc) (x : Str) : Bool := isGlb (c.sc.names.lookup x) && !badName x && c.free.any (fun y => decide (x = y))
def cName (c : Cc) (x : Str) : Option E :=
  match cVar c x with
  | some i => some (.var i)
  | none => if isGlb (c.sc.names.lookup x) && !badName x then (c.gid.lookup x).map .glob else none
def cConst : Const → Option E
  | .int i => some (.cst (.int i))
  | .bool b => some (.cst (.bool b))
  | .none => some (.cst .none)
  | .str x => some (.cst (.str x))
  | _ => none
def noStar : Expr → Bool
  | .Starred _ _ => false
  | _ => true
def cEs (f : Expr → Option E) : List Expr → Option Es
  | [] => some .nil
  | .Starred e _ :: r => match f e, cEs f r with
    | some e', some r' => some (.star e' r')
    | _, _ => none
  | e :: r => match f e, cEs f r with
    | some e', some r' => some (.cons e' r')
    | _, _ => none
/-- no star among them -/
def cEx (f : Expr → Option E) : List Expr → Option Es
  | [] => some .nil
  | e :: r => if noStar e then match f e, cEx f r with
    | some e', some r' => some (.cons e' r')
    | _, _ => none else none
def cBo (f : Expr → Option E) (op : BoolOp) : List Expr → Option E
  | [] => none
  | [a] => f a
  | a :: r => match f a, cBo f op r with
    | some a', some r' => some (match op with | .And => .and a' r' | .Or => .or a' r')
    | _, _ => none
/-- list(..) or e -/
def isListCall : Expr → Bool
  | .Call (.Name x _) _ _ _ => decide (x = ("list" : Str))
  | _ => false
/-- what may stand as a test -/
def tstOk : E → Bool
  | .orL _ _ => false
  | .ite _ _ _ => false
  | .and a b => tstOk a && tstOk b
  | .or a b => tstOk a && tstOk b
  | .not a => tstOk a
  | _ => true
/-- what makes a new list -/
def isFresh : E → Bool
  | .bin _ _ _ => true
  | .lst _ => true
  | .bltl _ _ => true
  | .slice _ _ _ _ _ => true
  | .rev _ => true
  | .comp _ _ _ _ _ => true
  | .comp2 _ _ _ _ _ _ _ _ _ => true
  | .orL a b => isFresh a && isFresh b
  | .setF b _ => !b
  | .valsL _ => true
  | _ => false
def tst (o : Option E) : Option E := match o with
  | some e => if tstOk e then some e else none
  | none => none
def cOpt (f : Expr → Option E) : Option Expr → Option E
  | none => some (.cst .none)
  | some e => f e
def cTgs (c : Cc) : List Expr → Option (List Nat)
  | [] => some []
  | .Name x _ :: r => match cLoc c x, cTgs c r with
    | some i, some is => some (i :: is)
    | _, _ => none
  | _ :: _ => none
def cTg (c : Cc) : Expr → Option Tg
  | .Name x _ => (cLoc c x).map .one
  | .Tuple es _ _ => (cTgs c es).map .tup
  | _ => none
def isTup : Expr → Bool
  | .Tuple _ _ _ => true
  | _ => false
def isNm : Expr → Bool
  | .Name _ _ => true
  | _ => false
def notSet : Expr → Bool
  | .Set _ _ _ => false
  | _ => true
/-- a thing whose method is called by its value alone -/
def plainBase : Expr → Bool
  | .Name _ _ => true
  | .Call _ (_ :: _) _ _ => true
  | .Subscript _ _ _ => true
  | _ => false
def cIt (c : Cc) (f : Expr → Option E) (tg : Expr) (it : Expr) : Option It :=
  match it with
  | .Call (.Name x p) [a] [] pos =>
    if cBlt c x && decide (x = ("range" : Str)) && noStar a then (f a).map .range1
    else if cBlt c x && decide (x = ("enumerate" : Str)) && noStar a && isTup tg then (f a).map .enum
    else (f (.Call (.Name x p) [a] [] pos)).map .seq
  | .Call (.Name x p) [a, b] [] pos =>
    if cBlt c x && decide (x = ("range" : Str)) && noStar a && noStar b then match f a, f b with
      | some a', some b' => some (.range2 a' b')
      | _, _ => none
    else if cBlt c x && decide (x = ("zip" : Str)) && noStar a && noStar b && isTup tg then match f a, f b with
      | some a', some b' => some (.zip a' b')
      | _, _ => none
    else if cBlt c x && decide (x = ("zip" : Str)) && noStar a && noStar b && isNm tg then match f a, f b with
      | some a', some b' => some (.zipN a' b')
      | _, _ => none
    else (f (.Call (.Name x p) [a, b] [] pos)).map .seq
  | .Call (.Attribute o m apos) [] [] cpos =>
    if decide (m = ("values" : Str)) then (if apos.endLine == cpos.line && plainBase o then (f o).map .vals else none)
    else if decide (m = ("items" : Str)) then (if apos.endLine == cpos.line && plainBase o && isTup tg then (f o).map .items else none)
    else (f (.Call (.Attribute o m apos) [] [] cpos)).map .seq
  | it => if notSet it then (f it).map .seq else none
/-- at most one test -/
def cIfs (f : Expr → Option E) : List Expr → Option Es
  | [] => some .nil
  | [t] => (tst (f t)).map fun t' => .cons t' .nil
  | _ => none
def tgIn (own : List Nat) : Tg → Bool
  | .one i => own.contains i
  | .tup is => is.all fun i => own.contains i
def slotsT : Tg → List Nat
  | .one i => [i]
  | .tup is => is
def ownOf (N : List Str) : List (Str × NameKind) → List (Str × Nat)
  | [] => []
  | (x, k) :: r => match isLoc (some k), idx x N 0 with
    | true, some i => (x, i) :: ownOf N r
    | _, _ => ownOf N r
def isClsName (x : Str) : Option String :=
  if x = ("list" : Str) then some "list" else if x = ("tuple" : Str) then some "tuple" else if x = ("str" : Str) then some "str" else if x = ("int" : Str) then some "int" else if x = ("bool" : Str) then some "bool" else none
def cClss (c : Cc) : List Expr → Option (List String)
  | [] => some []
  | .Name x _ :: r => if cBlt c x then match isClsName x, cClss c r with
    | some t, some ts => some (t :: ts)
    | _, _ => none else none
  | _ :: _ => none
def cCls (c : Cc) : Expr → Option (List String)
  | .Name x p => cClss c [.Name x p]
  | _ => none
def bltOf (x : Str) : Option B :=
  if x = ("len" : Str) then some .len else if x = ("tuple" : Str) then some .tup else if x = ("all" : Str) then some .all else if x = ("any" : Str) then some .any
  else if x = ("sum" : Str) then some .sum else if x = ("abs" : Str) then some .abs else if x = ("int" : Str) then some .int else if x = ("dict" : Str) then some .dict else none
def blt2Of (x : Str) : Option B :=
  if x = ("max" : Str) then some .max2 else if x = ("min" : Str) then some .min2 else none
def blt1Of (x : Str) : Option B :=
  if x = ("max" : Str) then some .max1 else if x = ("min" : Str) then some .min1 else bltOf x
def bltlOf (x : Str) : Option BL :=
  if x = ("list" : Str) then some .list else if x = ("sorted" : Str) then some .sorted else none
def cCall1 (c : Cc) (f : Expr → Option E) (x : Str) (a : Expr) : Option E :=
  if cBlt c x && noStar a then match f a with
    | some a' => match blt1Of x with
      | some b => some (.blt b (.cons a' .nil))
      | none => match bltlOf x with
        | some b => some (.bltl b (.cons a' .nil))
        | none => none
    | none => none
  else none
/-- sorted(set(b)), len(set(b)) -/
def cSet (c : Cc) (f : Expr → Option E) (x : Str) (a : Expr) : Option E :=
  match a with
  | .Call (.Name y _) [b] [] _ => if cBlt c x && cBlt c y && decide (y = ("set" : Str)) && noStar b then
      (if x = ("sorted" : Str) then (f b).map (.setF false) else if x = ("len" : Str) then (f b).map (.setF true) else none) else none
  | _ => none
/-- list(o.values()) -/
def cVals (c : Cc) (f : Expr → Option E) (x : Str) (a : Expr) : Option E :=
  match a with
  | .Call (.Attribute o m apos) [] [] cpos => if decide (x = ("list" : Str)) && decide (m = ("values" : Str)) && cBlt c x && (apos.endLine == cpos.line) && plainBase o then (f o).map .valsL else none
  | _ => none
def cIsi (c : Cc) (a' : E) (b : Expr) : Option E :=
  match b with
  | .Tuple es _ _ => match cClss c es with
    | some ts => if ts.length ≤ 1000 then some (.isi a' ts) else none
    | none => none
  | .Name y py => (cClss c [.Name y py]).map (.isi a')
  | _ => none
def cCall2 (c : Cc) (f : Expr → Option E) (x : Str) (a b : Expr) : Option E :=
  if cBlt c x && noStar a && noStar b then
    if x = ("isinstance" : Str) then match f a with
      | some a' => cIsi c a' b
      | none => none
    else match f a with
      | some a' => match f b with
        | some b' => match blt2Of x with
          | some k => some (.blt k (.cons a' (.cons b' .nil)))
          | none => none
        | none => none
      | none => none
  else none
def methOf (m : Str) : Option M :=
  if m = ("append" : Str) then some .append else if m = ("pop" : Str) then some .pop else if m = ("extend" : Str) then some .extend else none
def plainSl : Expr → Bool
  | .Slice _ _ _ _ => false
  | _ => true
def isRev : Expr → Bool
  | .Slice none none (some (.UnaryOp .USub (.Constant (.int 1) _ _) _)) _ => true
  | _ => false
def allPlain (es : List Expr) : Bool := es.all noStar
/-- where the keyword's value goes -/
def kwNames : List Keyword → Option (List Str)
  | [] => some []
  | ⟨some x, _, _⟩ :: r => (kwNames r).map (x :: ·)
  | _ :: _ => none
def kwVals : List Keyword → List Expr
  | [] => []
  | ⟨_, e, _⟩ :: r => e :: kwVals r
/-- for each parameter the place of its value among (positional ones, then keywords') -/
def permOf (n : Nat) (ks : List Str) : List Str → Nat → Option (List Nat)
  | [], _ => some []
  | p :: ps, i => if i < n then (permOf n ks ps (i + 1)).map (i :: ·) else match idx p ks 0, permOf n ks ps (i + 1) with
    | some j, some r => some ((n + j) :: r)
    | _, _ => none
/-- and, or -/
def cBool (f : Expr → Option E) (op : BoolOp) (es : List Expr) : Option E :=
  match op, es with
  | .Or, [a, b] => if isListCall a then match f a, f b with
    | some a', some b' => if isFresh a' && isFresh b' then some (.orL a' b') else none
    | _, _ => none
    else cBo f .Or [a, b]
  | op, es => cBo f op es
def cUn (f : Expr → Option E) (op : UnaryOp) (a : Expr) : Option E :=
  match op with
  | .Not => (f a).map .not
  | .USub => (f a).map .neg
  | _ => none
def cCompare (f : Expr → Option E) (a : Expr) (ops : List CmpOp) (bs : List Expr) : Option E :=
  match ops, bs with
  | [op], [b] => if behindInMarks op b then none else match f a, f b with
    | some a', some b' => some (.cmp op a' b')
    | _, _ => none
  | [op, op'], [b, d] => if lastMarks [op, op'] [b, d] then none else match f a, f b, f d with
    | some a', some b', some d' => some (.chain op op' a' b' d')
    | _, _, _ => none
  | _, _ => none
def cSub (f : Expr → Option E) (a i : Expr) : Option E :=
  match i with
  | .Slice lo hi none _ => match f a, cOpt f lo, cOpt f hi with
    | some a', some lo', some hi' => some (.slice a' lo.isSome lo' hi.isSome hi')
    | _, _, _ => none
  | i => if isRev i then (f a).map .rev else if plainSl i then match f a, f i with
    | some a', some i' => some (.sub a' i')
    | _, _ => none else none
/-- within a comprehension -/
def inComp (c : Cc) (scope : Scope) : Cc := { c with sc := relS scope c.sc, asg := ownNames scope.names }
def cComp (c : Cc) (f fi : Expr → Option E) (elt : Expr) (gens : List Comprehension) (scope : Scope) : Option E :=
  match gens with
  | [⟨tg, iter, ifs, 0⟩] =>
    if L2.blkC c.N c.sc scope (ownOf c.N scope.names) && notSet iter then match fi elt, cTg (inComp c scope) tg, cIt c f tg iter, cIfs fi ifs with
      | some e', some t', some i', some f' => if tgIn ((ownOf c.N scope.names).map (·.2)) t' then some (.comp ((ownOf c.N scope.names).map (·.2)) e' t' i' f') else none
      | _, _, _, _ => none
    else none
  | [⟨tg, iter, ifs, 0⟩, ⟨tg1, iter1, ifs1, 0⟩] =>
    if L2.blkC c.N c.sc scope (ownOf c.N scope.names) && notSet iter && notSet iter1 then match fi elt, cTg (inComp c scope) tg, cIt c f tg iter, cIfs fi ifs, cTg (inComp c scope) tg1, cIt (inComp c scope) fi tg1 iter1, cIfs fi ifs1 with
      | some e', some t', some i', some f', some t1, some i1, some f1 => if tgIn ((ownOf c.N scope.names).map (·.2)) t' && tgIn ((ownOf c.N scope.names).map (·.2)) t1 then some (.comp2 ((ownOf c.N scope.names).map (·.2)) (slotsT t1) e' t' i' f' t1 i1 f1) else none
      | _, _, _, _, _, _, _ => none
    else none
  | _ => none
def cCallN (c : Cc) (f : Expr → Option E) (x : Str) (es : List Expr) (kws : List Keyword) : Option E :=
  match (if isGlb (c.sc.names.lookup x) && !badName x then c.fid.lookup x else none) with
  | some (g, ps) => match kws with
    | [] => if ps.length = es.length then (cEx f es).map (.call g) else none
    | kws => match kwNames kws, cEx f (es ++ kwVals kws) with
      | some ks, some es' => match permOf es.length ks ps 0 with
        | some perm => if c.kwt.any (fun q => decide (q = (g, es.length, ks, perm))) && decide (perm.length = ps.length) then some (.callK g es' perm) else none
        | none => none
      | _, _ => none
  | none => match es, kws with
    | [a], [] => match cSet c f x a with
      | some e => some e
      | none => match cVals c f x a with
        | some e => some e
        | none => cCall1 c f x a
    | [a, b], [] => cCall2 c f x a b
    | _, _ => none
/-- d.get(k), d.get(k, x) -/
def cGet (f : Expr → Option E) (o : Expr) (apos : Pos) (es : List Expr) (kws : List Keyword) (cpos : Pos) : Option E :=
  if apos.endLine == cpos.line && plainBase o then match es, kws with
    | [a], [] => if noStar a then match f o, f a with
      | some o', some a' => some (.get1 o' a')
      | _, _ => none else none
    | [a, b], [] => if noStar a && noStar b then match f o, f a, f b with
      | some o', some a', some b' => some (.get2 o' a' b')
      | _, _, _ => none else none
    | _, _ => none
  else none
def cMeth (f : Expr → Option E) (o : Expr) (m : Str) (apos : Pos) (es : List Expr) (kws : List Keyword) (cpos : Pos) : Option E :=
  match o, es, kws with
  | .Name y py, [], [] => match methOf m, f (.Name y py) with
    | some k, some o' => if apos.endLine == cpos.line && decide (m = ("pop" : Str)) then some (.meth k o' .nil) else none
    | _, _ => none
  | .Name y py, [a], [] => match methOf m, f (.Name y py), f a with
    | some k, some o', some a' => if apos.endLine == cpos.line && noStar a then some (.meth k o' (.cons a' .nil)) else none
    | _, _, _ => none
  | _, _, _ => none
def cCall (c : Cc) (f : Expr → Option E) (fn : Expr) (es : List Expr) (kws : List Keyword) (pos : Pos) : Option E :=
  match fn with
  | .Name x _ => cCallN c f x es kws
  | .Attribute o m apos => if m = ("get" : Str) then cGet f o apos es kws pos else cMeth f o m apos es kws pos
  | _ => none
def cE : Nat → Cc → Expr → Option E
  | 0, _, _ => none
  | n + 1, c, e => match e with
    | .Name x _ => cName c x
    | .Constant k _ _ => cConst k
    | .BinOp a op b _ => match cE n c a, cE n c b with
      | some a', some b' => some (.bin op a' b')
      | _, _ => none
    | .UnaryOp op a _ => cUn (cE n c) op a
    | .BoolOp op es _ => cBool (cE n c) op es
    | .Compare a ops bs _ => cCompare (cE n c) a ops bs
    | .IfExp t a b _ => match tst (cE n c t), cE n c a, cE n c b with
      | some t', some a', some b' => some (.ite t' a' b')
      | _, _, _ => none
    | .Tuple es _ _ => (cEs (cE n c) es).map .tup
    | .List es _ => (cEs (cE n c) es).map .lst
    | .Subscript a i _ => cSub (cE n c) a i
    | .ListComp elt gens scope _ => cComp c (cE n c) (cE n (inComp c scope)) elt gens scope
    | .Call fn es kws pos => cCall c (cE n c) fn es kws pos
    | _ => none
end Mi
end

section
set_option maxRecDepth 100000
/-! MiSnd: expressions: what the evaluator answers is what the model answers. -/
namespace Mi
open PySem PySem.Spec PyProof.Rows L2

theorem _root_.L2.PE.imp {X : Cx} {e : Expr} {t t' : TE} (h : PE X e t) (k : ∀ σ H Q, t' σ H Q → t σ H Q) : PE X e t' := ⟨fun pins s σ H Q I q => h.run pins s σ H Q I (k σ H Q q)⟩
theorem _root_.L2.PT.imp {X : Cx} {e : Expr} {t t' : TT} (h : PT X e t) (k : ∀ σ H Q, t' σ H Q → t σ H Q) : PT X e t' := ⟨fun pins s σ H Q I q => h.run pins s σ H Q I (k σ H Q q)⟩
theorem _root_.L2.PW.imp {X : Cx} {e : Expr} {t t' : TT} (h : PW X e t) (k : ∀ σ H Q, t' σ H Q → t σ H Q) : PW X e t' := ⟨fun wh pins s σ H Q I q => h.run wh pins s σ H Q I (k σ H Q q)⟩
theorem _root_.L2.PA.imp {X : Cx} {es : List Expr} {t t' : TA} (h : PA X es t) (k : ∀ σ H Q, t' σ H Q → t σ H Q) : PA X es t' := ⟨fun pos pins s σ H Q I q => h.run pos pins s σ H Q I (k σ H Q q)⟩

/-! ### readings -/
def tE (T : Tb) (cx : Ctx) (W : WX) (e : E) : TE := fun σ H Q => ∃ Z μ s ρ, StOk T.K Z μ s H ∧ RhoOk T.K Z μ s H ρ σ ∧ Po T W σ Z μ s H (ev cx e ρ s) (XOk T Z) Q
def tF (T : Tb) (cx : Ctx) (W : WX) (e : E) : TE := fun σ H Q => ∃ Z μ s ρ, StOk T.K Z μ s H ∧ RhoOk T.K Z μ s H ρ σ ∧ Pf T W σ Z μ s H (ev cx e ρ s) Q
def tT (T : Tb) (cx : Ctx) (W : WX) (e : E) : TT := tB (tE T cx W e)
def XsOk (T : Tb) (Z : List Addr) : List Addr → Sto → Hp → List V → List Xv → Prop := fun μ s H us xs => XvsOk T.K Z μ s H us xs
def DsOk (T : Tb) (Z : List Addr) : List Addr → Sto → Hp → List V → List PyData → Prop := fun μ s H us ds => RvAll T.K H (Bz μ s Z) us ds
def tX (T : Tb) (cx : Ctx) (W : WX) (es : Es) : TA := fun σ H Q => ∃ Z μ s ρ, StOk T.K Z μ s H ∧ RhoOk T.K Z μ s H ρ σ ∧ Po T W σ Z μ s H (evx cx es ρ s) (XsOk T Z) Q
def tD (T : Tb) (cx : Ctx) (W : WX) (es : Es) : TA := fun σ H Q => ∃ Z μ s ρ, StOk T.K Z μ s H ∧ RhoOk T.K Z μ s H ρ σ ∧ Po T W σ Z μ s H (evs cx es ρ s) (DsOk T Z) Q
theorem tE_tF {T : Tb} {cx : Ctx} {W : WX} {e : E} (σ : L2.St) (H : Hp) (Q : VK) (h : tE T cx W e σ H Q) : tF T cx W e σ H Q := by
  obtain ⟨Z, μ, s, ρ, st, rh, po⟩ := h
  exact ⟨Z, μ, s, ρ, st, rh, po.pf st⟩
theorem _root_.L2.PE.ofF {T : Tb} {cx : Ctx} {W : WX} {X : Cx} {a : Expr} {e : E} (h : PE X a (tF T cx W e)) : PE X a (tE T cx W e) := h.imp tE_tF

/-! ### the context -/
/-- a def's promise: what the evaluator answers to its call -/
def spX (T : Tb) (cx : Ctx) (f : Nat) (ps : List Str) : Sp := fun vs H Q E => ∃ σ Z μ s xs, xs.length = ps.length ∧ StOk T.K Z μ s H ∧ XvsOk T.K Z μ s H vs xs ∧ Po T (fun cls d _ H' => E cls d H') σ Z μ s H (cx.call f xs s) (XOk T Z) Q
/-- what is asked of an error class: where it stands, its field, over LookupError? -/
structure XcOk (P : Program) (K : PySem.W.Frag) (C : Addr) (fo : Option Str) (lk : Bool) : Prop where
  exc : ExcC K C
  xf : XfC K C
  isL : PySem.W.kitOne K (.ref C) (.type "LookupError") = some lk
  isV : PySem.W.kitOne K (.ref C) (.type "ValueError") = some (!lk)
  kC : PySem.W.keepIn K (.ref C) = true
  tyC : PySem.W.typeIn K (.ref C) = some (.type "type")
  made : ∀ f, fo = some f → PySem.W.findIn K (.ref C) f = some none ∧ ∃ B newId initId bmB fI d, InitD.Ok d ∧ d.f = f ∧ SupC P K B newId initId bmB C fI d ∧ PySem.W.KxsFacts B initId ∧ ExcBaseFacts B newId initId bmB ∧ StoreFacts B bmB "object.__setattr__" "object"
  bare : fo = none → ∃ B newId initId bmB, ExcBaseFacts B newId initId bmB ∧ PySem.W.excIn K C bmB newId = true
structure Good (T : Tb) (cx : Ctx) (W : WX) (k : Nat) (c : Cc) (X : Cx) : Prop where
  K : T.K = X.K
  N : X.N = c.N
  sc : X.env.scope = c.sc
  nd : X.N.Nodup
  calm : X.calm = true
  room : Room k X.A
  fnk : ∀ x, c.asg.any (fun y => decide (x = y)) = true → X.fn x = true ∨ X.env.scope.names.lookup x = some .local
  free : ∀ x, c.free.any (fun y => decide (x = y)) = true → X.mg x = none
  takes : Takes X W
  glob : ∀ x g d, c.gid.lookup x = some g → cx.glob g = some d → ∃ v u, X.mg x = some u ∧ RelV v u ∧ ∀ H B, Rv T.K H B v d
  fns : ∀ x f ps, c.fid.lookup x = some (f, ps) → ∃ a fd, X.mg x = some (.ref a) ∧ PySem.W.keepIn X.K (.ref a) = true ∧ FnOk X.prog X.w X.K X.mg X.base (L2.CX X.prog X.w) k a fd ps (spX T cx f ps) ∧ Binds X.K fd ps [] ∧
    ∀ (n : Nat) (ks : List Str) (perm : List Nat), (f, n, ks, perm) ∈ c.kwt → ∀ (s : Shared) (us ws zs : List Value), us.length = n → ws.length = ks.length → pick (us ++ ws) perm = some zs → BindsTo s fd ⟨us, ks.zip ws⟩ (ps.zip zs)
  xcs : ∀ x fo lk, c.xc.lookup x = some (fo, lk) → ∃ C, X.mg x = some (.ref C) ∧ T.xc x = some (C, fo) ∧ XcOk X.prog X.K C fo lk
  exm : ∀ x y C C' fo fo', T.xc x = some (C, fo) → T.xc y = some (C', fo') → PySem.W.exmOne X.K (.ref C) (.ref C') = some (decide (x = y))
section
variable {T : Tb} {cx : Ctx} {W : WX} {k : Nat} {c : Cc} {X : Cx}
theorem Good.u65 (G : Good T cx W k c X) : X.A.units + 70 < cLine := by have := G.room.un; omega

/-! ### names, constants -/
theorem idx_at : ∀ {N : List Str} {x : Str} {j i : Nat}, idx x N j = some i → ∃ m, i = j + m ∧ N[m]? = some x
  | [], _, _, _, h => by simp [idx] at h
  | y :: r, x, j, i, h => by
    unfold idx at h
    split at h
    · rename_i e
      have := Option.some.inj h
      exact ⟨0, by omega, by rw [e]; rfl⟩
    · obtain ⟨m, e1, e2⟩ := idx_at h
      exact ⟨m + 1, by omega, e2⟩
theorem idx_get {N : List Str} {x : Str} {i : Nat} (h : idx x N 0 = some i) : N[i]? = some x := by
  obtain ⟨m, e1, e2⟩ := idx_at h
  rw [e1, Nat.zero_add]
  exact e2
theorem isVis_vis {sc : Scope} {x : Str} (h : isVis (sc.names.lookup x) = true) : Vis sc x := by
  unfold isVis at h
  split at h
  · exact .inl (by assumption)
  · exact .inr (.inl (by assumption))
  · exact .inr (.inr (by assumption))
  · cases h
theorem isLoc_loc {sc : Scope} {x : Str} (h : isLoc (sc.names.lookup x) = true) : Loc sc x := by
  unfold isLoc at h
  split at h
  · exact .inl (by assumption)
  · exact .inr (by assumption)
  · cases h
theorem badName_of {x : Str} (h : badName x = false) : (x == ("__debug__" : Str)) = false ∧ (x == ("__classdict__" : Str)) = false ∧ x ≠ "__name__" := by
  unfold badName at h
  rw [Bool.or_eq_false_iff, Bool.or_eq_false_iff] at h
  exact ⟨h.1.1, h.1.2, fun z => by rw [z] at h; have := h.2; simp at this⟩
theorem isGlb_of (G : Good T cx W k c X) {x : Str} (h : isGlb (c.sc.names.lookup x) = true) : Gl X x := by
  unfold isGlb at h
  split at h
  · rename_i e
    show X.env.scope.names.lookup x = _
    rw [G.sc]
    exact e
  · cases h
theorem cBlt_of (G : Good T cx W k c X) {x : Str} (h : cBlt c x = true) : Gl X x ∧ X.mg x = none ∧ (x == ("__debug__" : Str)) = false ∧ x ≠ "__name__" := by
  unfold cBlt at h
  rw [Bool.and_eq_true, Bool.and_eq_true] at h
  obtain ⟨⟨h1, h2⟩, h3⟩ := h
  have h2' : badName x = false := by simpa using h2
  exact ⟨isGlb_of G h1, G.free x h3, (badName_of h2').1, (badName_of h2').2.2⟩
theorem cVar_of (G : Good T cx W k c X) {x : Str} {i : Nat} (h : cVar c x = some i) : X.N[i]? = some x ∧ Vis X.env.scope x ∧ (x == ("__debug__" : Str)) = false ∧ (x == ("__classdict__" : Str)) = false := by
  unfold cVar at h
  split at h
  · rename_i hc
    rw [Bool.and_eq_true] at hc
    have h2' : badName x = false := by simpa using hc.2
    refine ⟨by rw [G.N]; exact idx_get h, by rw [G.sc]; exact isVis_vis hc.1, (badName_of h2').1, (badName_of h2').2.1⟩
  · cases h
theorem pe_varX (G : Good T cx W k c X) {x : Str} {pos : Pos} {i : Nat} (h : cVar c x = some i) : PE X (.Name x pos) (tE T cx W (.var i)) := by
  obtain ⟨h1, h2, h3, h4⟩ := cVar_of G h
  refine (pe_var (X := X) h1 h2 h3 h4).imp fun σ H Q q => ?_
  obtain ⟨Z, μ, s, ρ, st, rh, po⟩ := q
  unfold ev at po
  split at po
  · rename_i x' e
    obtain ⟨u, e1, r⟩ := rh.at_ i x' e
    exact ⟨u, e1, po μ H u (Nx.refl _ _ _) st r⟩
  · exact absurd po fun z => z
theorem pe_cName (G : Good T cx W k c X) {x : Str} {pos : Pos} {e' : E} (h : cName c x = some e') : PE X (.Name x pos) (tE T cx W e') := by
  unfold cName at h
  split at h
  · rename_i i e
    cases Option.some.inj h
    exact pe_varX G e
  · split at h
    · rename_i hc
      rw [Bool.and_eq_true] at hc
      have h2' : badName x = false := by simpa using hc.2
      cases e : c.gid.lookup x with
      | none => rw [e] at h; cases h
      | some g =>
        rw [e] at h
        cases Option.some.inj h
        cases eg : cx.glob g with
        | none =>
          refine ⟨fun pins s σ H Q I q => ?_⟩
          obtain ⟨Z, μ, s, ρ, st, rh, po⟩ := q
          unfold ev at po
          rw [eg] at po
          exact absurd po fun z => z
        | some d =>
          obtain ⟨v, u, e1, r, rv⟩ := G.glob x g d e eg
          refine (pe_glob (isGlb_of G hc.1) e1 r (badName_of h2').1).imp fun σ H Q q => ?_
          obtain ⟨Z, μ, s, ρ, st, rh, po⟩ := q
          unfold ev at po
          rw [eg] at po
          exact po μ H v (Nx.refl _ _ _) st (rv _ _)
    · cases h
theorem pe_cConst {kk : Const} {j : Nat} {pos : Pos} {e' : E} (h : cConst kk = some e') : PE X (.Constant kk j pos) (tE T cx W e') := by
  cases kk with
  | int i =>
    cases Option.some.inj h
    refine pe_int.imp fun σ H Q q => ?_
    obtain ⟨Z, μ, s, ρ, st, rh, po⟩ := q
    exact po μ H _ (Nx.refl _ _ _) st (.int i)
  | bool b =>
    cases Option.some.inj h
    refine pe_bl.imp fun σ H Q q => ?_
    obtain ⟨Z, μ, s, ρ, st, rh, po⟩ := q
    exact po μ H _ (Nx.refl _ _ _) st (.bl b)
  | none =>
    cases Option.some.inj h
    refine pe_non.imp fun σ H Q q => ?_
    obtain ⟨Z, μ, s, ρ, st, rh, po⟩ := q
    exact po μ H _ (Nx.refl _ _ _) st .non
  | str x =>
    cases Option.some.inj h
    refine pe_str.imp fun σ H Q q => ?_
    obtain ⟨Z, μ, s, ρ, st, rh, po⟩ := q
    exact po μ H _ (Nx.refl _ _ _) st (.str x)
  | _ => simp [cConst] at h

/-! ### operators -/
theorem Pf.bind {σ : L2.St} {Z μ : List Addr} {s : Sto} {H : Hp} {Q : VK} {α α' : Type} {r : R α} {f : α → Sto → R Xv} {Ok1 : List Addr → Sto → Hp → α' → α → Prop} {P : α' → Hp → Prop}
    (h : Pf T W σ Z μ s H (r.bind f) Q)
    (k : ∀ a s1 μ1 H1 b, r = .ok a s1 → Nx μ s H μ1 s1 H1 → StOk T.K Z μ1 s1 H1 → Ok1 μ1 s1 H1 b a → Pf T W σ Z μ1 s1 H1 (f a s1) Q → P b H1) : Po T W σ Z μ s H r Ok1 P := by
  cases r with
  | ok a s1 =>
    intro μ1 H1 b nx st ok
    refine k a s1 μ1 H1 b rfl nx st ok ?_
    have h' : Pf T W σ Z μ s H (f a s1) Q := h
    unfold Pf at h' ⊢
    split at h'
    · exact fun μ2 H2 p vs nx2 st2 hp => h' μ2 H2 p vs (nx.trans nx2) st2 (by
        cases e : H p with
        | none => rfl
        | some o => exact absurd hp (nx.dom p (by rw [e]; exact fun z => nomatch z)))
    · exact Po.nx h' nx
  | exc c as s1 => exact h
  | err => exact h
variable {a b d : Expr} {a' b' d' : E} {pos : Pos}
theorem pe_binX (G : Good T cx W k c X) (op : Operator) (ha : PE X a (tE T cx W a')) (hb : PE X b (tE T cx W b')) : PE X (.BinOp a op b pos) (tF T cx W (.bin op a' b')) := by
  refine (pe_op (op_binX (W := W) G.K op) ha hb).imp fun σ H Q q => ?_
  obtain ⟨Z, μ, s, ρ, st, rh, po⟩ := q
  unfold ev at po
  refine ⟨Z, μ, s, ρ, st, rh, po.bind fun x s1 μ1 H1 u e1 nx1 st1 xo po1 => ?_⟩
  refine ⟨Z, μ1, s1, ρ, st1, rh.nx nx1, po1.bind fun y s2 μ2 H2 w e2 nx2 st2 yo po2 => ?_⟩
  exact ⟨σ, Z, μ2, s2, x, y, st2, XvOk.nx nx2 xo, yo, po2⟩
theorem pe_negX (ha : PE X a (tE T cx W a')) : PE X (.UnaryOp .USub a pos) (tE T cx W (.neg a')) := by
  refine (pe_un (un_negX (T := T) (W := W)) ha).imp fun σ H Q q => ?_
  obtain ⟨Z, μ, s, ρ, st, rh, po⟩ := q
  unfold ev at po
  exact ⟨Z, μ, s, ρ, st, rh, po.bind fun x s1 μ1 H1 u e1 nx1 st1 xo po1 => ⟨σ, Z, μ1, s1, x, st1, xo, po1⟩⟩
theorem tOp_cmp {op : CmpOp} (σ : L2.St) (H : Hp) (Q : VK) (q : tE T cx W (.cmp op a' b') σ H Q) : tOp (r2X T W (cmpX op)) (tE T cx W a') (tE T cx W b') σ H Q := by
  obtain ⟨Z, μ, s, ρ, st, rh, po⟩ := q
  unfold ev at po
  refine ⟨Z, μ, s, ρ, st, rh, po.bind fun x s1 μ1 H1 u e1 nx1 st1 xo po1 => ?_⟩
  refine ⟨Z, μ1, s1, ρ, st1, rh.nx nx1, po1.bind fun y s2 μ2 H2 w e2 nx2 st2 yo po2 => ?_⟩
  exact ⟨σ, Z, μ2, s2, x, y, st2, XvOk.nx nx2 xo, yo, po2⟩
theorem pe_cmpX (G : Good T cx W k c X) (op : CmpOp) (hm : behindInMarks op b = false) (ha : PE X a (tE T cx W a')) (hb : PE X b (tE T cx W b')) : PE X (.Compare a [op] [b] pos) (tE T cx W (.cmp op a' b')) :=
  (pe_cmpR (op_cmpX (W := W) G.K (by have := G.u65; omega) op) ha hb hm).imp tOp_cmp
theorem pt_cmpX (G : Good T cx W k c X) (op : CmpOp) (hm : behindInMarks op b = false) (ha : PE X a (tE T cx W a')) (hb : PE X b (tE T cx W b')) : PT X (.Compare a [op] [b] pos) (tT T cx W (.cmp op a' b')) :=
  (pt_cmpR (op_cmpX (W := W) G.K (by have := G.u65; omega) op) ha hb hm).imp fun σ H Q q => tOp_cmp σ H _ q
theorem tChain_X {op op' : CmpOp} (σ : L2.St) (H : Hp) (Q : VK) (q : tE T cx W (.chain op op' a' b' d') σ H Q) : tChain (r2X T W (cmpX op)) (r2X T W (cmpX op')) (tE T cx W a') (tE T cx W b') (tE T cx W d') σ H Q := by
  obtain ⟨Z, μ, s, ρ, st, rh, po⟩ := q
  unfold ev at po
  refine ⟨Z, μ, s, ρ, st, rh, po.bind fun x s1 μ1 H1 u e1 nx1 st1 xo po1 => ?_⟩
  refine ⟨Z, μ1, s1, ρ, st1, rh.nx nx1, po1.bind fun y s2 μ2 H2 w e2 nx2 st2 yo po2 => ?_⟩
  refine ⟨σ, Z, μ2, s2, x, y, st2, XvOk.nx nx2 xo, yo, po2.bind fun z s3 μ3 H3 v e3 nx3 st3 zo po3 => ?_⟩
  split at po3
  · have zo : Rv T.K H3 (Bz μ3 s3 Z) v (.bool true) := zo
    cases zo
    refine ⟨true, rfl, ?_⟩
    refine iteT ?_
    refine ⟨Z, μ3, s3, ρ, st3, ((rh.nx nx1).nx nx2).nx nx3, po3.bind fun z s4 μ4 H4 v e4 nx4 st4 vo po4 => ?_⟩
    exact ⟨σ, Z, μ4, s4, y, z, st4, XvOk.nx nx4 (XvOk.nx nx3 yo), vo, po4⟩
  · have zo : Rv T.K H3 (Bz μ3 s3 Z) v (.bool false) := zo
    cases zo
    refine ⟨false, rfl, ?_⟩
    refine iteF ?_
    exact po3 μ3 H3 _ (Nx.refl _ _ _) st3 (.bl false)
  · exact absurd po3 fun z => z
theorem pe_chainX (G : Good T cx W k c X) (op op' : CmpOp) (hm : lastMarks [op, op'] [b, d] = false) (ha : PE X a (tE T cx W a')) (hb : PE X b (tE T cx W b')) (hd : PE X d (tE T cx W d')) : PE X (.Compare a [op, op'] [b, d] pos) (tE T cx W (.chain op op' a' b' d')) :=
  (pe_chain (op_cmpX (W := W) G.K (by have := G.u65; omega) op) (op_cmpX (W := W) G.K (by have := G.u65; omega) op') ha hb hd hm).imp tChain_X
theorem pt_chainX (G : Good T cx W k c X) (op op' : CmpOp) (hm : lastMarks [op, op'] [b, d] = false) (ha : PE X a (tE T cx W a')) (hb : PE X b (tE T cx W b')) (hd : PE X d (tE T cx W d')) : PT X (.Compare a [op, op'] [b, d] pos) (tT T cx W (.chain op op' a' b' d')) :=
  (pt_chain (op_cmpX (W := W) G.K (by have := G.u65; omega) op) (op_cmpX (W := W) G.K (by have := G.u65; omega) op') ha hb hd hm).imp fun σ H Q q => tChain_X σ H _ q

/-! ### and, or, not, if -/
variable {rest : List Expr}
theorem bl_of {Z μ : List Addr} {s : Sto} {H : Hp} {u : V} {b : Bool} (h : XvOk T.K Z μ s H u (.v (.bool b))) : u = .bl b := by
  have h : Rv T.K H (Bz μ s Z) u (.bool b) := h
  cases h
  rfl
theorem pe_andX (ha : PE X a (tE T cx W a')) (hb : PE X (.BoolOp .And (b :: rest) pos) (tE T cx W b')) : PE X (.BoolOp .And (a :: b :: rest) pos) (tE T cx W (.and a' b')) := by
  refine (pe_and ha hb).imp fun σ H Q q => ?_
  obtain ⟨Z, μ, s, ρ, st, rh, po⟩ := q
  unfold ev at po
  refine ⟨Z, μ, s, ρ, st, rh, po.bind fun x s1 μ1 H1 u e1 nx1 st1 xo po1 => ?_⟩
  split at po1
  · refine ⟨true, bl_of xo, ?_⟩
    refine iteT ?_
    exact ⟨Z, μ1, s1, ρ, st1, rh.nx nx1, po1⟩
  · refine ⟨false, bl_of xo, ?_⟩
    refine iteF ?_
    exact po1 μ1 H1 _ (Nx.refl _ _ _) st1 (.bl false)
  · exact absurd po1 fun z => z
theorem pw_andX (ha : PT X a (tT T cx W a')) (hb : PW X (.BoolOp .And (b :: rest) pos) (tT T cx W b')) : PW X (.BoolOp .And (a :: b :: rest) pos) (tT T cx W (.and a' b')) := by
  refine (pw_and ha hb).imp fun σ H Q q => ?_
  obtain ⟨Z, μ, s, ρ, st, rh, po⟩ := q
  unfold ev at po
  refine ⟨Z, μ, s, ρ, st, rh, po.bind fun x s1 μ1 H1 u e1 nx1 st1 xo po1 => ?_⟩
  split at po1
  · refine ⟨true, bl_of xo, ?_⟩
    refine iteT ?_
    exact ⟨Z, μ1, s1, ρ, st1, rh.nx nx1, po1⟩
  · refine ⟨false, bl_of xo, ?_⟩
    refine iteF ?_
    obtain ⟨k, e, q⟩ := po1 μ1 H1 _ (Nx.refl _ _ _) st1 (.bl false)
    cases e
    exact q
  · exact absurd po1 fun z => z
theorem pe_orX (G : Good T cx W k c X) (ha : PE X a (tE T cx W a')) (hb : PE X (.BoolOp .Or (b :: rest) pos) (tE T cx W b')) : PE X (.BoolOp .Or (a :: b :: rest) pos) (tE T cx W (.or a' b')) := by
  refine (pe_orT ha hb).imp fun σ H Q q => ?_
  obtain ⟨Z, μ, s, ρ, st, rh, po⟩ := q
  unfold ev at po
  refine ⟨Z, μ, s, ρ, st, rh, po.bind fun x s1 μ1 H1 u e1 nx1 st1 xo po1 => ?_⟩
  split at po1
  · have e := bl_of xo
    subst e
    refine ⟨true, rfl, ?_⟩
    refine iteT ?_
    exact po1 μ1 H1 _ (Nx.refl _ _ _) st1 (.bl true)
  · have e := bl_of xo
    subst e
    refine ⟨false, rfl, ?_⟩
    refine iteF ?_
    exact ⟨Z, μ1, s1, ρ, st1, rh.nx nx1, po1⟩
  · exact absurd po1 fun z => z
theorem pe_orLX (ha : PE X a (tF T cx W a')) (hb : PE X b (tF T cx W b')) : PE X (.BoolOp .Or [a, b] pos) (tF T cx W (.orL a' b')) := by
  refine (pe_orT ha (pe_one hb)).imp fun σ H Q q => ?_
  obtain ⟨Z, μ, s, ρ, st, rh, po⟩ := q
  refine ⟨Z, μ, s, ρ, st, rh, ?_⟩
  unfold ev at po
  generalize hr : ev cx a' ρ s = r at po ⊢
  cases r with
  | err => exact po
  | exc c as s1 => exact po
  | ok x s1 =>
    simp only [R.bind_ok] at po
    split at po
    · intro μ1 H1 p vs nx1 st1 hp hl rv
      cases rv
      refine ⟨false, .inl ⟨_, .inl (.inl hl), rfl⟩, ?_⟩
      refine iteF ?_
      have nz : p ∉ Z := fun z => by
        obtain ⟨o, e⟩ := st.zin p z
        rw [hp] at e
        cases e
      refine ⟨Z, μ1, s1, ρ, st1.unZ, rh.nx nx1, ?_⟩
      unfold Pf at po ⊢
      split at po
      · exact fun μ2 H2 p2 vs nx2 st2 hp2 => po μ2 H2 p2 vs (nx1.trans nx2) st2 (by
          cases e : H p2 with
          | none => rfl
          | some o => exact absurd hp2 (nx1.dom p2 (by rw [e]; exact fun z => nomatch z)))
      · exact Po.nx po nx1
    · intro μ1 H1 p vs nx1 st1 hp hl rv
      cases rv with
      | cons r1 r2 =>
        refine ⟨true, .inl ⟨_, .inl (.inl hl), rfl⟩, ?_⟩
        refine iteT ?_
        exact po μ1 H1 p _ nx1 st1 hp hl (.cons r1 r2)
    · exact absurd po fun z => z
theorem pw_orX (ha : PT X a (tT T cx W a')) (hb : PW X (.BoolOp .Or (b :: rest) pos) (tT T cx W b')) : PW X (.BoolOp .Or (a :: b :: rest) pos) (tT T cx W (.or a' b')) := by
  refine (pw_or ha hb).imp fun σ H Q q => ?_
  obtain ⟨Z, μ, s, ρ, st, rh, po⟩ := q
  unfold ev at po
  refine ⟨Z, μ, s, ρ, st, rh, po.bind fun x s1 μ1 H1 u e1 nx1 st1 xo po1 => ?_⟩
  split at po1
  · refine ⟨true, bl_of xo, ?_⟩
    refine iteT ?_
    obtain ⟨k, e, q⟩ := po1 μ1 H1 _ (Nx.refl _ _ _) st1 (.bl true)
    cases e
    exact q
  · refine ⟨false, bl_of xo, ?_⟩
    refine iteF ?_
    exact ⟨Z, μ1, s1, ρ, st1, rh.nx nx1, po1⟩
  · exact absurd po1 fun z => z
theorem tNot_X (σ : L2.St) (H : Hp) (Q : VK) (q : tE T cx W (.not a') σ H Q) : tNotV (tE T cx W a') σ H Q := by
  obtain ⟨Z, μ, s, ρ, st, rh, po⟩ := q
  unfold ev at po
  refine ⟨Z, μ, s, ρ, st, rh, po.bind fun x s1 μ1 H1 u e1 nx1 st1 xo po1 => ?_⟩
  unfold notX at po1
  split at po1
  · exact ⟨_, bl_of xo, po1 μ1 H1 _ (Nx.refl _ _ _) st1 (.bl _)⟩
  · exact absurd po1 fun z => z
theorem pe_notX (ha : PE X a (tE T cx W a')) : PE X (.UnaryOp .Not a pos) (tE T cx W (.not a')) := (pe_not ha).imp tNot_X
theorem pt_notX (ha : PT X a (tT T cx W a')) : PT X (.UnaryOp .Not a pos) (tT T cx W (.not a')) := by
  refine (pt_not ha).imp fun σ H Q q => ?_
  obtain ⟨Z, μ, s, ρ, st, rh, po⟩ := q
  unfold ev at po
  refine ⟨Z, μ, s, ρ, st, rh, po.bind fun x s1 μ1 H1 u e1 nx1 st1 xo po1 => ?_⟩
  unfold notX at po1
  split at po1
  · rename_i b
    obtain ⟨k, e, q⟩ := po1 μ1 H1 (.bl (!b)) (Nx.refl _ _ _) st1 (.bl _)
    cases e
    exact ⟨b, bl_of xo, q⟩
  · exact absurd po1 fun z => z
theorem pe_iteX (hc : PT X d (tT T cx W d')) (ha : PE X a (tE T cx W a')) (hb : PE X b (tE T cx W b')) : PE X (.IfExp d a b pos) (tE T cx W (.ite d' a' b')) := by
  refine (pe_ifExp hc ha hb).imp fun σ H Q q => ?_
  obtain ⟨Z, μ, s, ρ, st, rh, po⟩ := q
  unfold ev at po
  refine ⟨Z, μ, s, ρ, st, rh, po.bind fun x s1 μ1 H1 u e1 nx1 st1 xo po1 => ?_⟩
  split at po1
  · refine ⟨true, bl_of xo, ?_⟩
    refine iteT ?_
    exact ⟨Z, μ1, s1, ρ, st1, rh.nx nx1, po1⟩
  · refine ⟨false, bl_of xo, ?_⟩
    refine iteF ?_
    exact ⟨Z, μ1, s1, ρ, st1, rh.nx nx1, po1⟩
  · exact absurd po1 fun z => z
end
end Mi
end

section
set_option maxRecDepth 100000
/-! MiSnd2: arguments, displays, calls, places, slices, methods. -/
namespace Mi
open PySem PySem.Spec PyProof.Rows L2
section
variable {T : Tb} {cx : Ctx} {W : WX} {k : Nat} {c : Cc} {X : Cx}

/-! ### lists of expressions -/
theorem star_no {e : Expr} {es : List Expr} {env : Env} (h : noStar e = true) : starEach (e :: es) env = (false, eval e env) :: starEach es env := by
  cases e <;> first | rfl | (simp [noStar] at h)
theorem cEx_cons {f : Expr → Option E} {e : Expr} {r : List Expr} {es' : Es} (h : cEx f (e :: r) = some es') : noStar e = true ∧ ∃ e' r', f e = some e' ∧ cEx f r = some r' ∧ es' = .cons e' r' := by
  unfold cEx at h
  cases hn : noStar e with
  | false => rw [hn] at h; simp at h
  | true =>
    rw [hn] at h
    simp only [if_true] at h
    cases h1 : f e with
    | none => rw [h1] at h; cases h
    | some e' =>
      cases h2 : cEx f r with
      | none => rw [h1, h2] at h; cases h
      | some r' =>
        rw [h1, h2] at h
        exact ⟨rfl, e', r', rfl, rfl, (Option.some.inj h).symm⟩
theorem pa_X {f : Expr → Option E} (hf : ∀ e e', f e = some e' → PE X e (tE T cx W e')) : ∀ {es : List Expr} {es' : Es}, cEx f es = some es' → PA X es (tX T cx W es')
  | [], es', h => by
    cases Option.some.inj h
    refine pa_nil.imp fun σ H Q q => ?_
    obtain ⟨Z, μ, s, ρ, st, rh, po⟩ := q
    exact po μ H [] (Nx.refl _ _ _) st .nil
  | e :: r, es', h => by
    unfold cEx at h
    split at h
    · rename_i hn
      split at h
      · rename_i e' r' h1 h2
        cases Option.some.inj h
        refine (pa_cons (hf e e' h1) (pa_X hf h2) (star_no hn)).imp fun σ H Q q => ?_
        obtain ⟨Z, μ, s, ρ, st, rh, po⟩ := q
        unfold evx at po
        refine ⟨Z, μ, s, ρ, st, rh, po.bind fun x s1 μ1 H1 u e1 nx1 st1 xo po1 => ?_⟩
        refine ⟨Z, μ1, s1, ρ, st1, rh.nx nx1, po1.bind fun xs s2 μ2 H2 us e2 nx2 st2 xso po2 => ?_⟩
        exact po2 μ2 H2 (u :: us) (Nx.refl _ _ _) st2 (.cons (XvOk.nx nx2 xo) xso)
      · cases h
    · cases h
theorem pa_D (G : Good T cx W k c X) {f : Expr → Option E} (hf : ∀ e e', f e = some e' → PE X e (tE T cx W e')) : ∀ {es : List Expr} {es' : Es}, cEs f es = some es' → PA X es (tD T cx W es')
  | [], es', h => by
    cases Option.some.inj h
    refine pa_nil.imp fun σ H Q q => ?_
    obtain ⟨Z, μ, s, ρ, st, rh, po⟩ := q
    exact po μ H [] (Nx.refl _ _ _) st .nil
  | e :: r, es', h => by
    unfold cEs at h
    split at h
    · rename_i heq
      cases heq
    · rename_i e0 p0 r0 heq
      cases heq
      split at h
      · rename_i e' r' h1 h2
        cases Option.some.inj h
        refine (StX.pa_star (hf e0 e' h1) (pa_D G hf h2)).imp fun σ H Q q => ?_
        obtain ⟨Z, μ, s, ρ, st, rh, po⟩ := q
        unfold evs at po
        refine ⟨Z, μ, s, ρ, st, rh, po.bind fun x s1 μ1 H1 u e1 nx1 st1 xo po1 => ?_⟩
        cases ex : rd s1 x with
        | none => rw [ex] at po1; exact absurd po1 fun z => z
        | some dd =>
          rw [ex] at po1
          have q := rd_rq st1 xo ex
          cases es : seqOf dd with
          | none => rw [Option.bind_some, es] at po1; exact absurd po1 fun z => z
          | some ds =>
            rw [Option.bind_some, es] at po1
            simp only at po1
            have hq : ∃ a vs, u = .ref a ∧ (SqT X.K H1 a vs ∨ SqL X.K H1 a vs) ∧ RvAll T.K H1 (Bz μ1 s1 Z) vs ds := by
              cases dd with
              | list xs =>
                cases Option.some.inj es
                obtain ⟨a, vs, rfl, e3, r3⟩ := q
                exact ⟨a, vs, rfl, .inr (.inl (.inl e3)), r3⟩
              | tuple xs =>
                cases Option.some.inj es
                obtain ⟨a, vs, rfl, e3, r3⟩ := q
                rw [G.K] at e3
                exact ⟨a, vs, rfl, .inl e3, r3⟩
              | _ => simp [seqOf] at es
            obtain ⟨a, vs, rfl, e3, r3⟩ := hq
            refine ⟨a, vs, rfl, e3, ?_⟩
            refine ⟨Z, μ1, s1, ρ, st1, rh.nx nx1, po1.bind fun ys s2 μ2 H2 us e2 nx2 st2 yo po2 => ?_⟩
            exact po2 μ2 H2 (vs ++ us) (Nx.refl _ _ _) st2 ((r3.mv (nx2.mv Z)).append yo)
      · cases h
    · rename_i e0 r0 hns heq
      cases heq
      have hn : noStar e = true := by
        cases e with
        | Starred a p => exact absurd rfl (hns a p)
        | _ => rfl
      split at h
      · rename_i e' r' h1 h2
        cases Option.some.inj h
        refine (pa_cons (hf e e' h1) (pa_D G hf h2) (star_no hn)).imp fun σ H Q q => ?_
        obtain ⟨Z, μ, s, ρ, st, rh, po⟩ := q
        unfold evs at po
        refine ⟨Z, μ, s, ρ, st, rh, po.bind fun x s1 μ1 H1 u e1 nx1 st1 xo po1 => ?_⟩
        split at po1
        · rename_i dd s1' ef
          obtain ⟨nxf, stf, rf⟩ := fz_ok st1 xo ef
          refine ⟨Z, μ1, s1', ρ, stf, (rh.nx nx1).nx nxf, (po1.nx nxf).bind fun ys s2 μ2 H2 us e2 nx2 st2 yo po2 => ?_⟩
          exact po2 μ2 H2 (u :: us) (Nx.refl _ _ _) st2 (.cons (nx2.rv rf) yo)
        · exact absurd po1 fun z => z
      · cases h
variable {es : List Expr} {es' : Es} {pos : Pos} {j : Nat}
theorem pe_tupX (h : PA X es (tD T cx W es')) : PE X (.Tuple es j pos) (tE T cx W (.tup es')) := by
  refine (pe_tupN h).imp fun σ H Q q => ?_
  obtain ⟨Z, μ, s, ρ, st, rh, po⟩ := q
  unfold ev at po
  refine ⟨Z, μ, s, ρ, st, rh, po.bind fun ds s1 μ1 H1 us e1 nx1 st1 uo po1 => ?_⟩
  unfold madeT at po1
  split at po1
  · rename_i hz
    refine ⟨?_, po1.tupN st1 uo⟩
    have uo : RvAll T.K H1 (Bz μ1 s1 Z) us ds := uo
    rw [uo.length]
    exact szOk_le hz
  · exact absurd po1 fun z => z
theorem pe_lstX (h : PA X es (tD T cx W es')) : PE X (.List es pos) (tF T cx W (.lst es')) := by
  refine (pe_lst h).imp fun σ H Q q => ?_
  obtain ⟨Z, μ, s, ρ, st, rh, po⟩ := q
  unfold ev at po
  refine ⟨Z, μ, s, ρ, st, rh, po.bind fun ds s1 μ1 H1 us e1 nx1 st1 uo po1 => ?_⟩
  unfold madeL at po1
  split at po1
  · rename_i hz
    refine ⟨?_, Pf.lstN po1 st1 uo⟩
    have uo : RvAll T.K H1 (Bz μ1 s1 Z) us ds := uo
    rw [uo.length]
    exact szOk_le hz
  · exact absurd po1 fun z => z

/-! ### calls -/
theorem plain_all : ∀ {es : List Expr} {f : Expr → Option E} {es' : Es} {env : Env} {pos : Pos}, cEx f es = some es' → (backTo pos (starEach es env)).any (·.1) = false
  | [], _, _, _, _, _ => rfl
  | e :: r, f, es', env, pos, h => by
    unfold cEx at h
    split at h
    · rename_i hn
      split at h
      · rename_i e' r' h1 h2
        rw [star_no hn]
        show (false || _) = false
        exact plain_all h2
      · cases h
    · cases h
theorem evx_length : ∀ {es : List Expr} {f : Expr → Option E} {es' : Es} {ρ : Rho} {s s' : Sto} {xs : List Xv}, cEx f es = some es' → evx cx es' ρ s = .ok xs s' → xs.length = es.length
  | [], _, _, _, _, _, _, h, e => by
    cases Option.some.inj h
    simp only [evx, R.ok.injEq] at e
    rw [← e.1]
    rfl
  | e0 :: r, f, es', ρ, s, s', xs, h, e => by
    unfold cEx at h
    split at h
    · split at h
      · rename_i e' r' h1 h2
        cases Option.some.inj h
        unfold evx at e
        cases q1 : ev cx e' ρ s with
        | ok x s1 =>
          rw [q1] at e
          simp only [R.bind_ok] at e
          cases q2 : evx cx r' ρ s1 with
          | ok ys s2 =>
            rw [q2] at e
            simp only [R.bind_ok, R.ok.injEq] at e
            rw [← e.1, List.length_cons, List.length_cons, evx_length h2 q2]
          | exc c as s2 => rw [q2] at e; cases e
          | err => rw [q2] at e; cases e
        | exc c as s1 => rw [q1] at e; cases e
        | err => rw [q1] at e; cases e
      · cases h
    · cases h
theorem Po.wish {α β : Type} {σ σ' : L2.St} {Z μ : List Addr} {s : Sto} {H : Hp} {r : R α} {Ok : List Addr → Sto → Hp → β → α → Prop} {Q : β → Hp → Prop} (h : Po T W σ Z μ s H r Ok Q) : Po T (fun cls d _ H' => W cls d σ H') σ' Z μ s H r Ok Q := by
  cases r with
  | ok a s' => exact h
  | exc c as s' => exact h
  | err => exact h
theorem pe_callS0 {X : Cx} {CX : CXT} {k : Nat} {f : Addr} {fd : FuncData} {ps : List Str} {sp : Sp} {E : L2.St → XK} {x : Str} {p pos : Pos} (F : FnOk X.prog X.w X.K X.mg X.base CX k f fd ps sp) (hr : Room k X.A) (hg : Gl X x) (hm : X.mg x = some (.ref f)) (hk : PySem.W.keepIn X.K (.ref f) = true) (hb : Binds X.K fd ps [])
    (hx : ∀ σ, PassesAt CX X σ (E σ)) (hdb : (x == ("__debug__" : Str)) = false) : PE X (.Call (.Name x p) [] [] pos) (tCallS sp E tNil) := by
  refine ⟨fun pins s σ H Q I h => ?_⟩
  refine wpAny_Call_Name_kw (ld_glob I hg hm ?_ hdb)
  exact PySem.W.callWith_K0 I.kIn hk (run_fnS (us := []) F hr hb (hx σ) I .nil h)
theorem pe_callX (G : Good T cx W k c X) {x : Str} {p : Pos} {f : Nat} {ps : List Str} {fe : Expr → Option E} (hg : isGlb (c.sc.names.lookup x) = true) (hbn : badName x = false) (hl : c.fid.lookup x = some (f, ps)) (hlen : ps.length = es.length) (he : cEx fe es = some es') (h : PA X es (tX T cx W es')) :
    PE X (.Call (.Name x p) es [] pos) (tE T cx W (.call f es')) := by
  obtain ⟨a, fd, hm, hk, F, hb, _⟩ := G.fns x f ps hl
  have conv : ∀ σ H Q, tE T cx W (.call f es') σ H Q → tCallS (spX T cx f ps) (WE W) (tX T cx W es') σ H Q := fun σ H Q q => by
    obtain ⟨Z, μ, s, ρ, st, rh, po⟩ := q
    unfold ev at po
    refine ⟨Z, μ, s, ρ, st, rh, po.bind fun xs s1 μ1 H1 us e1 nx1 st1 xo po1 => ?_⟩
    exact ⟨σ, Z, μ1, s1, xs, (evx_length he e1).trans hlen.symm, st1, xo, po1.wish⟩
  cases es with
  | nil =>
    refine (pe_callS0 F G.room (isGlb_of G hg) hm hk hb (fun σ => passAt G.takes σ) (badName_of hbn).1).imp fun σ H Q q => ?_
    have q1 := conv σ H Q q
    cases Option.some.inj he
    obtain ⟨Z, μ, s, ρ, st, rh, po⟩ := q1
    exact po μ H [] (Nx.refl _ _ _) st .nil
  | cons e0 r =>
    obtain ⟨hn, e1, r1, _, hr1, _⟩ := cEx_cons he
    have hp : ∀ pos, (backTo pos (starEach r X.env)).any (·.1) = false := fun pos => plain_all hr1
    exact (pe_callS F G.room (isGlb_of G hg) hm hk hb (fun σ => passAt G.takes σ) h (badName_of hbn).1 (star_no hn) (hp _)).imp conv

/-! ### built-in functions -/
theorem boot_bltOf {x : Str} {b : B} (h : bltOf x = some b) : bootBuiltins x = some (bltV b) := by
  unfold bltOf at h
  repeat' split at h
  all_goals first | (cases h; rename_i e; subst e; first | (exact PySem.boot_len) | (decide +kernel) | (kernel_rfl)) | cases h
theorem boot_blt1Of {x : Str} {b : B} (h : blt1Of x = some b) : bootBuiltins x = some (bltV b) := by
  unfold blt1Of at h
  split at h
  · cases h; rename_i e; subst e; first | (decide +kernel) | (kernel_rfl)
  · split at h
    · cases h; rename_i e; subst e; first | (decide +kernel) | (kernel_rfl)
    · exact boot_bltOf h
theorem boot_blt2Of {x : Str} {b : B} (h : blt2Of x = some b) : bootBuiltins x = some (bltV b) := by
  unfold blt2Of at h
  repeat' split at h
  all_goals first | (cases h; rename_i e; subst e; first | (decide +kernel) | (kernel_rfl)) | cases h
theorem boot_bltlOf {x : Str} {b : BL} (h : bltlOf x = some b) : bootBuiltins x = some (bltlV b) ∧ b ≠ .sortedSet := by
  unfold bltlOf at h
  repeat' split at h
  all_goals first | (cases h; rename_i e; subst e; exact ⟨by first | (decide +kernel) | (kernel_rfl), by decide⟩) | cases h
theorem pe_callBX {X : Cx} {f : Value} {r : List V → Hp → VK → Prop} {t : TA} {e : Expr} {es : List Expr} {x : Str} {p pos : Pos} (hb : (∃ id, f = .builtin id) ∨ ∃ n, f = .type n) (hc : CallR X f r) (hg : Gl X x) (hm : X.mg x = none) (hv : bootBuiltins x = some f) (ha : PA X (e :: es) t) (hn : x ≠ "__name__") (hdb : (x == ("__debug__" : Str)) = false)
    (he : starEach (e :: es) X.env = (false, eval e X.env) :: starEach es X.env) (hpl : (backTo pos (starEach es X.env)).any (·.1) = false) : PE X (.Call (.Name x p) (e :: es) [] pos) (tCB r t) := by
  rcases hb with ⟨id, rfl⟩ | ⟨n, rfl⟩
  · exact pe_callB hc hg hm hv ha hn hdb he hpl
  · exact pe_callTy hc hg hm hv ha hn hdb he hpl
theorem bltV_kind (b : B) : (∃ id, bltV b = .builtin id) ∨ ∃ n, bltV b = .type n := by
  cases b <;> first | exact .inl ⟨_, rfl⟩ | exact .inr ⟨_, rfl⟩
theorem bltlV_kind (b : BL) : (∃ id, bltlV b = .builtin id) ∨ ∃ n, bltlV b = .type n := by
  cases b <;> first | exact .inl ⟨_, rfl⟩ | exact .inr ⟨_, rfl⟩
theorem pe_bltX (G : Good T cx W k c X) {x : Str} {p : Pos} {b : B} {e : Expr} {r : List Expr} {es' : Es} {fe : Expr → Option E} (hx : cBlt c x = true) (hv : bootBuiltins x = some (bltV b)) (he : cEx fe (e :: r) = some es') (h : PA X (e :: r) (tX T cx W es')) :
    PE X (.Call (.Name x p) (e :: r) [] pos) (tE T cx W (.blt b es')) := by
  obtain ⟨h1, h2, h3, h4⟩ := cBlt_of G hx
  obtain ⟨hn, e1, r1, _, hr1, _⟩ := cEx_cons he
  have hp : ∀ pos, (backTo pos (starEach r X.env)).any (·.1) = false := fun pos => plain_all hr1
  refine (pe_callBX (bltV_kind b) (call_bltX (W := W) G.K G.calm b) h1 h2 hv h h4 h3 (star_no hn) (hp _)).imp fun σ H Q q => ?_
  obtain ⟨Z, μ, s, ρ, st, rh, po⟩ := q
  unfold ev at po
  exact ⟨Z, μ, s, ρ, st, rh, po.bind fun xs s1 μ1 H1 us e1 nx1 st1 xo po1 => ⟨σ, Z, μ1, s1, xs, st1, xo, po1⟩⟩
theorem pe_bltlX (G : Good T cx W k c X) {x : Str} {p : Pos} {b : BL} {e : Expr} {r : List Expr} {es' : Es} {fe : Expr → Option E} (hx : cBlt c x = true) (hv : bootBuiltins x = some (bltlV b)) (hb : b ≠ .sortedSet) (he : cEx fe (e :: r) = some es') (h : PA X (e :: r) (tX T cx W es')) :
    PE X (.Call (.Name x p) (e :: r) [] pos) (tF T cx W (.bltl b es')) := by
  obtain ⟨h1, h2, h3, h4⟩ := cBlt_of G hx
  obtain ⟨hn, e1, r1, _, hr1, _⟩ := cEx_cons he
  have hp : ∀ pos, (backTo pos (starEach r X.env)).any (·.1) = false := fun pos => plain_all hr1
  refine (pe_callBX (bltlV_kind b) (call_bltlX G.calm G.K G.u65 b hb) h1 h2 hv h h4 h3 (star_no hn) (hp _)).imp fun σ H Q q => ?_
  obtain ⟨Z, μ, s, ρ, st, rh, po⟩ := q
  unfold ev at po
  refine ⟨Z, μ, s, ρ, st, rh, po.bind fun xs s1 μ1 H1 us e1 nx1 st1 xo po1 => ?_⟩
  have sh : ∃ ds, bltlX b xs s1 = .ok (.v (.list ds)) s1 := by
    unfold bltlX at po1 ⊢
    split
    · rename_i ds eA
      rw [eA] at po1
      simp only at po1
      split
      · exact ⟨_, rfl⟩
      · rename_i eB
        rw [eB] at po1
        exact absurd po1 fun z => z
    · rename_i eA
      rw [eA] at po1
      exact absurd po1 fun z => z
  obtain ⟨ds, e2⟩ := sh
  rw [e2] at po1
  exact ⟨Z, μ1, s1, xs, ds, st1, xo, e2, fun p vs hp rv => Pf.lstN po1 st1 rv p hp⟩
end
end Mi
end

section
set_option maxRecDepth 100000
set_option maxHeartbeats 1600000
/-! MiRev: x[::-1] of a list, of a tuple. -/
namespace Mi
open PySem PySem.Spec PyProof.Rows L2 HT
section
variable {prog : Program} {w : World} {A : Around} {E : Value → Shared → Prop} {s : Shared}
theorem places_back (n : Nat) : Builtin.Slice.slicePlaces ((n : Int) - 1) (-1) (-1) = n := by
  unfold Builtin.Slice.slicePlaces
  have h1 : ¬ ((-1 : Int) > 0) := by decide
  simp only [h1, if_false]
  by_cases h : (n : Int) - 1 > -1
  · simp only [h, if_true, show (- -1 : Int) = 1 by decide, Int.ediv_one]
    omega
  · simp only [h, if_false]
    omega
theorem fm_congr {α β : Type} {f g : α → Option β} : ∀ {l : List α}, (∀ x ∈ l, f x = g x) → l.filterMap f = l.filterMap g
  | [], _ => rfl
  | x :: l, h => by
    rw [List.filterMap_cons, List.filterMap_cons, h x (List.mem_cons_self ..), fm_congr fun y hy => h y (List.mem_cons_of_mem _ hy)]
theorem pick_back (xs : Array Value) : ((List.range xs.size).filterMap fun (m : Nat) => xs[((xs.size : Int) - 1 + (m : Int) * -1).toNat]?).toArray = xs.toList.reverse.toArray := by
  have e := PySem.W.krv_pick xs
  unfold slicePick at e
  rw [PySem.W.krv_bounds] at e
  change ((sliceRange ((xs.size : Int) - 1) (-1) (-1)).filterMap (xs[·]?)).toArray = _ at e
  rw [PySem.W.krv_sliceRange, List.filterMap_map] at e
  rw [← e]
  congr 1
  refine fm_congr fun m hm => ?_
  have := List.mem_range.mp hm
  show xs[((xs.size : Int) - 1 + (m : Int) * -1).toNat]? = xs[xs.size - 1 - m]?
  congr 1
  omega
theorem getItem_tuple_back {t sl : Addr} {items : Array Value} {vl vu vs : Value} {Q : Value → Shared → Prop} (ht : IsTup s.heap t items) (hs : s.heap.IsSliceOf sl vl vu vs) (pl : IsPart vl none) (pu : IsPart vu none) (ps : IsPart vs (some (-1)))
    (h : Q (.ref s.heap.objs.size) { s with heap := s.heap.push { cls := .type "tuple", data := .seq items.toList.reverse.toArray } }) (hsz : items.size ≤ sizeLine) : wpAny (model prog w) A (getItem (.ref t) (.ref sl)) Q E s := by
  have htake : sizeOk (.seq items.toList.reverse.toArray) := by
    show items.toList.reverse.toArray.size ≤ sizeLine
    rw [List.size_toArray, List.length_reverse, Array.length_toList]
    exact hsz
  obtain ⟨os, hos, hcs, hds⟩ := id hs
  have hTs : s.TypeIs (.ref sl) "slice" := ⟨os, hos, hcs⟩
  unfold getItem
  try with_reducible refine wpAny_holding ?_
  first | refine wpAny_bind (wpAny_pure ?_) | skip
  refine wpAny_bind (wpAny_sequenceKey ht.typeIs (by decide) ?_)
  refine wpAny_bind (wpAny_callSpecial?_slot (name := Str.ofString "__getitem__") ht.typeIs PyProof.Rows.slot_tuple_getitem
    (wpAny_call_entry PyProof.Rows.slot_tuple_getitem ht.typeIs entry_tuple_getitem ?_ (args_tuple_getitem _ _)))
  show wpAny _ _ (Builtin.Tuple.tupleItemsOf (.ref t) >>= _) _ _ s
  refine wpAny_bind (tupleItemsOf_ ht ?_)
  refine wpAny_bind (wpAny_typeOf hTs ?_)
  rw [if_pos (by decide)]
  have app : ∀ {Q' : Int × Int × Nat → Shared → Prop}, Q' ((items.size : Int) - 1, -1, items.size) s → wpAny (model prog w) A.in1 (Builtin.Slice.sliceApplied (.ref sl) (pure (items.size : Int))) Q' E s := fun {Q'} hq => by
    unfold Builtin.Slice.sliceApplied Builtin.Slice.sliceFields
    refine wpAny_bind (wpAny_bind (wpAny_field hos hds (x := vl) rfl (wpAny_bind (wpAny_field hos hds (x := vu) rfl (wpAny_bind (wpAny_field hos hds (x := vs) rfl (wpAny_pure ?_)))))))
    refine wpAny_bind (slicePart_ ps ?_)
    show wpAny _ _ (if ((-1 : Int) == 0) = true then _ else _) _ _ s
    rw [if_neg (by decide)]
    refine wpAny_bind (slicePart_ pl (wpAny_bind (slicePart_ pu (wpAny_bind (wpAny_pure ?_)))))
    show wpAny _ _ (match Builtin.Slice.sliceAdjust none none (-1) (items.size : Int) with | (lo, hi) => pure (lo, (-1 : Int), Builtin.Slice.slicePlaces lo hi (-1))) _ _ s
    rw [show Builtin.Slice.sliceAdjust none none (-1) (items.size : Int) = ((items.size : Int) - 1, -1) from rfl]
    show wpAny _ _ (pure ((items.size : Int) - 1, (-1 : Int), Builtin.Slice.slicePlaces ((items.size : Int) - 1) (-1) (-1))) _ _ s
    rw [places_back]
    exact wpAny_pure hq
  refine wpAny_bind (app ?_)
  show wpAny _ _ (if (((items.size : Int) - 1) == 0 && (-1 : Int) == 1 && items.size == items.size) = true then _ else _) _ _ s
  rw [if_neg (by simp), pick_back]
  first
    | exact wpAny_bind (m := Builtin.Tuple.tupleExact _) (wpAny_newObj_type (wpAny_pure ⟨_, rfl, wpAny_pure h⟩) htake)
    | exact wpAny_bind (m := Builtin.Tuple.tupleExact _) (wpAny_newObj_type (wpAny_bind (wpAny_pure (wpAny_pure ⟨_, rfl, wpAny_pure h⟩))) htake)
    | exact wpAny_bind (wpAny_bind (m := Builtin.Tuple.tupleExact _) (wpAny_newObj_type (wpAny_pure (wpAny_pure ⟨_, rfl, wpAny_pure h⟩)) htake))
    | exact wpAny_bind (wpAny_bind (m := Builtin.Tuple.tupleExact _) (wpAny_newObj_type (wpAny_pure ⟨_, rfl, wpAny_pure h⟩) htake))
end
section
variable {X : Cx}
theorem pe_rev {e : Expr} {te : TE} {k : Nat} {p1 p2 p3 pos : Pos} (he : PE X e te) : PE X (.Subscript e (.Slice none none (some (.UnaryOp .USub (.Constant (.int 1) k p1) p2)) p3) pos) (fun σ H Q => te σ H fun x H1 => ∃ a xs, x = .ref a ∧
    ((SqL X.K H1 a xs ∧ ∀ p, H1 p = none → Q (.ref p) (upd H1 p (.lst xs.reverse))) ∨ (SqT X.K H1 a xs ∧ NewT H1 xs.reverse Q))) := by
  refine ⟨fun pins s σ H Q I h => ?_⟩
  refine Subscript_ (thn (he.run pins s σ H _ I h) fun v s1 ⟨x, H1, I1, r1, q1⟩ => ?_)
  obtain ⟨a, xs, ex, hx⟩ := q1
  subst ex
  cases r1
  have hst : PO X (some (.UnaryOp .USub (.Constant (.int 1) k p1) p2)) (tPart (tUn (rU fun i => .int (-i)) (tC (.int 1)))) := po_some (pe_un un_neg pe_int)
  refine wpAny_Slice (thn (po_none.run pins s1 σ H1 (fun o H2 => o = none ∧ H2 = H1) I1 ⟨rfl, rfl⟩) fun vl s2 ⟨l, H2, I2, pl, el, e2⟩ => ?_)
  subst el e2
  refine thn (po_none.run pins s2 σ H2 (fun o H3 => o = none ∧ H3 = H2) I2 ⟨rfl, rfl⟩) fun vu s3 ⟨u, H3, I3, pu, eu, e3⟩ => ?_
  subst eu e3
  refine thn (hst.run pins s3 σ H3 (fun o H4 => o = some (-1) ∧ H4 = H3) I3 ⟨1, rfl, -1, rfl, rfl, rfl⟩) fun vs s4 ⟨o, H4, I4, ps, eo, e4⟩ => ?_
  subst eo e4
  have I5 : Inv X pins σ H4 { s4 with heap := s4.heap.push { cls := .type "slice", data := .fields #[vl, vu, vs] } } := I4.kept (t' := s4.toks) fun b ob q => Heap.get?_push_of_some _ q
  rcases hx with ⟨hx, q⟩ | ⟨hx, q⟩
  · obtain ⟨its, r, ht, hz⟩ := I5.list hx
    have hlen := r.length
    show wpAny (model X.prog X.w) X.A (subscriptTail e (.Slice none none (some (.UnaryOp .USub (.Constant (.int 1) k p1) p2)) p3) (.ref a) (.ref s4.heap.objs.size)) (EP X pins σ Q) X.xe { s4 with heap := s4.heap.push { cls := .type "slice", data := .fields #[vl, vu, vs] } }
    refine tail_any (ops := [.ref a, .ref s4.heap.objs.size]) ht.isList.typeIs (PySem.slot_list_getitem.lookup) ?_ (by with_unfolding_all rfl)
    refine wpAny_getItem_list_slice ht.isList (Heap.IsSliceOf.new _ vl vu vs) pl pu ps (by decide) ?_ (by rw [List.size_toArray]; omega)
    rw [PySem.W.krv_pick]
    refine ⟨.ref _, _, I5.laid (t' := s4.toks) (o := .lst xs.reverse) (fun b ob q => Heap.get?_push_of_some _ q) (Nat.le_refl _) ?_, rfl, q _ (I5.hok.fresh (Nat.le_refl _))⟩
    exact ⟨by rw [List.length_reverse]; exact hz, _, 0, r.reverse, Heap.get?_push_size _ rfl⟩
  · obtain ⟨its, r, ht, hz⟩ := I5.tuple hx
    have hlen := r.length
    show wpAny (model X.prog X.w) X.A (subscriptTail e (.Slice none none (some (.UnaryOp .USub (.Constant (.int 1) k p1) p2)) p3) (.ref a) (.ref s4.heap.objs.size)) (EP X pins σ Q) X.xe { s4 with heap := s4.heap.push { cls := .type "slice", data := .fields #[vl, vu, vs] } }
    refine tail_any (ops := [.ref a, .ref s4.heap.objs.size]) ht.typeIs (PyProof.Rows.slot_tuple_getitem.lookup) ?_ (by with_unfolding_all rfl)
    refine getItem_tuple_back ht (Heap.IsSliceOf.new _ vl vu vs) pl pu ps ?_ (by rw [List.size_toArray]; omega)
    have J := I5.laidT (by rw [List.length_reverse]; exact hz) r.reverse
    exact ⟨.ref _, _, J, rfl, q _ _ rfl (I5.hok.fresh (Nat.le_refl _))⟩
end
end Mi
end

section
set_option maxRecDepth 100000
/-! MiSnd3: places, slices, isinstance, methods, calls by keywords. -/
namespace Mi
open PySem PySem.Spec PyProof.Rows L2
section
variable {T : Tb} {cx : Ctx} {W : WX} {k : Nat} {c : Cc} {X : Cx} {a b : Expr} {a' b' : E} {pos : Pos}
theorem plainSl_ix {i : Expr} (h : plainSl i = true) : PlainIx i := by
  intro o j
  cases i <;> first | rfl | (simp [plainSl] at h)
theorem pe_subX (G : Good T cx W k c X) (hi : plainSl b = true) (ha : PE X a (tE T cx W a')) (hb : PE X b (tE T cx W b')) : PE X (.Subscript a b pos) (tE T cx W (.sub a' b')) := by
  refine (pe_ix (ix_subX (W := W) G.K (by have := G.u65; omega)) ha hb (plainSl_ix hi)).imp fun σ H Q q => ?_
  obtain ⟨Z, μ, s, ρ, st, rh, po⟩ := q
  unfold ev at po
  refine ⟨Z, μ, s, ρ, st, rh, po.bind fun x s1 μ1 H1 u e1 nx1 st1 xo po1 => ?_⟩
  refine ⟨Z, μ1, s1, ρ, st1, rh.nx nx1, po1.bind fun y s2 μ2 H2 w e2 nx2 st2 yo po2 => ?_⟩
  exact ⟨σ, Z, μ2, s2, x, y, st2, XvOk.nx nx2 xo, yo, po2⟩

/-! ### slices -/
def OOk : List Addr → Sto → Hp → Option Int → Option Int → Prop := fun _ _ _ o o' => o = o'
def tP (T : Tb) (cx : Ctx) (W : WX) (bl : Bool) (e : E) : TO := fun σ H Q => ∃ Z μ s ρ, StOk T.K Z μ s H ∧ RhoOk T.K Z μ s H ρ σ ∧ Po T W σ Z μ s H (if bl then (ev cx e ρ s).bind partX else .ok none s) OOk Q
theorem po_X {f : Expr → Option E} (hf : ∀ e e', f e = some e' → PE X e (tE T cx W e')) {o : Option Expr} {e' : E} (h : cOpt f o = some e') : PO X o (tP T cx W o.isSome e') := by
  cases o with
  | none =>
    refine ⟨fun pins s σ H Q I q => po_none.run pins s σ H Q I ?_⟩
    obtain ⟨Z, μ, s, ρ, st, rh, po⟩ := q
    exact po μ H none (Nx.refl _ _ _) st rfl
  | some e =>
    refine ⟨fun pins s σ H Q I q => (po_some (hf e e' h)).run pins s σ H Q I ?_⟩
    obtain ⟨Z, μ, s, ρ, st, rh, po⟩ := q
    have po : Po T W σ Z μ s H ((ev cx e' ρ s).bind partX) OOk Q := po
    refine ⟨Z, μ, s, ρ, st, rh, po.bind fun x s1 μ1 H1 u e1 nx1 st1 xo po1 => ?_⟩
    unfold partX at po1
    split at po1
    · rename_i i
      have xo : Rv T.K H1 (Bz μ1 s1 Z) u (.int i) := xo
      cases xo
      exact ⟨i, rfl, po1 μ1 H1 _ (Nx.refl _ _ _) st1 rfl⟩
    · exact absurd po1 fun z => z
theorem pe_sliceX (G : Good T cx W k c X) {f : Expr → Option E} (hf : ∀ e e', f e = some e' → PE X e (tE T cx W e')) {lo hi : Option Expr} {lo' hi' : E} {p2 : Pos} (h1 : cOpt f lo = some lo') (h2 : cOpt f hi = some hi') (ha : PE X a (tE T cx W a')) :
    PE X (.Subscript a (.Slice lo hi none p2) pos) (tF T cx W (.slice a' lo.isSome lo' hi.isSome hi')) := by
  refine (pe_slice (sl_sliceX (W := W) G.K) ha (po_X hf h1) (po_X hf h2)).imp fun σ H Q q => ?_
  obtain ⟨Z, μ, s, ρ, st, rh, po⟩ := q
  unfold ev at po
  refine ⟨Z, μ, s, ρ, st, rh, po.bind fun x s1 μ1 H1 u e1 nx1 st1 xo po1 => ?_⟩
  refine ⟨Z, μ1, s1, ρ, st1, rh.nx nx1, po1.bind fun y s2 μ2 H2 w e2 nx2 st2 yo po2 => ?_⟩
  refine ⟨Z, μ2, s2, ρ, st2, (rh.nx nx1).nx nx2, po2.bind fun z s3 μ3 H3 w3 e3 nx3 st3 zo po3 => ?_⟩
  have yo : w = y := yo
  have zo : w3 = z := zo
  subst yo zo
  exact ⟨σ, Z, μ3, s3, x, st3, XvOk.nx nx3 (XvOk.nx nx2 xo), po3⟩
theorem isRev_of {i : Expr} (h : isRev i = true) : ∃ j p1 p2 p3, i = .Slice none none (some (.UnaryOp .USub (.Constant (.int 1) j p1) p2)) p3 := by
  unfold isRev at h
  split at h
  · exact ⟨_, _, _, _, rfl⟩
  · cases h
theorem RvAll.reverse {K : PySem.W.Frag} {H : Hp} {B : Addr → Prop} : ∀ {vs : List V} {ds : List PyData}, RvAll K H B vs ds → RvAll K H B vs.reverse ds.reverse
  | _, _, .nil => .nil
  | _, _, .cons r t => by
    rw [List.reverse_cons, List.reverse_cons]
    exact (RvAll.reverse t).append (.cons r .nil)
theorem pe_revX {i : Expr} (hK : T.K = X.K) (hi : isRev i = true) (ha : PE X a (tE T cx W a')) : PE X (.Subscript a i pos) (tF T cx W (.rev a')) := by
  obtain ⟨j, p1, p2, p3, rfl⟩ := isRev_of hi
  refine (pe_rev ha).imp fun σ H Q q => ?_
  obtain ⟨Z, μ, s, ρ, st, rh, po⟩ := q
  unfold ev at po
  refine ⟨Z, μ, s, ρ, st, rh, po.bind fun x s1 μ1 H1 u e1 nx1 st1 xo po1 => ?_⟩
  unfold revX at po1
  split at po1
  · rename_i ex
    obtain ⟨p, vs, rfl, e3, r⟩ := rd_rq st1 xo ex
    exact ⟨p, vs, rfl, .inl ⟨.inl (.inl e3), Pf.lstN po1 st1 r.reverse⟩⟩
  · rename_i ex
    obtain ⟨p, vs, rfl, e3, r⟩ := rd_rq st1 xo ex
    rw [hK] at e3
    exact ⟨p, vs, rfl, .inr ⟨e3, Po.tupN (W := W) (σ := σ) po1 st1 r.reverse⟩⟩
  · exact absurd po1 fun z => z

/-! ### isinstance -/
theorem boot_cls {x : Str} {t : String} (h : isClsName x = some t) : bootBuiltins x = some (.type t) ∧ t ∈ ["list", "tuple", "str", "int", "bool"] := by
  unfold isClsName at h
  repeat' split at h
  all_goals first | (cases h; rename_i e; subst e; exact ⟨by first | (decide +kernel) | (kernel_rfl), by decide⟩) | cases h
theorem kit_isi {K : PySem.W.Frag} (d : PyData) {t : String} (h : t ∈ ["list", "tuple", "str", "int", "bool"]) : PySem.W.kitOne K (.type (tyOf d)) (.type t) = some (isiD d t) := by
  apply kit_ty
  have key : ∀ a ∈ ["NoneType", "bool", "int", "str", "list", "tuple", "dict"], ∀ t ∈ ["list", "tuple", "str", "int", "bool"], kitB a t = some (a == t || (t == "int" && a == "bool")) := by decide +kernel
  exact key (tyOf d) (by cases d <;> simp [tyOf]) t h
theorem tyx_of {K : PySem.W.Frag} {H : Hp} {B : Addr → Prop} {u : V} {d : PyData} (h : Rq K H B u d) : TyX K H u (.type (tyOf d)) := by
  cases d with
  | none => cases h; exact .base .non
  | bool b => cases h; exact .base (.bl b)
  | int i => cases h; exact .base (.int i)
  | str x => cases h; exact .base (.str x)
  | list ds => obtain ⟨a, vs, rfl, e, _⟩ := h; exact .base (.lst e)
  | tuple ds =>
    obtain ⟨a, vs, rfl, e, _⟩ := h
    rcases e with (e | ⟨o, e⟩) | ⟨o, its, n, e, c, _⟩
    · exact .base (.tup e)
    · exact .fTuple e
    · exact .kTuple e c
  | dict kvs =>
    cases (show Rv K H B u (.dict kvs) from h) with
    | dK e n r => obtain ⟨o, e⟩ := e; exact .fDict e
theorem kitAny_isi {K : PySem.W.Frag} (d : PyData) : ∀ {ts : List String}, (∀ t ∈ ts, t ∈ ["list", "tuple", "str", "int", "bool"]) → PySem.W.kitAny K (.type (tyOf d)) (ts.map Value.type) = some (ts.any (isiD d))
  | [], _ => rfl
  | t :: r, h => by
    refine kitAny_cons (b := isiD d t) (kit_isi d (h t (by simp))) (fun hb => ?_) fun hb => ?_
    · rw [kitAny_isi d fun x hx => h x (by simp [hx]), List.any_cons, hb, Bool.false_or]
    · rw [List.any_cons, hb, Bool.true_or]
theorem cClss_of : ∀ {es : List Expr} {ts : List String}, cClss c es = some ts → ∀ t ∈ ts, t ∈ ["list", "tuple", "str", "int", "bool"]
  | [], ts, h => by cases Option.some.inj h; intro t ht; simp at ht
  | .Name x p :: r, ts, h => by
    unfold cClss at h
    split at h
    · split at h
      · rename_i t ts' h1 h2
        cases Option.some.inj h
        intro t' ht
        rcases List.mem_cons.mp ht with rfl | ht
        · exact (boot_cls h1).2
        · exact cClss_of h2 t' ht
      · cases h
    · cases h
theorem pa_cls (G : Good T cx W k c X) : ∀ {es : List Expr} {ts : List String}, cClss c es = some ts → PA X es (fun _ H Q => Q (ts.map V.ty) H)
  | [], ts, h => by cases Option.some.inj h; exact pa_nil
  | .Name x p :: r, ts, h => by
    unfold cClss at h
    split at h
    · rename_i hb
      split at h
      · rename_i t ts' h1 h2
        cases Option.some.inj h
        obtain ⟨g1, g2, g3, g4⟩ := cBlt_of G hb
        exact (pa_cons (pe_bltn (v := V.ty t) g1 g2 (boot_cls h1).1 rfl g4 g3) (pa_cls G h2)).imp fun σ H Q q => q
      · cases h
    · cases h
theorem Rq.nw {K : PySem.W.Frag} {H : Hp} {B : Addr → Prop} {u : V} {d : PyData} {p : Addr} {o : HO} (hp : H p = none) (h : Rq K H B u d) : Rq K (upd H p o) B u d := by
  cases d with
  | none => exact h
  | bool b => exact h
  | int i => exact h
  | str x => exact h
  | list ds =>
    obtain ⟨a, vs, e, e1, r⟩ := h
    exact ⟨a, vs, e, by rw [upd_ne (ne_of_none e1 hp)]; exact e1, r.mv (Mv.new hp)⟩
  | tuple ds =>
    obtain ⟨a, vs, e, e1, r⟩ := h
    refine ⟨a, vs, e, ?_, r.mv (Mv.new hp)⟩
    rcases e1 with (e1 | ⟨o', e1⟩) | e1
    · exact .inl (.inl (by rw [upd_ne (ne_of_none e1 hp)]; exact e1))
    · exact .inl (.inr ⟨o', by rw [upd_ne (ne_of_none e1 hp)]; exact e1⟩)
    · exact .inr e1
  | dict kvs =>
    exact Rv.mv (Mv.new hp) (show Rv K H B u (.dict kvs) from h)
theorem pe_isi1 (G : Good T cx W k c X) {p p1 : Pos} {x : Str} {ts : List String} (hx : cBlt c "isinstance" = true) (hn : noStar a = true) (ht : cClss c [.Name x p1] = some ts) (ha : PE X a (tE T cx W a')) :
    PE X (.Call (.Name "isinstance" p) [a, .Name x p1] [] pos) (tE T cx W (.isi a' ts)) := by
  obtain ⟨h1, h2, h3, h4⟩ := cBlt_of G hx
  have hm := cClss_of ht
  refine (pe_callB call_isi h1 h2 (by first | (decide +kernel) | kernel_rfl) (pa_cons ha (pa_cls G ht) (star_no hn)) h4 h3 (star_no hn) rfl).imp fun σ H Q q => ?_
  obtain ⟨Z, μ, s, ρ, st, rh, po⟩ := q
  unfold ev at po
  refine ⟨Z, μ, s, ρ, st, rh, po.bind fun y s1 μ1 H1 u e1 nx1 st1 xo po1 => ?_⟩
  unfold isiX at po1
  split at po1
  · rename_i d ed
    have q := rd_rq st1 xo ed
    unfold cClss at ht
    split at ht
    · split at ht
      · rename_i t ts' g1 g2
        cases Option.some.inj g2
        cases Option.some.inj ht
        rw [G.K] at q
        refine ⟨u, .ty t, .type (tyOf d), .type t, isiD d t, rfl, .ty t, tyx_of q, kit_isi d (hm t (by simp)), ?_⟩
        have po1 : Po T W σ Z μ1 s1 H1 (.ok (.v (.bool (isiD d t || false))) s1) (XOk T Z) Q := po1
        rw [Bool.or_false] at po1
        exact po1.here st1 (.bl _)
      · cases ht
    · cases ht
  · exact absurd po1 fun z => z
theorem paired_ty : ∀ ts : List String, Paired ClsV (ts.map V.ty) (ts.map Value.type)
  | [] => .nil
  | t :: r => .cons (.ty t) (paired_ty r)
theorem pe_isiN (G : Good T cx W k c X) {p p1 : Pos} {j : Nat} {es : List Expr} {ts : List String} (hx : cBlt c "isinstance" = true) (hn : noStar a = true) (ht : cClss c es = some ts) (hz : ts.length ≤ 1000) (ha : PE X a (tE T cx W a')) :
    PE X (.Call (.Name "isinstance" p) [a, .Tuple es j p1] [] pos) (tE T cx W (.isi a' ts)) := by
  obtain ⟨h1, h2, h3, h4⟩ := cBlt_of G hx
  have hm := cClss_of ht
  refine (pe_callB call_isiT h1 h2 (by first | (decide +kernel) | kernel_rfl) (pa_cons ha (pa_cons (pe_tup (pa_cls G ht)) pa_nil) (star_no hn)) h4 h3 (star_no hn) rfl).imp fun σ H Q q => ?_
  obtain ⟨Z, μ, s, ρ, st, rh, po⟩ := q
  unfold ev at po
  refine ⟨Z, μ, s, ρ, st, rh, po.bind fun y s1 μ1 H1 u e1 nx1 st1 xo po1 => ?_⟩
  unfold isiX at po1
  split at po1
  · rename_i d ed
    have q := rd_rq st1 xo ed
    refine ⟨?_, fun pp hp => ?_⟩
    · rw [List.length_map]
      exact Nat.le_of_lt (small1000 hz)
    · rw [G.K] at q
      refine ⟨u, pp, ts.map V.ty, .type (tyOf d), ts.map Value.type, ts.any (isiD d), rfl, upd_same, paired_ty ts, tyx_of (q.nw hp), kitAny_isi d hm, ?_⟩
      exact po1 μ1 _ _ (Nx.new hp) (st1.new hp) (.bl _)
  · exact absurd po1 fun z => z

/-! ### methods of a list that is changed -/
theorem isL_of {Z μ : List Addr} {s : Sto} {H : Hp} {u : V} {x : Xv} (st : StOk T.K Z μ s H) (xo : XvOk T.K Z μ s H u x) (h : isL x s = true) : ∃ n a ds vs, x = .c n ∧ u = .ref a ∧ μ[n]? = some a ∧ s[n]? = some (.lst ds) ∧ H a = some (.lst vs) ∧ RvAll T.K H (Bz μ s Z) vs ds := by
  cases x with
  | v d => cases h
  | w ns => cases h
  | c n =>
    unfold isL at h
    cases e : s[n]? with
    | none => simp [e] at h
    | some q =>
      cases q with
      | lst ds =>
        obtain ⟨a, e1, rfl⟩ := xo
        obtain ⟨vs, e2, r⟩ := st.cell n a _ e1 e
        exact ⟨n, a, ds, vs, rfl, rfl, e1, e, e2, r⟩
      | dic kvs => simp [e] at h
      | frz d => simp [e] at h
theorem RvAll.dropLast {K : PySem.W.Frag} {H : Hp} {B : Addr → Prop} {vs : List V} {ds : List PyData} (h : RvAll K H B vs ds) : RvAll K H B vs.dropLast ds.dropLast := by
  rw [List.dropLast_eq_take, List.dropLast_eq_take, h.length]
  exact h.take _
theorem cell_of {Z μ : List Addr} {s : Sto} {H : Hp} {n : Nat} {a : Addr} {ds : List PyData} (st : StOk T.K Z μ s H) (e1 : μ[n]? = some a) (e : s[n]? = some (.lst ds)) : ∃ vs, H a = some (.lst vs) ∧ RvAll T.K H (Bz μ s Z) vs ds := st.cell n a _ e1 e
variable {y : Str} {py apos cpos : Pos} {o' : E}
theorem evs_one {e : E} {ρ : Rho} {s s' : Sto} {ds : List PyData} (h : evs cx (.cons e .nil) ρ s = .ok ds s') : ds.length = 1 := by
  unfold evs at h
  cases q : ev cx e ρ s with
  | err => rw [q] at h; cases h
  | exc c as s1 => rw [q] at h; cases h
  | ok x s1 =>
    rw [q] at h
    simp only [R.bind_ok] at h
    split at h
    · simp only [evs, R.bind_ok, R.ok.injEq] at h
      rw [← h.1]
      rfl
    · cases h
theorem pe_methX0 (G : Good T cx W k c X) (hline : (apos.endLine == cpos.line) = true) (ho : PE X (.Name y py) (tE T cx W o')) :
    PE X (.Call (.Attribute (.Name y py) "pop" apos) [] [] cpos) (tE T cx W (.meth .pop o' .nil)) := by
  refine (pe_bm0 PySem.F.plainAttrs_list PySem.F.slot_list_pop PySem.F.type_list_pop mt_pop ho rfl hline).imp fun σ H Q q => ?_
  obtain ⟨Z, μ, s, ρ, st, rh, po⟩ := q
  unfold ev at po
  refine ⟨Z, μ, s, ρ, st, rh, po.bind fun x s1 μ1 H1 u e1 nx1 st1 xo po1 => ?_⟩
  split at po1
  · rename_i hl
    obtain ⟨n, l, ds, vs, rfl, rfl, q1, q2, q3, q4⟩ := isL_of st1 xo hl
    refine ⟨.inl ⟨rfl, vs, .inl (.inl q3)⟩, ?_⟩
    have po2 : Po T W σ Z μ1 s1 H1 (pop0X n s1) (XOk T Z) Q := po1
    unfold pop0X at po2
    rw [q2] at po2
    simp only at po2
    split at po2
    · rename_i d ed
      rw [List.getLast?_eq_getElem?] at ed
      obtain ⟨v2, ev2, rv2⟩ := q4.get ed
      refine ⟨l, vs, v2, rfl, rfl, q3, by rw [q4.length]; exact ev2, ?_⟩
      obtain ⟨nx3, st3⟩ := chg_step (c' := .lst _) (o := .lst _) st1 q1 q2 rfl rfl fun mv => ⟨_, upd_same, (q4.dropLast).mv mv⟩
      exact po2 μ1 _ _ nx3 st3 (nx3.rv rv2)
    · exact absurd po2 fun z => z
  · exact absurd po1 fun z => z
theorem pe_methX1 (G : Good T cx W k c X) {m : Str} {mm : M} (hm : methOf m = some mm) (hline : (apos.endLine == cpos.line) = true) (hn : noStar a = true) (ho : PE X (.Name y py) (tE T cx W o')) (ha : PE X a (tE T cx W a')) :
    PE X (.Call (.Attribute (.Name y py) m apos) [a] [] cpos) (tE T cx W (.meth mm o' (.cons a' .nil))) := by
  have hD : PA X [a] (tD T cx W (.cons a' .nil)) := by
    refine (pa_cons ha pa_nil (star_no hn)).imp fun σ H Q q => ?_
    obtain ⟨Z, μ, s, ρ, st, rh, po⟩ := q
    unfold evs at po
    refine ⟨Z, μ, s, ρ, st, rh, po.bind fun x s1 μ1 H1 u e1 nx1 st1 xo po1 => ?_⟩
    split at po1
    · rename_i dd s1' ef
      obtain ⟨nxf, stf, rf⟩ := fz_ok st1 xo ef
      simp only [evs, R.bind_ok] at po1
      exact po1 μ1 H1 [u] nxf stf (.cons rf .nil)
    · exact absurd po1 fun z => z
  have few : ((backTo cpos (starEach [a] X.env)).all (fun x => !x.1) && (backToKw cpos (keywordEach [] X.env)).all (fun x => x.1.isSome) && decide ([a].length + ([] : List Keyword).length + (if ([] : List Keyword).isEmpty then 0 else 1) < 30)) = true := by
    rw [star_no hn]
    rfl
  unfold methOf at hm
  split at hm
  · rename_i em
    cases Option.some.inj hm
    subst em
    refine (pe_bm PySem.F.plainAttrs_list PySem.F.slot_list_append PySem.F.type_list_append mt_append ho hD rfl few hline (star_no hn) rfl).imp fun σ H Q q => ?_
    obtain ⟨Z, μ, s, ρ, st, rh, po⟩ := q
    unfold ev at po
    refine ⟨Z, μ, s, ρ, st, rh, po.bind fun x s1 μ1 H1 u e1 nx1 st1 xo po1 => ?_⟩
    split at po1
    · rename_i hl
      obtain ⟨n, l, ds, vs, rfl, rfl, q1, q2, q3, q4⟩ := isL_of st1 xo hl
      refine ⟨.inl ⟨rfl, vs, .inl (.inl q3)⟩, Z, μ1, s1, ρ, st1, rh.nx nx1, po1.bind fun dd s2 μ2 H2 us e2 nx2 st2 uo po2 => ?_⟩
      have uo : RvAll T.K H2 (Bz μ2 s2 Z) us dd := uo
      have po2 : Po T W σ Z μ2 s2 H2 (appX n dd s2) (XOk T Z) Q := po2
      unfold appX at po2
      split at po2
      · split at po2
        · rename_i ec
          split at po2
          · rename_i hz
            have e1 := pre_get nx2.pre q1
            obtain ⟨vs2, e4, r4⟩ := cell_of st2 e1 ec
            cases uo with
            | cons ud ut =>
              cases ut
              refine ⟨l, vs2, _, rfl, rfl, e4, by rw [r4.length]; have := sizeLine_eq; omega, ?_⟩
              obtain ⟨nx3, st3⟩ := chg_step (c' := .lst _) (o := .lst _) st2 e1 ec rfl rfl fun mv => ⟨_, upd_same, (r4.append (.cons ud .nil)).mv mv⟩
              exact po2 μ2 _ _ nx3 st3 .non
          · exact absurd po2 fun z => z
        · exact absurd po2 fun z => z
      · exact absurd po2 fun z => z
    · exact absurd po1 fun z => z
  · split at hm
    · rename_i em
      cases Option.some.inj hm
      subst em
      refine (pe_bm PySem.F.plainAttrs_list PySem.F.slot_list_pop PySem.F.type_list_pop mt_popAt ho hD rfl few hline (star_no hn) rfl).imp fun σ H Q q => ?_
      obtain ⟨Z, μ, s, ρ, st, rh, po⟩ := q
      unfold ev at po
      refine ⟨Z, μ, s, ρ, st, rh, po.bind fun x s1 μ1 H1 u e1 nx1 st1 xo po1 => ?_⟩
      split at po1
      · rename_i hl
        obtain ⟨n, l, ds, vs, rfl, rfl, q1, q2, q3, q4⟩ := isL_of st1 xo hl
        refine ⟨.inl ⟨rfl, vs, .inl (.inl q3)⟩, Z, μ1, s1, ρ, st1, rh.nx nx1, po1.bind fun dd s2 μ2 H2 us e2 nx2 st2 uo po2 => ?_⟩
        have uo : RvAll T.K H2 (Bz μ2 s2 Z) us dd := uo
        have hlen := evs_one e2
        have po2 : Po T W σ Z μ2 s2 H2 (popX n dd s2) (XOk T Z) Q := po2
        unfold popX at po2
        split at po2
        · simp at hlen
        · rename_i i
          cases uo with
          | cons ud ut =>
            cases ut
            cases ud
            unfold pop1X at po2
            split at po2
            · rename_i ec
              split at po2
              · rename_i hz
                split at po2
                · rename_i kk ek
                  split at po2
                  · rename_i d ed
                    have e1 := pre_get nx2.pre q1
                    obtain ⟨vs2, e4, r4⟩ := cell_of st2 e1 ec
                    obtain ⟨v2, ev2, rv2⟩ := r4.get ed
                    refine ⟨l, vs2, _, kk, v2, rfl, rfl, e4, by omega, by omega, by rw [r4.length]; exact (ixN_seq ek).1, ev2, ?_⟩
                    obtain ⟨nx3, st3⟩ := chg_step (c' := .lst _) (o := .lst _) st2 e1 ec rfl rfl fun mv => ⟨_, upd_same, (r4.erase kk).mv mv⟩
                    exact po2 μ2 _ _ nx3 st3 (nx3.rv rv2)
                  · exact absurd po2 fun z => z
                · exact absurd po2 fun z => z
              · exact absurd po2 fun z => z
            · exact absurd po2 fun z => z
        · exact absurd po2 fun z => z
      · exact absurd po1 fun z => z
    · split at hm
      · rename_i em
        cases Option.some.inj hm
        subst em
        refine (pe_bm PySem.F.plainAttrs_list PySem.F.slot_list_extend PySem.F.type_list_extend mt_extend ho hD rfl few hline (star_no hn) rfl).imp fun σ H Q q => ?_
        obtain ⟨Z, μ, s, ρ, st, rh, po⟩ := q
        unfold ev at po
        refine ⟨Z, μ, s, ρ, st, rh, po.bind fun x s1 μ1 H1 u e1 nx1 st1 xo po1 => ?_⟩
        split at po1
        · rename_i hl
          obtain ⟨n, l, ds, vs, rfl, rfl, q1, q2, q3, q4⟩ := isL_of st1 xo hl
          refine ⟨.inl ⟨rfl, vs, .inl (.inl q3)⟩, Z, μ1, s1, ρ, st1, rh.nx nx1, po1.bind fun dd s2 μ2 H2 us e2 nx2 st2 uo po2 => ?_⟩
          have uo : RvAll T.K H2 (Bz μ2 s2 Z) us dd := uo
          unfold methX at po2
          simp only at po2
          split at po2
          · rename_i ys
            split at po2
            · rename_i ec
              split at po2
              · rename_i hz
                have e1 := pre_get nx2.pre q1
                obtain ⟨vs2, e4, r4⟩ := cell_of st2 e1 ec
                cases uo with
                | cons ud ut =>
                  cases ut
                  cases ud with
                  | lst eb nb rb =>
                    refine ⟨l, _, vs2, _, rfl, rfl, e4, eb, by rw [r4.length, rb.length]; have := sizeLine_eq; omega, ?_⟩
                    obtain ⟨nx3, st3⟩ := chg_step (c' := .lst _) (o := .lst _) st2 e1 ec rfl rfl fun mv => ⟨_, upd_same, (r4.append rb).mv mv⟩
                    exact po2 μ2 _ _ nx3 st3 .non
              · exact absurd po2 fun z => z
            · exact absurd po2 fun z => z
          · exact absurd po2 fun z => z
        · exact absurd po1 fun z => z
      · cases hm
end
end Mi
end

section
set_option maxRecDepth 100000
/-! MiSnd4: what is walked. -/
namespace Mi
open PySem PySem.Spec PyProof.Rows L2

def srcAt : Src → Sto → Nat → Option (Option PyData)
  | .stat xs, _, i => some xs[i]?
  | .cell n, s, i => cellAt n s i
  | .enum n, s, i => enumAt n s i
  | .zip a b, s, i => zipAt a b s i
def fuelOf : Src → Nat
  | .stat xs => xs.length + 1
  | _ => fuel
theorem turns_C (f : PyData → Sto → R (List PyData)) (xs : List PyData) : ∀ (m i : Nat) (s : Sto), i + m = xs.length → turnsC f (fun _ i => some xs[i]?) (m + 1) i s = turns f (xs.drop i) s
  | 0, i, s, h => by
    unfold turnsC
    rw [List.getElem?_eq_none (by omega), List.drop_of_length_le (by omega)]
    rfl
  | m + 1, i, s, h => by
    unfold turnsC
    have hi : i < xs.length := by omega
    rw [List.getElem?_eq_getElem hi, List.drop_eq_getElem_cons hi]
    show (f xs[i] s).bind _ = turns f (xs[i] :: xs.drop (i + 1)) s
    unfold turns
    congr 1
    funext ys s1
    rw [turns_C f xs m (i + 1) s1 (by omega)]
theorem walk_eq (f : PyData → Sto → R (List PyData)) (src : Src) (s : Sto) : walk f src s = turnsC f (srcAt src) (fuelOf src) 0 s := by
  cases src with
  | stat xs => exact (turns_C f xs xs.length 0 s (by omega)).symm
  | cell n => rfl
  | enum n => rfl
  | zip a b => rfl
theorem forS_C (f : PyData → Rho → Sto → R Fl) (xs : List PyData) : ∀ (m i : Nat) (ρ : Rho) (s : Sto), i + m = xs.length → forC f (fun _ i => some xs[i]?) (m + 1) i ρ s = forS f (xs.drop i) ρ s
  | 0, i, ρ, s, h => by
    unfold forC
    rw [List.getElem?_eq_none (by omega), List.drop_of_length_le (by omega)]
    rfl
  | m + 1, i, ρ, s, h => by
    unfold forC
    have hi : i < xs.length := by omega
    rw [List.getElem?_eq_getElem hi, List.drop_eq_getElem_cons hi]
    show (f xs[i] ρ s).bind _ = forS f (xs[i] :: xs.drop (i + 1)) ρ s
    unfold forS
    congr 1
    funext fl s1
    cases fl with
    | nx ρ1 => exact forS_C f xs m (i + 1) ρ1 s1 (by omega)
    | ct ρ1 => exact forS_C f xs m (i + 1) ρ1 s1 (by omega)
    | bk ρ1 => rfl
    | rt x => rfl
theorem forW_eq (f : PyData → Rho → Sto → R Fl) (src : Src) (ρ : Rho) (s : Sto) : forW f src ρ s = forC f (srcAt src) (fuelOf src) 0 ρ s := by
  cases src with
  | stat xs => exact (forS_C f xs xs.length 0 ρ s (by omega)).symm
  | cell n => rfl
  | enum n => rfl
  | zip a b => rfl

/-- more is held apart, what is new since -/
def ZUp (Z : List Addr) (H0 : Hp) (Z' : List Addr) : Prop := ∀ a ∈ Z', a ∈ Z ∨ H0 a = none
theorem Nx.mvZ {μ μ' : List Addr} {s s' : Sto} {H H' : Hp} {Z Z' : List Addr} (a : Nx μ s H μ' s' H') (z : ZUp Z H Z') : Mv H H' (Bz μ s Z) (Bz μ' s' Z') := by
  refine ⟨fun x o h n => a.ext x o h fun q => n (.inl q), fun x o h n q => ?_⟩
  rcases q with q | q
  · rcases a.bm x q with q | q
    · exact n (.inl q)
    · rw [h] at q; cases q
  · rcases z x q with q | q
    · exact n (.inr q)
    · rw [h] at q; cases q
/-- a step under which the things of Z may be changed, too -/
structure Nz (Z μ : List Addr) (s : Sto) (H : Hp) (μ' : List Addr) (s' : Sto) (H' : Hp) : Prop where
  pre : μ <+: μ'
  ext : ∀ a o, H a = some o → ¬ Bz μ s Z a → H' a = some o
  bm : ∀ a, Bm μ' s' a → Bm μ s a ∨ H a = none
  dom : ∀ a, H a ≠ none → H' a ≠ none
theorem Nx.nz {μ μ' : List Addr} {s s' : Sto} {H H' : Hp} (a : Nx μ s H μ' s' H') (Z : List Addr) : Nz Z μ s H μ' s' H' := ⟨a.pre, fun x o h n => a.ext x o h fun q => n (.inl q), a.bm, a.dom⟩
theorem Nz.mvZ {μ μ' : List Addr} {s s' : Sto} {H H' : Hp} {Z Z' : List Addr} (a : Nz Z μ s H μ' s' H') (z : ZUp Z H Z') : Mv H H' (Bz μ s Z) (Bz μ' s' Z') := by
  refine ⟨fun x o h n => a.ext x o h n, fun x o h n q => ?_⟩
  rcases q with q | q
  · rcases a.bm x q with q | q
    · exact n (.inl q)
    · rw [h] at q; cases q
  · rcases z x q with q | q
    · exact n (.inr q)
    · rw [h] at q; cases q
theorem Nz.trans {μ μ1 μ2 : List Addr} {s s1 s2 : Sto} {H H1 H2 : Hp} {Z : List Addr} (a : Nz Z μ s H μ1 s1 H1) (b : Nz Z μ1 s1 H1 μ2 s2 H2) : Nz Z μ s H μ2 s2 H2 := by
  refine ⟨a.pre.trans b.pre, fun x o h n => b.ext x o (a.ext x o h n) fun q => ?_, fun x h => ?_, fun x h => b.dom x (a.dom x h)⟩
  · rcases q with q | q
    · rcases a.bm x q with q | q
      · exact n (.inl q)
      · rw [h] at q; cases q
    · exact n (.inr q)
  · rcases b.bm x h with h | h
    · exact a.bm x h
    · by_cases e : H x = none
      · exact .inr e
      · exact absurd h (a.dom x e)
theorem Nz.upd {μ : List Addr} {s : Sto} {H : Hp} {Z : List Addr} {D : Addr} {o : HO} (hD : D ∈ Z) : Nz Z μ s H μ s (upd H D o) :=
  ⟨List.prefix_refl _, fun x u h n => by rw [upd_ne fun (z : x = D) => n (.inr (by rw [z]; exact hD))]; exact h, fun x h => .inl h, fun x h => by
    by_cases e : x = D
    · subst e; rw [upd_same]; exact fun z => nomatch z
    · rw [upd_ne e]; exact h⟩
theorem RhoOk.nz {K : PySem.W.Frag} {Z μ μ' : List Addr} {s s' : Sto} {H H' : Hp} {ρ : Rho} {σ : L2.St} (a : Nz Z μ s H μ' s' H') (h : RhoOk K Z μ s H ρ σ) : RhoOk K Z μ' s' H' ρ σ := by
  have m : Mv H H' (Bz μ s Z) (Bz μ' s' Z) := a.mvZ fun x hx => .inl hx
  refine ⟨h.len, fun i x e => ?_⟩
  obtain ⟨u, e1, r⟩ := h.at_ i x e
  refine ⟨u, e1, ?_⟩
  cases x with
  | v d => exact Rv.mv m r
  | c n => obtain ⟨b, e, r⟩ := r; exact ⟨b, pre_get a.pre e, r⟩
  | w ns =>
    obtain ⟨b, e, r⟩ := r
    refine ⟨b, e, ?_⟩
    rcases r with ⟨r, n⟩ | r
    · rcases r with r | ⟨o, r⟩
      · exact .inl ⟨.inl (m.keep _ _ r n), m.out _ _ r n⟩
      · exact .inl ⟨.inr ⟨o, m.keep _ _ r n⟩, m.out _ _ r n⟩
    · exact .inr r
theorem XvOk.nxZ {K : PySem.W.Frag} {Z Z' μ μ' : List Addr} {s s' : Sto} {H H' : Hp} {u : V} {x : Xv} (a : Nx μ s H μ' s' H') (z : ZUp Z H Z') (h : XvOk K Z μ s H u x) : XvOk K Z' μ' s' H' u x := by
  cases x with
  | v d => exact Rv.mv (a.mvZ z) h
  | c n => obtain ⟨b, e, r⟩ := h; exact ⟨b, pre_get a.pre e, r⟩
  | w ns =>
    obtain ⟨b, e, r⟩ := h
    refine ⟨b, e, ?_⟩
    rcases r with ⟨r, n⟩ | r
    · have m := a.mvZ z
      rcases r with r | ⟨o, r⟩
      · exact .inl ⟨.inl (m.keep _ _ r n), m.out _ _ r n⟩
      · exact .inl ⟨.inr ⟨o, m.keep _ _ r n⟩, m.out _ _ r n⟩
    · exact .inr r
theorem RhoOk.nxZ {K : PySem.W.Frag} {Z Z' μ μ' : List Addr} {s s' : Sto} {H H' : Hp} {ρ : Rho} {σ : L2.St} (a : Nx μ s H μ' s' H') (z : ZUp Z H Z') (h : RhoOk K Z μ s H ρ σ) : RhoOk K Z' μ' s' H' ρ σ :=
  ⟨h.len, fun i x e => let ⟨u, e1, r⟩ := h.at_ i x e; ⟨u, e1, r.nxZ a z⟩⟩
/-- as Rv; a tuple that is taken apart at once may be any tuple -/
def RvU (u : Bool) (K : PySem.W.Frag) (H : Hp) (B : Addr → Prop) (x : V) (d : PyData) : Prop := Rv K H B x d ∨ (u = true ∧ ∃ a vs ds, x = .ref a ∧ d = .tuple ds ∧ H a = some (.tup vs) ∧ RvAll K H B vs ds)
theorem RvU.newT {K : PySem.W.Frag} {Z μ : List Addr} {s : Sto} {H : Hp} {p : Addr} {vs : List V} {ds : List PyData} (st : StOk K Z μ s H) (hp : H p = none) (h : RvAll K H (Bz μ s Z) vs ds) : RvU true K (upd H p (.tup vs)) (Bz μ s Z) (.ref p) (.tuple ds) :=
  .inr ⟨rfl, p, vs, ds, rfl, rfl, upd_same, h.mv (Mv.new hp)⟩
/-- the iterator J walks src, from the state (μ0, s0, H0) on -/
def SrcOk (un : Bool) (T : Tb) (Z μ0 : List Addr) (s0 : Sto) (H0 : Hp) (J : L2.It) (src : Src) : Prop :=
  ∀ (i : Nat) (μ : List Addr) (s : Sto) (H : Hp) (Z' : List Addr), Nz Z μ0 s0 H0 μ s H → ZUp Z H0 Z' → StOk T.K Z' μ s H →
    (srcAt src s i = some none → J.stop i H) ∧
    ∀ d, srcAt src s i = some (some d) → J.go i H ∧ ∀ x H', J.yld i H x H' → Nx μ s H μ s H' ∧ StOk T.K Z' μ s H' ∧ RvU un T.K H' (Bz μ s Z') x d
section
variable {T : Tb} {cx : Ctx} {W : WX} {k : Nat} {c : Cc} {X : Cx} {Z μ0 : List Addr} {s0 : Sto} {H0 : Hp} {un : Bool}
theorem some_none {α : Type} {xs : List α} {i : Nat} (h : (some xs[i]? : Option (Option α)) = some none) : xs.length ≤ i := by
  have := Option.some.inj h
  exact List.getElem?_eq_none_iff.mp this
/-- a list as it stands: told by a cell's place or frozen -/
theorem src_lst {a : Addr} {src : Src} (h : ∀ (i : Nat) (μ : List Addr) (s : Sto) (H : Hp) (Z' : List Addr), Nz Z μ0 s0 H0 μ s H → ZUp Z H0 Z' → StOk T.K Z' μ s H → ∀ o, srcAt src s i = some o →
    ∃ vs ds, o = ds[i]? ∧ SqL X.K H a vs ∧ RvAll T.K H (Bz μ s Z') vs ds) : SrcOk un T Z μ0 s0 H0 (Itl X.K a) src := by
  intro i μ s H Z' nx z st
  refine ⟨fun e => ?_, fun d e => ?_⟩
  · obtain ⟨vs, ds, e1, hs, r⟩ := h i μ s H Z' nx z st none e
    exact ⟨vs, hs, by rw [r.length]; exact List.getElem?_eq_none_iff.mp e1.symm⟩
  · obtain ⟨vs, ds, e1, hs, r⟩ := h i μ s H Z' nx z st (some d) e
    obtain ⟨v, ev, rv⟩ := r.get e1.symm
    refine ⟨⟨vs, v, hs, ev⟩, fun x H' hy => ?_⟩
    obtain ⟨rfl, hx⟩ := hy
    have := hx vs hs
    rw [ev] at this
    cases Option.some.inj this
    exact ⟨Nx.refl _ _ _, st, .inl rv⟩
/-- a tuple that stays -/
def TpOk (K : PySem.W.Frag) (H : Hp) (B : Addr → Prop) (a : Addr) (vs : List V) : Prop := (TupO H a vs ∧ ¬ B a) ∨ WrT K a vs
theorem TpOk.sq {K : PySem.W.Frag} {H : Hp} {B : Addr → Prop} {a : Addr} {vs : List V} (h : TpOk K H B a vs) : SqT K H a vs := by
  rcases h with ⟨e, _⟩ | e
  · exact e.sq
  · exact e.sq _
theorem TpOk.mv {K : PySem.W.Frag} {H H' : Hp} {B B' : Addr → Prop} {a : Addr} {vs : List V} (m : Mv H H' B B') (h : TpOk K H B a vs) : TpOk K H' B' a vs := by
  rcases h with ⟨e, n⟩ | e
  · exact .inl (e.mv m n)
  · exact .inr e
theorem Rv.tp {K : PySem.W.Frag} {H : Hp} {B : Addr → Prop} {u : V} {ds : List PyData} (h : Rv K H B u (.tuple ds)) : ∃ a vs, u = .ref a ∧ TpOk K H B a vs ∧ RvAll K H B vs ds := by
  cases h with
  | tup e n r => exact ⟨_, _, rfl, .inl ⟨e, n⟩, r⟩
  | wt e r => exact ⟨_, _, rfl, .inr e, r⟩
theorem src_tup {a : Addr} {ds : List PyData} {vs : List V} (hs : TpOk X.K H0 (Bz μ0 s0 Z) a vs) (r : RvAll T.K H0 (Bz μ0 s0 Z) vs ds) : SrcOk un T Z μ0 s0 H0 (Itt X.K a) (.stat ds) := by
  intro i μ s H Z' nx z st
  have m := nx.mvZ z
  have hs' : SqT X.K H a vs := (hs.mv m).sq
  have r' := r.mv m
  refine ⟨fun e => ⟨vs, hs', by rw [r.length]; exact some_none e⟩, fun d e => ?_⟩
  obtain ⟨v, ev, rv⟩ := r'.get (Option.some.inj e)
  refine ⟨⟨vs, v, hs', ev⟩, fun x H' hy => ?_⟩
  obtain ⟨rfl, hx⟩ := hy
  have := hx vs hs'
  rw [ev] at this
  cases Option.some.inj this
  exact ⟨Nx.refl _ _ _, st, .inl rv⟩
theorem src_str (x : Str) : SrcOk un T Z μ0 s0 H0 (Its x) (.stat (chars x)) := by
  intro i μ s H Z' nx z st
  refine ⟨fun e => ?_, fun d e => ?_⟩
  · have := some_none e
    unfold chars at this
    rw [List.length_map, Array.length_toList] at this
    exact this
  · have e1 : (chars x)[i]? = some d := Option.some.inj e
    unfold chars at e1
    rw [List.getElem?_map] at e1
    cases q : x.cps.toList[i]? with
    | none => rw [q] at e1; cases e1
    | some ch =>
      rw [q] at e1
      cases Option.some.inj e1
      have hi : i < x.cps.size := by
        have := (List.getElem?_eq_some_iff.mp q).1
        rwa [Array.length_toList] at this
      refine ⟨hi, fun v H' hy => ?_⟩
      obtain ⟨rfl, ch', ec, rfl⟩ := hy
      have e2 : x.cps[i]? = some ch := by rw [← Array.getElem?_toList]; exact q
      rw [e2] at ec
      cases Option.some.inj ec
      exact ⟨Nx.refl _ _ _, st, .inl (.str _)⟩
theorem src_keys {a : Addr} {o : Obj} {ks : List (Key × V)} {kvs : List (PyData × PyData)} (e0 : H0 a = some (.frz o (.dK ks))) (n0 : ¬ Bz μ0 s0 Z a) (r : RvKv T.K H0 (Bz μ0 s0 Z) ks kvs) : SrcOk un T Z μ0 s0 H0 (Itk a o ks) (.stat (kvs.map (·.1))) := by
  intro i μ s H Z' nx z st
  have m := nx.mvZ z
  have e1 := m.keep _ _ e0 n0
  have r' := r.mv m
  refine ⟨fun e => ⟨e1, ?_⟩, fun d e => ?_⟩
  · have := some_none e
    rw [List.length_map, ← r.length] at this
    exact this
  · have e2 : (kvs.map (·.1))[i]? = some d := Option.some.inj e
    rw [List.getElem?_map] at e2
    cases q : kvs[i]? with
    | none => rw [q] at e2; cases e2
    | some p =>
      rw [q] at e2
      cases Option.some.inj e2
      obtain ⟨k, v, ek, e3, rv⟩ := r'.get q
      refine ⟨⟨e1, (List.getElem?_eq_some_iff.mp ek).1⟩, fun x H' hy => ?_⟩
      obtain ⟨rfl, k', v', ek', rfl⟩ := hy
      rw [ek] at ek'
      cases Option.some.inj ek'
      refine ⟨Nx.refl _ _ _, st, .inl ?_⟩
      show Rv T.K _ _ (kV k) p.1
      rw [e3]
      exact rv_of_kd k
theorem src_vals {a : Addr} {o : Obj} {ks : List (Key × V)} {kvs : List (PyData × PyData)} (e0 : H0 a = some (.frz o (.dK ks))) (n0 : ¬ Bz μ0 s0 Z a) (r : RvKv T.K H0 (Bz μ0 s0 Z) ks kvs) : SrcOk un T Z μ0 s0 H0 (Itd a o ks) (.stat (kvs.map (·.2))) := by
  intro i μ s H Z' nx z st
  have m := nx.mvZ z
  have e1 := m.keep _ _ e0 n0
  have r' := r.mv m
  refine ⟨fun e => ⟨e1, ?_⟩, fun d e => ?_⟩
  · have := some_none e
    rw [List.length_map, ← r.length] at this
    exact this
  · have e2 : (kvs.map (·.2))[i]? = some d := Option.some.inj e
    rw [List.getElem?_map] at e2
    cases q : kvs[i]? with
    | none => rw [q] at e2; cases e2
    | some p =>
      rw [q] at e2
      cases Option.some.inj e2
      obtain ⟨k, v, ek, e3, rv⟩ := r'.get q
      refine ⟨⟨e1, (List.getElem?_eq_some_iff.mp ek).1⟩, fun x H' hy => ?_⟩
      obtain ⟨rfl, k', ek'⟩ := hy
      rw [ek] at ek'
      cases Option.some.inj ek'
      exact ⟨Nx.refl _ _ _, st, .inl rv⟩
theorem src_items {a : Addr} {o : Obj} {ks : List (Key × V)} {kvs : List (PyData × PyData)} (e0 : H0 a = some (.frz o (.dK ks))) (n0 : ¬ Bz μ0 s0 Z a) (r : RvKv T.K H0 (Bz μ0 s0 Z) ks kvs) : SrcOk true T Z μ0 s0 H0 (Iti a o ks) (.stat (kvs.map fun p => .tuple [p.1, p.2])) := by
  intro i μ s H Z' nx z st
  have m := nx.mvZ z
  have e1 := m.keep _ _ e0 n0
  have r' := r.mv m
  refine ⟨fun e => ⟨e1, ?_⟩, fun d e => ?_⟩
  · have := some_none e
    rw [List.length_map, ← r.length] at this
    exact this
  · have e2 : (kvs.map fun p => PyData.tuple [p.1, p.2])[i]? = some d := Option.some.inj e
    rw [List.getElem?_map] at e2
    cases q : kvs[i]? with
    | none => rw [q] at e2; cases e2
    | some p =>
      rw [q] at e2
      cases Option.some.inj e2
      obtain ⟨k, v, ek, e3, rv⟩ := r'.get q
      refine ⟨⟨e1, (List.getElem?_eq_some_iff.mp ek).1⟩, fun x H' hy => ?_⟩
      obtain ⟨Tp, k', v', ek', rfl, nT, rfl⟩ := hy
      rw [ek] at ek'
      cases Option.some.inj ek'
      refine ⟨Nx.new nT, st.new nT, ?_⟩
      show RvU true T.K _ _ _ (.tuple [p.1, p.2])
      rw [e3]
      exact RvU.newT st nT (.cons (rv_of_kd k) (.cons rv .nil))
theorem rangeL_get : ∀ (n i : Nat) (lo : Int), (rangeL lo n)[i]? = if i < n then some (.int (lo + i)) else none
  | 0, i, lo => by simp [rangeL]
  | n + 1, 0, lo => by simp [rangeL]
  | n + 1, i + 1, lo => by
    show (rangeL (lo + 1) n)[i]? = _
    rw [rangeL_get n i (lo + 1)]
    by_cases h : i < n
    · rw [if_pos h, if_pos (by omega)]
      congr 2
      omega
    · rw [if_neg h, if_neg (by omega)]
theorem src_rng (lo : Int) (n : Nat) : SrcOk un T Z μ0 s0 H0 (Itr lo n) (.stat (rangeL lo n)) := by
  intro i μ s H Z' nx z st
  have g := rangeL_get n i lo
  refine ⟨fun e => ?_, fun d e => ?_⟩
  · have e1 : (rangeL lo n)[i]? = none := Option.some.inj e
    rw [g] at e1
    show n ≤ i
    by_cases h : i < n
    · rw [if_pos h] at e1; cases e1
    · omega
  · have e1 : (rangeL lo n)[i]? = some d := Option.some.inj e
    rw [g] at e1
    by_cases h : i < n
    · rw [if_pos h] at e1
      cases Option.some.inj e1
      refine ⟨h, fun v H' hy => ?_⟩
      obtain ⟨rfl, rfl⟩ := hy
      exact ⟨Nx.refl _ _ _, st, .inl (.int _)⟩
    · rw [if_neg h] at e1; cases e1
theorem src_enum {a : Addr} {src : Src} (h : ∀ (i : Nat) (μ : List Addr) (s : Sto) (H : Hp) (Z' : List Addr), Nz Z μ0 s0 H0 μ s H → ZUp Z H0 Z' → StOk T.K Z' μ s H → ∀ o, srcAt src s i = some o →
    ∃ vs ds, o = (ds[i]?).map (fun d => PyData.tuple [.int i, d]) ∧ SqL X.K H a vs ∧ RvAll T.K H (Bz μ s Z') vs ds) : SrcOk true T Z μ0 s0 H0 (Ite X.K a) src := by
  intro i μ s H Z' nx z st
  refine ⟨fun e => ?_, fun d e => ?_⟩
  · obtain ⟨vs, ds, e1, hs, r⟩ := h i μ s H Z' nx z st none e
    refine ⟨vs, hs, ?_⟩
    rw [r.length]
    apply List.getElem?_eq_none_iff.mp
    cases q : ds[i]? with
    | none => rfl
    | some d => rw [q] at e1; cases e1
  · obtain ⟨vs, ds, e1, hs, r⟩ := h i μ s H Z' nx z st (some d) e
    cases q : ds[i]? with
    | none => rw [q] at e1; cases e1
    | some d' =>
      rw [q] at e1
      cases Option.some.inj e1
      obtain ⟨v, ev, rv⟩ := r.get q
      refine ⟨⟨vs, v, hs, ev⟩, fun x H' hy => ?_⟩
      obtain ⟨Tp, x1, rfl, nT, rfl, hx⟩ := hy
      have := hx vs hs
      rw [ev] at this
      cases Option.some.inj this
      exact ⟨Nx.new nT, st.new nT, RvU.newT st nT (.cons (.int _) (.cons rv .nil))⟩
theorem src_zip {a b : Addr} {src : Src} (h : ∀ (i : Nat) (μ : List Addr) (s : Sto) (H : Hp) (Z' : List Addr), Nz Z μ0 s0 H0 μ s H → ZUp Z H0 Z' → StOk T.K Z' μ s H → ∀ o, srcAt src s i = some o →
    ∃ vs ds ws es, (o = match ds[i]?, es[i]? with | some d, some e => some (PyData.tuple [d, e]) | _, _ => none) ∧ SqL X.K H a vs ∧ RvAll T.K H (Bz μ s Z') vs ds ∧ SqL X.K H b ws ∧ RvAll T.K H (Bz μ s Z') ws es) : SrcOk true T Z μ0 s0 H0 (Itz X.K a b) src := by
  intro i μ s H Z' nx z st
  refine ⟨fun e => ?_, fun d e => ?_⟩
  · obtain ⟨vs, ds, ws, es, e1, hs, r, hs2, r2⟩ := h i μ s H Z' nx z st none e
    refine ⟨vs, ws, hs, hs2, ?_⟩
    rw [r.length, r2.length]
    cases q : ds[i]? with
    | none => exact .inl (List.getElem?_eq_none_iff.mp q)
    | some d =>
      cases q2 : es[i]? with
      | none => exact .inr (List.getElem?_eq_none_iff.mp q2)
      | some d2 => rw [q, q2] at e1; cases e1
  · obtain ⟨vs, ds, ws, es, e1, hs, r, hs2, r2⟩ := h i μ s H Z' nx z st (some d) e
    cases q : ds[i]? with
    | none => rw [q] at e1; cases e1
    | some d1 =>
      cases q2 : es[i]? with
      | none => rw [q, q2] at e1; cases e1
      | some d2 =>
        rw [q, q2] at e1
        cases Option.some.inj e1
        obtain ⟨v, ev, rv⟩ := r.get q
        obtain ⟨w, ew, rw_⟩ := r2.get q2
        refine ⟨⟨vs, ws, v, w, hs, hs2, ev, ew⟩, fun x H' hy => ?_⟩
        obtain ⟨Tp, x1, x2, rfl, nT, rfl, hx, hx2⟩ := hy
        have t1 := hx vs hs
        have t2 := hx2 ws hs2
        rw [ev] at t1
        rw [ew] at t2
        cases Option.some.inj t1
        cases Option.some.inj t2
        exact ⟨Nx.new nT, st.new nT, RvU.newT st nT (.cons rv (.cons rw_ .nil))⟩
theorem zipL_get : ∀ (xs ys : List PyData) (i : Nat), (zipL xs ys)[i]? = match xs[i]?, ys[i]? with | some d, some e => some (PyData.tuple [d, e]) | _, _ => none
  | [], ys, i => by simp [zipL]
  | x :: xs, [], i => by simp [zipL]
  | x :: xs, y :: ys, 0 => rfl
  | x :: xs, y :: ys, i + 1 => zipL_get xs ys i
theorem enumL_get : ∀ (xs : List PyData) (i : Nat) (j : Int), (enumL j xs)[i]? = (xs[i]?).map fun d => PyData.tuple [.int (j + i), d]
  | [], i, j => by simp [enumL]
  | x :: xs, 0, j => by simp [enumL]
  | x :: xs, i + 1, j => by
    show (enumL (j + 1) xs)[i]? = (xs[i]?).map _
    rw [enumL_get xs i (j + 1)]
    congr 1
    funext d
    congr 3
    omega
theorem src_zipT {a b : Addr} {ds es : List PyData} {vs ws : List V} (hs : TpOk X.K H0 (Bz μ0 s0 Z) a vs) (r : RvAll T.K H0 (Bz μ0 s0 Z) vs ds)
    (hs2 : TpOk X.K H0 (Bz μ0 s0 Z) b ws) (r2 : RvAll T.K H0 (Bz μ0 s0 Z) ws es) : SrcOk true T Z μ0 s0 H0 (RZ.ItzT X.K a b) (.stat (zipL ds es)) := by
  intro i μ s H Z' nx z st
  have m := nx.mvZ z
  have k1 : SqT X.K H a vs := (hs.mv m).sq
  have k2 : SqT X.K H b ws := (hs2.mv m).sq
  have g := zipL_get ds es i
  refine ⟨fun e => ?_, fun d e => ?_⟩
  · have e1 : (zipL ds es)[i]? = none := Option.some.inj e
    rw [g] at e1
    refine ⟨vs, ws, k1, k2, ?_⟩
    rw [r.length, r2.length]
    cases q : ds[i]? with
    | none => exact .inl (List.getElem?_eq_none_iff.mp q)
    | some d =>
      cases q2 : es[i]? with
      | none => exact .inr (List.getElem?_eq_none_iff.mp q2)
      | some d2 => rw [q, q2] at e1; cases e1
  · have e1 : (zipL ds es)[i]? = some d := Option.some.inj e
    rw [g] at e1
    cases q : ds[i]? with
    | none => rw [q] at e1; cases e1
    | some d1 =>
      cases q2 : es[i]? with
      | none => rw [q, q2] at e1; cases e1
      | some d2 =>
        rw [q, q2] at e1
        cases Option.some.inj e1
        obtain ⟨v, ev, rv⟩ := (r.mv m).get q
        obtain ⟨w, ew, rw_⟩ := (r2.mv m).get q2
        refine ⟨⟨vs, ws, v, w, k1, k2, ev, ew⟩, fun x H' hy => ?_⟩
        obtain ⟨Tp, x1, x2, rfl, nT, rfl, hx, hx2⟩ := hy
        have t1 := hx vs k1
        have t2 := hx2 ws k2
        rw [ev] at t1
        rw [ew] at t2
        cases Option.some.inj t1
        cases Option.some.inj t2
        exact ⟨Nx.new nT, st.new nT, RvU.newT st nT (.cons rv (.cons rw_ .nil))⟩

/-! ### the walked expression -/
/-- whose items are taken apart at once -/
def isU : It → Bool
  | .zip _ _ => true
  | .enum _ => true
  | .items _ => true
  | _ => false
def tI (T : Tb) (cx : Ctx) (W : WX) (it : It) : TI := fun σ H R => ∃ Z μ s ρ, StOk T.K Z μ s H ∧ RhoOk T.K Z μ s H ρ σ ∧ Po T W σ Z μ s H (evi cx it ρ s) (fun μ' s' H' J src => SrcOk (isU it) T Z μ' s' H' J src) R
theorem cell_src {μ0 : List Addr} {s0 : Sto} {H0 : Hp} {n : Nat} {a : Addr} (e1 : μ0[n]? = some a) {i : Nat} {μ : List Addr} {s : Sto} {H : Hp} {Z' : List Addr} (nx : Nz Z μ0 s0 H0 μ s H) (st : StOk T.K Z' μ s H) {o : Option PyData} (e : cellAt n s i = some o) :
    ∃ vs ds, o = ds[i]? ∧ SqL X.K H a vs ∧ RvAll T.K H (Bz μ s Z') vs ds := by
  have e1' := pre_get nx.pre e1
  unfold cellAt at e
  split at e
  · rename_i xs ec
    cases Option.some.inj e
    obtain ⟨vs, e2, r⟩ := st.cell n a _ e1' ec
    exact ⟨vs, xs, rfl, .inl (.inl e2), r⟩
  · rename_i xs ec
    cases Option.some.inj e
    obtain ⟨r, _, _⟩ := st.cell n a _ e1' ec
    cases r with
    | lst e2 _ r => exact ⟨_, xs, rfl, .inl (.inl e2), r⟩
  · cases e
theorem xv_src {Z μ0 : List Addr} {s0 : Sto} {H0 : Hp} {x : Xv} {u : V} (xo : XvOk T.K Z μ0 s0 H0 u x) (hx : (∃ n, x = .c n) ∨ ∃ xs, x = .v (.list xs)) : ∃ a, u = .ref a ∧ ∀ {i : Nat} {μ : List Addr} {s : Sto} {H : Hp} {Z' : List Addr}, Nz Z μ0 s0 H0 μ s H → ZUp Z H0 Z' → StOk T.K Z' μ s H → ∀ {o : Option PyData}, xvAt x s i = some o →
    ∃ vs ds, o = ds[i]? ∧ SqL X.K H a vs ∧ RvAll T.K H (Bz μ s Z') vs ds := by
  rcases hx with ⟨n, rfl⟩ | ⟨xs, rfl⟩
  · obtain ⟨a, e1, rfl⟩ := xo
    exact ⟨a, rfl, fun nx z st o e => cell_src (X := X) e1 nx st e⟩
  · have xo : Rv T.K H0 (Bz μ0 s0 Z) u (.list xs) := xo
    cases xo with
    | lst e0 n0 r0 =>
      refine ⟨_, rfl, fun nx z st o e => ?_⟩
      have m := nx.mvZ z
      exact ⟨_, xs, (Option.some.inj e).symm, .inl (.inl (m.keep _ _ e0 n0)), r0.mv m⟩
theorem pi_seqX {e tg : Expr} {e' : E} (G : Good T cx W k c X) (he : PE X e (tE T cx W e')) : PI X tg e (tI T cx W (.seq e')) := by
  refine ⟨fun pins s σ H R I q => ?_⟩
  obtain ⟨Z, μ, t, ρ, st, rh, po⟩ := q
  unfold evi at po
  refine thn (he.run pins s σ H _ I ⟨Z, μ, t, ρ, st, rh, po.bind (P := fun u H1 => ∃ Z μ1 t1 x, StOk T.K Z μ1 t1 H1 ∧ XvOk T.K Z μ1 t1 H1 u x ∧ Po T W σ Z μ1 t1 H1 (match x with | .v d => (Mi.R.of (items d) t1).bind fun xs s => .ok (.stat xs) s | .c n => if (cellAt n t1 0).isSome then .ok (.cell n) t1 else .err | .w _ => .err) (fun μ' s' H' J src => SrcOk false T Z μ' s' H' J src) R) fun x t1 μ1 H1 u e1 nx1 st1 xo po1 => ⟨Z, μ1, t1, x, st1, xo, po1⟩⟩) fun v s1 ⟨u, H1, I1, r1, Z, μ1, t1, x, st1, xo, po1⟩ => ?_
  have lstJ : ∀ {a : Addr} {vs : List V}, u = .ref a → SqL X.K H1 a vs → R (Itl X.K a) H1 → wpAny (model X.prog X.w) X.A (pyIter v) (PIE X pins σ tg R) X.xe s1 := fun {a vs} eu hq hR => by
    subst eu
    cases r1
    obtain ⟨its, rv, p, hz⟩ := I1.list hq
    refine wpAny_pyIter_list p.isList ?_
    refine ⟨s1.heap.objs.size, [s1.heap.objs.size], _, _, H1, rfl, I1.kept (t' := s1.toks) fun b o e => Heap.get?_push_of_some _ e, turn_list a _, ⟨_, Heap.get?_push_size _ rfl, rfl, rfl⟩, fun b hb => ?_, hR⟩
    have e : b = s1.heap.objs.size := by simpa using hb
    subst e
    exact I1.fpOk (Nat.le_refl _) (I1.hok.fresh (Nat.le_refl _))
  cases x with
  | w ns => exact absurd po1 fun z => z
  | c n =>
    obtain ⟨a, e1, eu⟩ := xo
    simp only at po1
    split at po1
    rotate_left
    · exact absurd po1 fun z => z
    rename_i hcs
    obtain ⟨o, eo⟩ := Option.isSome_iff_exists.mp hcs
    obtain ⟨vs, ds, _, hq, _⟩ := cell_src (X := X) e1 ((Nx.refl _ _ _).nz []) st1 eo
    refine lstJ eu hq (po1 μ1 H1 _ (Nx.refl _ _ _) st1 (src_lst fun i μ s H Z' nx z st o e => cell_src (X := X) e1 nx st e))
  | v d =>
    have xo : Rv T.K H1 (Bz μ1 t1 Z) u d := xo
    have po1 : Po T W σ Z μ1 t1 H1 ((Mi.R.of (items d) t1).bind fun xs s => .ok (.stat xs) s) (fun μ' s' H' J src => SrcOk false T Z μ' s' H' J src) R := po1
    cases d with
    | none => exact absurd po1 fun z => z
    | bool b => exact absurd po1 fun z => z
    | int i => exact absurd po1 fun z => z
    | dict kvs =>
      cases xo with
      | dK e n rr =>
        rename_i ad ks
        obtain ⟨o, e⟩ := e
        have hR : R (Itk ad o ks) H1 := by
          simp only [items, rr.kindF] at po1
          exact po1 μ1 H1 _ (Nx.refl _ _ _) st1 (src_keys e n rr)
        cases r1
        obtain ⟨hs, hgd, hx, es, ep, vs, hdt, hsz, kv, hm⟩ := I1.frzK e
        refine iter_keys hs hgd hx hdt (pi_one (tk := s1.toks) I1 _ (turn_keys _ hdt) ⟨_, Heap.get?_push_size _ rfl, rfl, ?_⟩ hR)
        rw [hsz] <;> rfl
    | str x =>
      cases xo
      obtain ⟨t, rfl⟩ := r1
      have hR : R (Its x) H1 := po1 μ1 H1 _ (Nx.refl _ _ _) st1 (src_str x)
      cases ha : x.cps.all (· < 128)
      · exact wpAny_pyIter_wide ha (pi_one (tk := s1.toks) I1 _ (turn_str _ x t "str_iterator" (.inr rfl)) ⟨_, Heap.get?_push_size _ rfl, rfl, rfl⟩ hR)
      · exact wpAny_pyIter_ascii ha (pi_one (tk := s1.toks) I1 _ (turn_str _ x t "str_ascii_iterator" (.inl rfl)) ⟨_, Heap.get?_push_size _ rfl, rfl, rfl⟩ hR)
    | list ds =>
      have hsrc := xv_src (T := T) (X := X) (Z := Z) (μ0 := μ1) (s0 := t1) (H0 := H1) (x := .v (.list ds)) (u := u) xo (.inr ⟨ds, rfl⟩)
      obtain ⟨a, eu, hs⟩ := hsrc
      cases xo with
      | lst e0 n0 r0 =>
        refine lstJ rfl (.inl (.inl e0)) (po1 μ1 H1 _ (Nx.refl _ _ _) st1 (src_lst fun i μ s H Z' nx z st o e => ?_))
        cases eu
        exact hs nx z st e
    | tuple ds =>
      have tupJ : ∀ {a : Addr} {vs : List V}, u = .ref a → SqT X.K H1 a vs → R (Itt X.K a) H1 → wpAny (model X.prog X.w) X.A (pyIter v) (PIE X pins σ tg R) X.xe s1 := fun {a vs} eu hq hR => by
        subst eu
        cases r1
        obtain ⟨its, rv, p, hz⟩ := I1.tuple hq
        refine wpAny_pyIter_tuple (show s1.heap.IsTuple a its.toArray from p) ?_
        refine ⟨s1.heap.objs.size, [s1.heap.objs.size], _, _, H1, rfl, I1.kept (t' := s1.toks) fun b o e => Heap.get?_push_of_some _ e, turn_tuple a _, ⟨_, Heap.get?_push_size _ rfl, rfl, rfl⟩, fun b hb => ?_, hR⟩
        have e : b = s1.heap.objs.size := by simpa using hb
        subst e
        exact I1.fpOk (Nat.le_refl _) (I1.hok.fresh (Nat.le_refl _))
      obtain ⟨a, vs, eu, tp, r0⟩ := Rv.tp xo
      rw [G.K] at tp
      exact tupJ eu tp.sq (po1 μ1 H1 _ (Nx.refl _ _ _) st1 (src_tup tp r0))
end
end Mi
end

section
set_option maxRecDepth 100000
set_option maxHeartbeats 2000000
/-! MiZip: the turns of a zip whose pairs are kept (a plain name as target). -/
namespace Mi
open PySem PySem.Spec PySem.W PyProof.Rows
/-- a zip object: its owned tuple (none out, or at an address), what it knows of that -/
abbrev Zst (h : Heap) (z p r : Addr) (o : Value) (f : Bool) : Prop := h.get? z = some { cls := .type "zip", dict := none, data := .fields #[o, .bool f, .bool false, .ref p, .ref r], slots := #[] }
def Out (o : Value) : Prop := o = .none ∨ ∃ t : Addr, o = rawInt t
section
variable {prog : Program} {w : World} {A : Around} {E : Value → Shared → Prop} {s : Shared} {z p r i1 i2 : Addr} {l1 l2 : List Addr} {n1 n2 i : Nat} {P1 P2 : Nat → Value → Prop} {S1 S2 : Nat → Heap → Prop} {o : Value} {f : Bool}
theorem zalive {a : Addr} {Q : Option Obj → Shared → Prop} (h : Q (s.heap.get? a) s) : wpAny (model prog w) A (loadIfAlive a) Q E s := fun _ _ _ => h
theorem zfree {Q : Bool → Shared → Prop} (ho : Out o) (hz : Zst s.heap z p r o f) (h1 : Q true s) (h2 : ∀ g : Heap, Zst g z p r o true → Heap.SameBut z s.heap g → Q false { s with heap := g }) :
    wpAny (model prog w) A (Builtin.SmallTypes.ownedTupleIsFree (.ref z)) Q E s := by
  rcases ho with rfl | ⟨t, rfl⟩
  · unfold Builtin.SmallTypes.ownedTupleIsFree
    exact wpAny_bind (wpAny_field hz rfl (x := Value.none) rfl (wpAny_pure h1))
  · cases ht : s.heap.get? t with
    | some ot => exact wpAny_tupleHeld_zip (T := t) hz ht h2
    | none =>
      unfold Builtin.SmallTypes.ownedTupleIsFree
      refine wpAny_bind (wpAny_field hz rfl (x := rawInt t) rfl ?_)
      change wpAny _ _ (loadIfAlive ((t : Int).toNat) >>= _) _ _ _
      rw [Int.toNat_natCast]
      refine wpAny_bind (zalive ?_)
      rw [ht]
      exact wpAny_pure h1
/-- an item of each source: a new pair of them -/
theorem zn_item {Q : Value → Shared → Prop} (S : ZipSep2 z p r i1 i2 l1 l2) (D1 : Draws prog w A i1 l1 n1 P1 S1) (D2 : Draws prog w A i2 l2 n2 P2 S2) (ho : Out o) (hz : Zst s.heap z p r o f) (hp : IsPair s.heap p (.ref i1) (.ref i2)) (hr : ∃ a b, IsPair s.heap r a b)
    (t1 : S1 i s.heap) (t2 : S2 i s.heap) (lt1 : i < n1) (lt2 : i < n2)
    (hQ : ∀ (x y : Value) (g : Heap) (tk : Nat) (o' : Value) (f' : Bool), P1 i x → P2 i y → Out o' → Zst g z p r o' f' → (∃ a b, IsPair g r a b) → S1 (i + 1) g → S2 (i + 1) g → IsPair g s.heap.objs.size x y →
      (∀ c u, c ≠ z → c ≠ r → c ≠ i1 → c ≠ i2 → s.heap.get? c = some u → g.get? c = some u) → Q (.ref s.heap.objs.size) { s with heap := g, toks := tk }) :
    wpAny (model prog w) A (Builtin.«zip.__next__» ⟨[.ref z], []⟩) (fun fin s' => ∃ v, fin = .done (.ret v) ∧ Q v s') E s := by
  obtain ⟨a, b, hr⟩ := hr
  obtain ⟨h0, gn, dr, k0, os⟩ := s
  change wpAny _ _ (field (.ref z) 2 >>= _) _ _ _
  refine wpAny_bind (wpAny_field hz rfl (x := Value.bool false) rfl ?_)
  change wpAny _ _ (field (.ref z) 3 >>= _) _ _ _
  refine wpAny_bind (wpAny_field hz rfl (x := Value.ref p) rfl (wpAny_bind (wpAny_seqItems hp rfl ?_)))
  change wpAny _ _ (Builtin.SmallTypes.ownedTupleIsFree (.ref z) >>= _) _ _ _
  refine wpAny_bind (zfree ho hz ?_ fun g0 hz0 e0 => ?_)
  · -- the owned tuple is taken again
    simp only [if_true]
    refine wpAny_bind (wpAny_rule (wpAny_bind (wpAny_field hz rfl (x := Value.ref r) rfl ?_)))
    refine wpAny_bind (wpAny_setField_rec hz (by simp) fun g0 hz0 e0 => ?_)
    have z0 : Zst g0 z p r .ellipsis f := hz0
    have e0 : Heap.SameBut z h0 g0 := e0
    refine wpAny_bind ?_
    simp only [List.zipIdx_cons, List.zipIdx_nil, List.forIn_cons, List.forIn_nil]
    refine wpAny_bind (wpAny_bind (wpAny_onRaise ?_))
    change wpAny _ _ (Builtin.SmallTypes.nextOf (.ref i1) >>= _) _ _ _
    refine wpAny_bind (D1.item i ⟨g0, gn, dr, k0, os⟩ _ _ lt1 (D1.over t1 e0 S.zf1) fun x g1 k1 px u1 e1 => wpAny_pure ?_)
    have e1 : Heap.SameBut i1 g0 g1 := e1
    have r1 : IsTupOf2 g1 r a b := e1.extBut _ _ S.Ti1 (e0.extBut _ _ S.TOz hr)
    refine wpAny_bind (wpAny_seqItems (s := ⟨g1, gn, dr, k1, os⟩) r1 rfl ?_)
    refine wpAny_bind (updateSeq_IsTupOf2 (s := ⟨g1, gn, dr, k1, os⟩) r1 fun g2 r2 e2 => ?_)
    have r2 : IsTupOf2 g2 r x b := r2
    have e2 : Heap.SameBut r g1 g2 := e2
    refine wpAny_bind (wpAny_letGo (wpAny_pure (wpAny_bind (wpAny_bind (wpAny_onRaise ?_)))))
    change wpAny _ _ (Builtin.SmallTypes.nextOf (.ref i2) >>= _) _ _ _
    refine wpAny_bind (D2.item i ⟨g2, gn, dr, k1, os⟩ _ _ lt2 (D2.over (D2.over (D2.over t2 e0 S.zf2) e1 S.sep1_2) e2 S.Tf2) fun y g3 k2 py u2 e3 => wpAny_pure ?_)
    have e3 : Heap.SameBut i2 g2 g3 := e3
    have r3 : IsTupOf2 g3 r x b := e3.extBut _ _ S.Ti2 r2
    refine wpAny_bind (wpAny_seqItems (s := ⟨g3, gn, dr, k2, os⟩) r3 rfl ?_)
    refine wpAny_bind (updateSeq_IsTupOf2 (s := ⟨g3, gn, dr, k2, os⟩) r3 fun g4 r4 e4 => ?_)
    have r4 : IsTupOf2 g4 r x y := r4
    have e4 : Heap.SameBut r g3 g4 := e4
    refine wpAny_bind (wpAny_letGo (wpAny_pure (wpAny_pure (wpAny_bind (wpAny_seqItems (s := ⟨g4, gn, dr, k2, os⟩) r4 rfl (wpAny_bind (wpAny_newTuple ?_)))))))
    have sz : g4.objs.size = h0.objs.size := by rw [e4.1, e3.1, e2.1, e1.1, e0.1]
    have z4 : Zst g4 z p r .ellipsis f := e4.extBut _ _ S.TOz.symm (e3.extBut _ _ S.zi2 (e2.extBut _ _ S.TOz.symm (e1.extBut _ _ S.zi1 z0)))
    have lz : z < g4.objs.size := Heap.lt_size z4
    have kk : ∀ c u, c ≠ z → c ≠ r → c ≠ i1 → c ≠ i2 → h0.get? c = some u → g4.get? c = some u := fun c u q1 q2 q3 q4 e => e4.extBut _ _ q2 (e3.extBut _ _ q4 (e2.extBut _ _ q2 (e1.extBut _ _ q3 (e0.extBut _ _ q1 e))))
    have v1 : S1 (i + 1) g4 := D1.over (D1.over (D1.over u1 e2 S.Tf1) e3 S.sep2_1) e4 S.Tf1
    have v2 : S2 (i + 1) g4 := D2.over u2 e4 S.Tf2
    change wpAny _ _ (Builtin.SmallTypes.ownedTupleHandOut (.ref z) (.ref g4.objs.size) >>= _) _ _ ⟨g4.push { cls := .type "tuple", data := .seq #[x, y] }, gn, dr, k2, os⟩
    refine wpAny_bind ?_
    unfold Builtin.SmallTypes.ownedTupleHandOut
    have z5 : Zst (g4.push { cls := .type "tuple", data := .seq #[x, y] }) z p r .ellipsis f := Heap.get?_push_of_some _ z4
    refine wpAny_bind (wpAny_setField_rec z5 (by simp) fun g6 z6 e6 => ?_)
    have z6 : Zst g6 z p r (rawInt g4.objs.size) f := z6
    have e6 : Heap.SameBut z (g4.push { cls := .type "tuple", data := .seq #[x, y] }) g6 := e6
    refine wpAny_setField_rec z6 (by simp) fun g7 z7 e7 => ?_
    have z7 : Zst g7 z p r (rawInt g4.objs.size) false := z7
    have e7 : Heap.SameBut z g6 g7 := e7
    have up : ∀ c u, c ≠ z → g4.get? c = some u → g7.get? c = some u := fun c u q e => e7.extBut _ _ q (e6.extBut _ _ q (Heap.get?_push_of_some _ e))
    have nw : IsPair g7 g4.objs.size x y := e7.extBut _ _ (Nat.ne_of_gt lz) (e6.extBut _ _ (Nat.ne_of_gt lz) (Heap.get?_push_size _ rfl))
    refine wpAny_pure ⟨_, rfl, ?_⟩
    rw [sz] at z7 nw
    change Q (.ref g4.objs.size) ⟨g7, gn, dr, k2, os⟩
    rw [sz]
    exact hQ x y g7 k2 _ _ px py (.inr ⟨_, rfl⟩) z7 ⟨x, y, up _ _ S.TOz r4⟩ (D1.frame _ _ _ v1 fun c hc u e => up c u (fun q => S.zf1 (q ▸ hc)) e) (D2.frame _ _ _ v2 fun c hc u e => up c u (fun q => S.zf2 (q ▸ hc)) e) nw
      fun c u q1 q2 q3 q4 e => up c u q1 (kk c u q1 q2 q3 q4 e)
  · -- it is still out: a pair beside it
    have e0 : Heap.SameBut z h0 g0 := e0
    simp only [Bool.false_eq_true, if_false]
    refine wpAny_bind ?_
    rw [← Array.forIn_toList]
    simp only [List.forIn_cons, List.forIn_nil]
    refine wpAny_bind (wpAny_bind (wpAny_holding ?_))
    change wpAny _ _ (Builtin.SmallTypes.nextOf (.ref i1) >>= _) _ _ _
    refine wpAny_bind (D1.item i ⟨g0, gn, dr, k0, os⟩ _ _ lt1 (D1.over t1 e0 S.zf1) fun x g1 k1 px u1 e1 => wpAny_pure (wpAny_pure (wpAny_bind (wpAny_bind (wpAny_holding ?_)))))
    have e1 : Heap.SameBut i1 g0 g1 := e1
    change wpAny _ _ (Builtin.SmallTypes.nextOf (.ref i2) >>= _) _ _ _
    refine wpAny_bind (D2.item i ⟨g1, gn, dr, k1, os⟩ _ _ lt2 (D2.over (D2.over t2 e0 S.zf2) e1 S.sep1_2) fun y g2 k2 py u2 e2 => wpAny_pure (wpAny_pure (wpAny_pure ?_)))
    have e2 : Heap.SameBut i2 g1 g2 := e2
    change wpAny _ _ (newTuple [x, y] >>= _) _ _ _
    refine wpAny_bind (wpAny_newTuple ?_)
    have sz : g2.objs.size = h0.objs.size := by rw [e2.1, e1.1, e0.1]
    have z2 : Zst g2 z p r o true := e2.extBut _ _ S.zi2 (e1.extBut _ _ S.zi1 hz0)
    have kk : ∀ c u, c ≠ z → c ≠ i1 → c ≠ i2 → h0.get? c = some u → g2.get? c = some u := fun c u q1 q3 q4 e => e2.extBut _ _ q4 (e1.extBut _ _ q3 (e0.extBut _ _ q1 e))
    have v1 : S1 (i + 1) g2 := D1.over u1 e2 S.sep2_1
    refine wpAny_pure ⟨_, rfl, ?_⟩
    have nw : IsPair (g2.push { cls := .type "tuple", data := .seq #[x, y] }) g2.objs.size x y := Heap.get?_push_size _ rfl
    change Q (.ref g2.objs.size) _
    rw [sz] at nw ⊢
    exact hQ x y _ k2 _ _ px py ho (Heap.get?_push_of_some _ z2) ⟨a, b, Heap.get?_push_of_some _ (kk _ _ S.TOz S.Ti1 S.Ti2 hr)⟩ (D1.frame _ _ _ v1 fun c hc u e => Heap.get?_push_of_some _ e) (D2.frame _ _ _ u2 fun c hc u e => Heap.get?_push_of_some _ e) nw
      fun c u q1 q2 q3 q4 e => Heap.get?_push_of_some _ (kk c u q1 q3 q4 e)
/-- one of them has ended -/
theorem zn_end {Q : Fin → Shared → Prop} (S : ZipSep2 z p r i1 i2 l1 l2) (D1 : Draws prog w A i1 l1 n1 P1 S1) (D2 : Draws prog w A i2 l2 n2 P2 S2) (ho : Out o) (hz : Zst s.heap z p r o f) (hp : IsPair s.heap p (.ref i1) (.ref i2)) (hr : ∃ a b, IsPair s.heap r a b)
    (t1 : S1 i s.heap) (t2 : S2 i s.heap) (le1 : i ≤ n1) (le2 : i ≤ n2) (hend : i = n1 ∨ i = n2)
    (hE : ∀ (g : Heap) (tk : Nat) (e : Addr), (∀ c u, c ≠ z → c ≠ r → c ≠ i1 → c ≠ i2 → s.heap.get? c = some u → g.get? c = some u) → (∃ u, g.get? e = some u ∧ u.cls = .type "StopIteration") → E (.ref e) { s with heap := g, toks := tk }) :
    wpAny (model prog w) A (Builtin.«zip.__next__» ⟨[.ref z], []⟩) Q E s := by
  obtain ⟨a, b, hr⟩ := hr
  obtain ⟨h0, gn, dr, k0, os⟩ := s
  change wpAny _ _ (field (.ref z) 2 >>= _) _ _ _
  refine wpAny_bind (wpAny_field hz rfl (x := Value.bool false) rfl ?_)
  change wpAny _ _ (field (.ref z) 3 >>= _) _ _ _
  refine wpAny_bind (wpAny_field hz rfl (x := Value.ref p) rfl (wpAny_bind (wpAny_seqItems hp rfl ?_)))
  change wpAny _ _ (Builtin.SmallTypes.ownedTupleIsFree (.ref z) >>= _) _ _ _
  refine wpAny_bind (zfree ho hz ?_ fun g0 hz0 e0 => ?_)
  · simp only [if_true]
    refine wpAny_bind (wpAny_rule (wpAny_bind (wpAny_field hz rfl (x := Value.ref r) rfl ?_)))
    refine wpAny_bind (wpAny_setField_rec hz (by simp) fun g0 hz0 e0 => ?_)
    have z0 : Zst g0 z p r .ellipsis f := hz0
    have e0 : Heap.SameBut z h0 g0 := e0
    refine wpAny_bind ?_
    simp only [List.zipIdx_cons, List.zipIdx_nil, List.forIn_cons, List.forIn_nil]
    refine wpAny_bind (wpAny_bind (wpAny_onRaise ?_))
    change wpAny _ _ (Builtin.SmallTypes.nextOf (.ref i1) >>= _) _ _ _
    by_cases lt1 : i < n1
    · refine wpAny_bind (D1.item i ⟨g0, gn, dr, k0, os⟩ _ _ lt1 (D1.over t1 e0 S.zf1) fun x g1 k1 px u1 e1 => wpAny_pure ?_)
      have e1 : Heap.SameBut i1 g0 g1 := e1
      have r1 : IsTupOf2 g1 r a b := e1.extBut _ _ S.Ti1 (e0.extBut _ _ S.TOz hr)
      refine wpAny_bind (wpAny_seqItems (s := ⟨g1, gn, dr, k1, os⟩) r1 rfl ?_)
      refine wpAny_bind (updateSeq_IsTupOf2 (s := ⟨g1, gn, dr, k1, os⟩) r1 fun g2 r2 e2 => ?_)
      have e2 : Heap.SameBut r g1 g2 := e2
      have i2n : i = n2 := by omega
      refine wpAny_bind (wpAny_letGo (wpAny_pure (wpAny_bind (wpAny_bind (wpAny_onRaise ?_)))))
      change wpAny _ _ (Builtin.SmallTypes.nextOf (.ref i2) >>= _) _ _ _
      refine wpAny_bind (D2.done ⟨g2, gn, dr, k1, os⟩ _ _ (by rw [← i2n]; exact D2.over (D2.over (D2.over t2 e0 S.zf2) e1 S.sep1_2) e2 S.Tf2) fun g3 e x3 he => ?_)
      have x3 : Heap.ExtBut i2 g2 g3 := x3
      obtain ⟨oe, q1, q2⟩ := he
      have q1 : g3.get? e = some oe := q1
      have z3 : Zst g3 z p r .ellipsis f := x3 _ _ S.zi2 (e2.extBut _ _ S.TOz.symm (e1.extBut _ _ S.zi1 z0))
      have ez : e ≠ z := fun q => by
        subst q
        rw [z3] at q1
        cases q1
        simp at q2
      refine wpAny_setField_rec (s := ⟨g3, gn, dr, k1, os⟩) z3 (by simp) fun g4 _ e4 => ?_
      have e4 : Heap.SameBut z g3 g4 := e4
      exact hE g4 k1 e (fun c u c1 c2 c3 c4 q => e4.extBut _ _ c1 (x3 _ _ c4 (e2.extBut _ _ c2 (e1.extBut _ _ c3 (e0.extBut _ _ c1 q))))) ⟨oe, e4.extBut _ _ ez q1, q2⟩
    · have i1n : i = n1 := by omega
      refine wpAny_bind (D1.done ⟨g0, gn, dr, k0, os⟩ _ _ (by rw [← i1n]; exact D1.over t1 e0 S.zf1) fun g3 e x3 he => ?_)
      have x3 : Heap.ExtBut i1 g0 g3 := x3
      obtain ⟨oe, q1, q2⟩ := he
      have q1 : g3.get? e = some oe := q1
      have z3 : Zst g3 z p r .ellipsis f := x3 _ _ S.zi1 z0
      have ez : e ≠ z := fun q => by
        subst q
        rw [z3] at q1
        cases q1
        simp at q2
      refine wpAny_setField_rec (s := ⟨g3, gn, dr, k0, os⟩) z3 (by simp) fun g4 _ e4 => ?_
      have e4 : Heap.SameBut z g3 g4 := e4
      exact hE g4 k0 e (fun c u c1 c2 c3 c4 q => e4.extBut _ _ c1 (x3 _ _ c3 (e0.extBut _ _ c1 q))) ⟨oe, e4.extBut _ _ ez q1, q2⟩
  · have e0 : Heap.SameBut z h0 g0 := e0
    simp only [Bool.false_eq_true, if_false]
    refine wpAny_bind ?_
    rw [← Array.forIn_toList]
    simp only [List.forIn_cons, List.forIn_nil]
    refine wpAny_bind (wpAny_bind (wpAny_holding ?_))
    change wpAny _ _ (Builtin.SmallTypes.nextOf (.ref i1) >>= _) _ _ _
    by_cases lt1 : i < n1
    · refine wpAny_bind (D1.item i ⟨g0, gn, dr, k0, os⟩ _ _ lt1 (D1.over t1 e0 S.zf1) fun x g1 k1 px u1 e1 => wpAny_pure (wpAny_pure (wpAny_bind (wpAny_bind (wpAny_holding ?_)))))
      have e1 : Heap.SameBut i1 g0 g1 := e1
      have i2n : i = n2 := by omega
      change wpAny _ _ (Builtin.SmallTypes.nextOf (.ref i2) >>= _) _ _ _
      refine wpAny_bind (D2.done ⟨g1, gn, dr, k1, os⟩ _ _ (by rw [← i2n]; exact D2.over (D2.over t2 e0 S.zf2) e1 S.sep1_2) fun g3 e x3 he => ?_)
      have x3 : Heap.ExtBut i2 g1 g3 := x3
      exact hE g3 k1 e (fun c u c1 c2 c3 c4 q => x3 _ _ c4 (e1.extBut _ _ c3 (e0.extBut _ _ c1 q))) he
    · have i1n : i = n1 := by omega
      refine wpAny_bind (D1.done ⟨g0, gn, dr, k0, os⟩ _ _ (by rw [← i1n]; exact D1.over t1 e0 S.zf1) fun g3 e x3 he => ?_)
      have x3 : Heap.ExtBut i1 g0 g3 := x3
      exact hE g3 k0 e (fun c u c1 c2 c3 c4 q => x3 _ _ c3 (e0.extBut _ _ c1 q)) he
theorem zpy_item {Q : Option Value → Shared → Prop} (S : ZipSep2 z p r i1 i2 l1 l2) (D1 : Draws prog w A.in1 i1 l1 n1 P1 S1) (D2 : Draws prog w A.in1 i2 l2 n2 P2 S2) (ho : Out o) (hz : Zst s.heap z p r o f) (hp : IsPair s.heap p (.ref i1) (.ref i2)) (hr : ∃ a b, IsPair s.heap r a b)
    (t1 : S1 i s.heap) (t2 : S2 i s.heap) (lt1 : i < n1) (lt2 : i < n2)
    (hQ : ∀ (x y : Value) (g : Heap) (tk : Nat) (o' : Value) (f' : Bool), P1 i x → P2 i y → Out o' → Zst g z p r o' f' → (∃ a b, IsPair g r a b) → S1 (i + 1) g → S2 (i + 1) g → IsPair g s.heap.objs.size x y →
      (∀ c u, c ≠ z → c ≠ r → c ≠ i1 → c ≠ i2 → s.heap.get? c = some u → g.get? c = some u) → Q (some (.ref s.heap.objs.size)) { s with heap := g, toks := tk }) :
    wpAny (model prog w) A (pyNext (.ref z)) Q E s := by
  have ty : s.TypeIs (.ref z) "zip" := ⟨_, hz, rfl⟩
  unfold pyNext
  refine wpAny_bind (wpAny_attempt (wpAny_callSpecial?_slot (name := Str.ofString "__next__") ty F.slot_zip_next (wpAny_call_entry F.slot_zip_next ty F.entry_zip_next ?_ (F.args_zip_next_1 _))))
  exact zn_item S D1 D2 ho hz hp hr t1 t2 lt1 lt2 fun x y g tk o' f' q1 q2 q3 q4 q5 q6 q7 q8 q9 => wpAny_pure (hQ x y g tk o' f' q1 q2 q3 q4 q5 q6 q7 q8 q9)
theorem zpy_end {Q : Option Value → Shared → Prop} (S : ZipSep2 z p r i1 i2 l1 l2) (D1 : Draws prog w A.in1 i1 l1 n1 P1 S1) (D2 : Draws prog w A.in1 i2 l2 n2 P2 S2) (ho : Out o) (hz : Zst s.heap z p r o f) (hp : IsPair s.heap p (.ref i1) (.ref i2)) (hr : ∃ a b, IsPair s.heap r a b)
    (t1 : S1 i s.heap) (t2 : S2 i s.heap) (le1 : i ≤ n1) (le2 : i ≤ n2) (hend : i = n1 ∨ i = n2)
    (hQ : ∀ (g : Heap) (tk : Nat), (∀ c u, c ≠ z → c ≠ r → c ≠ i1 → c ≠ i2 → s.heap.get? c = some u → g.get? c = some u) → Q none { s with heap := g, toks := tk }) :
    wpAny (model prog w) A (pyNext (.ref z)) Q E s := by
  have ty : s.TypeIs (.ref z) "zip" := ⟨_, hz, rfl⟩
  unfold pyNext
  refine wpAny_bind (wpAny_attempt (wpAny_callSpecial?_slot (name := Str.ofString "__next__") ty F.slot_zip_next (wpAny_call_entry F.slot_zip_next ty F.entry_zip_next ?_ (F.args_zip_next_1 _))))
  refine zn_end S D1 D2 ho hz hp hr t1 t2 le1 le2 hend fun g tk e kp he => ?_
  obtain ⟨oe, q1, q2⟩ := he
  exact wpAny_bind (wpAny_isInstance (T := "StopIteration") (b := true) ⟨oe, q1, q2⟩ isSubtype_stop (wpAny_pure (hQ g tk kp)))
end
end Mi
end

section
set_option maxRecDepth 100000
set_option maxHeartbeats 2000000
/-! MiZip2: zip with a plain name as target, as a source of turns. -/
namespace Mi
open PySem PySem.Spec PyProof.Rows L2
/-- lists or tuples -/
structure Kd where
  sq : PySem.W.Frag → Hp → Addr → List V → Prop
  it : Heap → Addr → Addr → Nat → Prop
  is : Heap → Addr → Array Value → Prop
structure KdOk (k : Kd) : Prop where
  inv : ∀ {X : Cx} {pins : List (Addr × Obj)} {σ : L2.St} {H : Hp} {s : Shared} {a : Addr} {xs : List V}, Inv X pins σ H s → k.sq X.K H a xs → ∃ its : List Value, Vals xs its ∧ k.is s.heap a its.toArray ∧ a < s.heap.objs.size
  dr : ∀ {prog : Program} {w : World} {A : Around}, A.handled = none → ∀ (i l : Addr), l ≠ i → ∀ items : Array Value, Draws prog w A i [i, l] items.size (fun j v => items[j]? = some v) (fun j h => k.it h i l j ∧ k.is h l items)
  ob : ∀ {h : Heap} {i l : Addr} {j : Nat}, k.it h i l j → ∃ o, h.get? i = some o ∧ ∀ v, o.data ≠ .cell v
  at_ : ∀ {h h' : Heap} {i l : Addr} {j : Nat}, k.it h i l j → (∀ o, h.get? i = some o → h'.get? i = some o) → k.it h' i l j
def kL : Kd := ⟨fun K H a xs => SqL K H a xs, fun h i l j => h.IsListIter i l j, fun h l its => h.IsList l its⟩
def kT : Kd := ⟨fun K H a xs => SqT K H a xs, fun h i l j => h.IsTupleIter i l j, fun h l its => h.IsTuple l its⟩
theorem kL_ok : KdOk kL where
  inv := fun I h => by
    obtain ⟨its, rv, q, _⟩ := I.list h
    exact ⟨its, rv, q.isList, q.lt⟩
  dr := fun hh i l hne items => Draws.list hh i l hne items
  ob := fun h => by
    obtain ⟨o, e, _, d⟩ := h
    exact ⟨o, e, fun v q => by rw [d] at q; cases q⟩
  at_ := fun h q => Heap.IsListIter.at h q
theorem kT_ok : KdOk kT where
  inv := fun I h => by
    obtain ⟨its, rv, q, _⟩ := I.tuple h
    obtain ⟨o, e, _⟩ := id q
    exact ⟨its, rv, q, Heap.lt_size e⟩
  dr := fun hh i l hne items => Draws.tuple hh i l hne items
  ob := fun h => by
    obtain ⟨o, e, _, d⟩ := h
    exact ⟨o, e, fun v q => by rw [d] at q; cases q⟩
  at_ := fun h q => Heap.IsTupleIter.at h q
/-- the pairs of xs and ys, each a new tuple -/
def Jz (k : Kd) (K : PySem.W.Frag) (a b : Addr) (xs ys : List V) : L2.It :=
  ⟨fun i H => k.sq K H a xs ∧ k.sq K H b ys ∧ i < xs.length ∧ i < ys.length,
    fun i H v H' => ∃ t x y, v = .ref t ∧ H t = none ∧ (∃ o : Obj, o.dict = none ∧ H' = upd H t (.frz o (.tup [x, y]))) ∧ xs[i]? = some x ∧ ys[i]? = some y,
    fun i H => k.sq K H a xs ∧ k.sq K H b ys ∧ (xs.length ≤ i ∨ ys.length ≤ i)⟩
theorem turnZ {k : Kd} (ok : KdOk k) {P : Program} {w : World} {K : PySem.W.Frag} {tg : Expr} {a b z p r i1 i2 : Addr} {xs ys : List V} (htg : isNm tg = true) (S : ZipSep2 z p r i1 i2 [i1, a] [i2, b]) (n1 : a ≠ i1) (n2 : b ≠ i2) :
    Turn P w K tg (Jz k K a b xs ys) [z, p, r, i1, i2] z (fun i h => i ≤ xs.length ∧ i ≤ ys.length ∧ (∃ o f, Out o ∧ Zst h z p r o f) ∧ IsPair h p (.ref i1) (.ref i2) ∧ (∃ x y, IsPair h r x y) ∧ k.it h i1 a i ∧ k.it h i2 b i) where
  mem := by simp
  obj := fun i h st c hc => by
    obtain ⟨_, _, ⟨o, f, _, hz⟩, hp, ⟨x, y, hr⟩, h1, h2⟩ := st
    have e' : c = z ∨ c = p ∨ c = r ∨ c = i1 ∨ c = i2 := by simpa using hc
    rcases e' with rfl | rfl | rfl | rfl | rfl
    · exact ⟨_, hz, fun v q => nomatch q⟩
    · exact ⟨_, hp, fun v q => nomatch q⟩
    · exact ⟨_, hr, fun v q => nomatch q⟩
    · exact ok.ob h1
    · exact ok.ob h2
  keep := fun i h h' st q => by
    obtain ⟨le1, le2, ⟨o, f, ho, hz⟩, hp, ⟨x, y, hr⟩, h1, h2⟩ := st
    exact ⟨le1, le2, ⟨o, f, ho, q z (by simp) _ hz⟩, q p (by simp) _ hp, ⟨x, y, q r (by simp) _ hr⟩, ok.at_ h1 fun o e => q i1 (by simp) o e, ok.at_ h2 fun o e => q i2 (by simp) o e⟩
  item := by
    intro X hP hw hK hc i pins s σ H E I hf st hg
    subst hP hw hK
    obtain ⟨le1, le2, ⟨o, f, ho, hz⟩, hp, hr, h1, h2⟩ := st
    obtain ⟨q1, q2, lt1, lt2⟩ := hg
    obtain ⟨its, rv, p1, la⟩ := ok.inv I q1
    obtain ⟨its2, rv2, p2, lb⟩ := ok.inv I q2
    have hh : X.A.in1.handled = none := I.ok.hd hc
    have d1 := ok.dr (prog := X.prog) (w := X.w) hh i1 a n1 its.toArray
    have d2 := ok.dr (prog := X.prog) (w := X.w) hh i2 b n2 its2.toArray
    have hx : xs[i]? = some xs[i] := List.getElem?_eq_getElem lt1
    have hy : ys[i]? = some ys[i] := List.getElem?_eq_getElem lt2
    obtain ⟨u, hu, ru⟩ := rv.get hx
    obtain ⟨u2, hu2, ru2⟩ := rv2.get hy
    have m1 : i < its.toArray.size := by simpa using (List.getElem?_eq_some_iff.mp hu).1
    have m2 : i < its2.toArray.size := by simpa using (List.getElem?_eq_some_iff.mp hu2).1
    refine zpy_item S d1 d2 ho hz hp hr ⟨h1, p1⟩ ⟨h2, p2⟩ m1 m2 fun x y g tk o' f' e1 e2 ho' hz' hr' s1 s2 nw kp => ?_
    have e1 : u = x := by
      have : its[i]? = some x := by simpa using e1
      rw [hu] at this
      exact Option.some.inj this
    have e2 : u2 = y := by
      have : its2[i]? = some y := by simpa using e2
      rw [hu2] at this
      exact Option.some.inj this
    subst e1
    subst e2
    have go : ∀ (Q : Unit → Shared → Prop) (s1 : Shared), Q () s1 → wpAny (model X.prog X.w) X.A (letOwnedTupleGo tg (.ref z) (.ref s.heap.objs.size)) Q E s1 := by
      intro Q s1 q
      cases tg <;> first | exact wpAny_pure q | (simp [isNm] at htg)
    have zl : z < s.heap.objs.size := Heap.lt_size hz
    refine ⟨_, rfl, go _ _ ?_⟩
    have new : ObjOk X.prog X.w (upd H s.heap.objs.size (.frz { cls := .type "tuple", data := .seq #[u, u2] } (.tup [xs[i], ys[i]]))) g s.heap.objs.size (.frz { cls := .type "tuple", data := .seq #[u, u2] } (.tup [xs[i], ys[i]])) :=
      ⟨nw, by show 2 ≤ sizeLine; decide, [u, u2], .cons ru (.cons ru2 .nil), ⟨_, nw, rfl, _, rfl⟩⟩
    have I1 : Inv X pins σ (upd H s.heap.objs.size (.frz { cls := .type "tuple", data := .seq #[u, u2] } (.tup [xs[i], ys[i]]))) { s with heap := g, toks := tk } :=
      I.turnedNew (t' := tk) (ch := [z, p, r, i1, i2]) (fun c o hb q => kp c o (fun e => hb (by simp [e])) (fun e => hb (by simp [e])) (fun e => hb (by simp [e])) (fun e => hb (by simp [e])) q) hf (Nat.le_refl _) new
    have fr : ∀ c ∈ [z, p, r, i1, i2], c < s.heap.objs.size := fun c hc => by
      have e' : c = z ∨ c = p ∨ c = r ∨ c = i1 ∨ c = i2 := by simpa using hc
      rcases e' with rfl | rfl | rfl | rfl | rfl
      · exact zl
      · exact Heap.lt_size hp
      · obtain ⟨x, y, hr⟩ := hr; exact Heap.lt_size hr
      · obtain ⟨o, e, _⟩ := ok.ob h1; exact Heap.lt_size e
      · obtain ⟨o, e, _⟩ := ok.ob h2; exact Heap.lt_size e
    refine ⟨.ref s.heap.objs.size, _, I1, rfl, ⟨_, xs[i], ys[i], rfl, I.hok.fresh (Nat.le_refl _), ⟨_, rfl, rfl⟩, hx, hy⟩, ⟨lt1, lt2, ⟨o', f', ho', hz'⟩, ?_, hr', s1.1, s2.1⟩, fun c hc => ?_⟩
    · exact kp _ _ S.TIz S.TITO S.TIi1 S.TIi2 hp
    · rw [upd_ne (Nat.ne_of_lt (fr c hc))]
      exact (hf c hc).1
  done := by
    intro X hP hw hK hc i pins s σ H E I hf st hg
    subst hP hw hK
    obtain ⟨le1, le2, ⟨o, f, ho, hz⟩, hp, hr, h1, h2⟩ := st
    obtain ⟨q1, q2, hend⟩ := hg
    obtain ⟨its, rv, p1, la⟩ := ok.inv I q1
    obtain ⟨its2, rv2, p2, lb⟩ := ok.inv I q2
    have hh : X.A.in1.handled = none := I.ok.hd hc
    have d1 := ok.dr (prog := X.prog) (w := X.w) hh i1 a n1 its.toArray
    have d2 := ok.dr (prog := X.prog) (w := X.w) hh i2 b n2 its2.toArray
    have m1 : its.toArray.size = xs.length := by simpa using rv.length.symm
    have m2 : its2.toArray.size = ys.length := by simpa using rv2.length.symm
    exact zpy_end S d1 d2 ho hz hp hr ⟨h1, p1⟩ ⟨h2, p2⟩ (by omega) (by omega) (by omega) fun g tk kp => ⟨rfl, I.turnedL (t' := tk) (ch := [z, p, r, i1, i2]) (fun c o hb q =>
      kp c o (fun e => hb (by simp [e])) (fun e => hb (by simp [e])) (fun e => hb (by simp [e])) (fun e => hb (by simp [e])) q) hf⟩
  self := fun A i s Q E st h => by
    obtain ⟨_, _, ⟨o, f, _, hz⟩, _⟩ := st
    have ty : s.TypeIs (.ref z) "zip" := ⟨_, hz, rfl⟩
    refine wpAny_pyIter_slot ty F.slot_zip_iter (wpAny_call_entry F.slot_zip_iter ty F.entry_zip_iter ?_ (F.args_zip_iter_1 _))
    change wpAny _ _ (ret (.ref z)) _ _ _
    exact wpAny_pure ⟨_, rfl, "zip", _, ty, F.slot_zip_next.lookup, h⟩
def iZipN (K : PySem.W.Frag) (ta : TA) : TI := fun σ H R => ta σ H fun vs H1 => ∃ a b xs ys, vs = [.ref a, .ref b] ∧ ((SqL K H1 a xs ∧ SqL K H1 b ys ∧ R (Jz kL K a b xs ys) H1) ∨ (SqT K H1 a xs ∧ SqT K H1 b ys ∧ R (Jz kT K a b xs ys) H1))
theorem pi_zipN {X : Cx} {tg e e2 : Expr} {ta : TA} {p pos : Pos} (htg : isNm tg = true) (hg : Gl X "zip") (hm : X.mg "zip" = none) (ha : PA X [e, e2] ta)
    (hs : starEach [e, e2] X.env = (false, eval e X.env) :: starEach [e2] X.env) (hpl : (backTo pos (starEach [e2] X.env)).any (·.1) = false) : PI X tg (.Call (.Name "zip" p) [e, e2] [] pos) (iZipN X.K ta) := by
  refine ⟨fun pins s σ H R I h => ?_⟩
  refine Call_ (ld_blt I hg hm boot_zip (callWith_type1 (thn (ha.run pos pins s σ H _ I h) fun us s1 ⟨vs, H1, I1, r1, q1⟩ => ?_) hs hpl))
  obtain ⟨a, b, xs, ys, ex, q1⟩ := q1
  subst ex
  cases r1 with
  | cons ra rr =>
    cases rr with
    | cons rb rr =>
      cases rr
      cases ra
      cases rb
      generalize hN : s1.heap.objs.size = N
      have fresh : ∀ c, c ∈ [N + 4, N + 2, N + 3, N, N + 1] → FpOk X pins H1 c := fun c hc => by
        have le : s1.heap.objs.size ≤ c := by
          rw [hN]
          have e' : c = N + 4 ∨ c = N + 2 ∨ c = N + 3 ∨ c = N ∨ c = N + 1 := by simpa using hc
          rcases e' with e' | e' | e' | e' | e' <;> (rw [e']; first | exact Nat.le_add_right _ _ | exact Nat.le_refl _)
        exact I1.fpOk le (I1.hok.fresh le)
      have sep : ∀ {a b : Addr}, a < N → b < N → ZipSep2 (N + 4) (N + 2) (N + 3) N (N + 1) [N, a] [N + 1, b] := fun ha hb => zip_sep2 (fun c hc => by cases List.mem_singleton.mp hc; exact ha) (fun c hc => by cases List.mem_singleton.mp hc; exact hb)
      rcases q1 with ⟨qx, qy, q⟩ | ⟨qx, qy, q⟩
      · obtain ⟨its, rv, p1, _⟩ := I1.list qx
        obtain ⟨its2, rv2, p2, _⟩ := I1.list qy
        refine call_zip_2 p1.isList p2.isList fun g hz hp hr h1 h2 hsz kp => wpAny_pyIter_zip hz ?_
        have I2 : Inv X pins σ H1 { s1 with heap := g } := I1.kept (t' := s1.toks) kp
        have la : a < N := hN ▸ p1.lt
        have lb : b < N := hN ▸ p2.lt
        rw [hN] at hz hp hr h1 h2
        rw [hN]
        exact ⟨N + 4, [N + 4, N + 2, N + 3, N, N + 1], _, _, H1, rfl, I2, turnZ kL_ok htg (sep la lb) (Nat.ne_of_lt la) (Nat.ne_of_lt (Nat.lt_succ_of_lt lb)), ⟨Nat.zero_le _, Nat.zero_le _, ⟨_, _, .inl rfl, hz⟩, hp, ⟨_, _, hr⟩, h1, h2⟩, fresh, q⟩
      · obtain ⟨its, rv, p1, _⟩ := I1.tuple qx
        obtain ⟨its2, rv2, p2, _⟩ := I1.tuple qy
        obtain ⟨o1, w1, _⟩ := id p1
        obtain ⟨o2, w2, _⟩ := id p2
        refine RZ.call_zipT (show s1.heap.IsTuple a its.toArray from p1) (show s1.heap.IsTuple b its2.toArray from p2) fun g hz hp hr h1 h2 hsz kp => wpAny_pyIter_zip hz ?_
        have I2 : Inv X pins σ H1 { s1 with heap := g } := I1.kept (t' := s1.toks) kp
        have la : a < N := hN ▸ Heap.lt_size w1
        have lb : b < N := hN ▸ Heap.lt_size w2
        rw [hN] at hz hp hr h1 h2
        rw [hN]
        exact ⟨N + 4, [N + 4, N + 2, N + 3, N, N + 1], _, _, H1, rfl, I2, turnZ kT_ok htg (sep la lb) (Nat.ne_of_lt la) (Nat.ne_of_lt (Nat.lt_succ_of_lt lb)), ⟨Nat.zero_le _, Nat.zero_le _, ⟨_, _, .inl rfl, hz⟩, hp, ⟨_, _, hr⟩, h1, h2⟩, fresh, q⟩
end Mi
end

section
set_option maxRecDepth 100000
/-! MiSnd5: ranges, enumerate, zip; targets; comprehensions. -/
namespace Mi
open PySem PySem.Spec PyProof.Rows L2
section
variable {T : Tb} {cx : Ctx} {W : WX} {k : Nat} {c : Cc} {X : Cx} {a b tg : Expr} {a' b' : E} {p pos : Pos}
theorem int_of {Z μ : List Addr} {s : Sto} {H : Hp} {u : V} {i : Int} (h : XvOk T.K Z μ s H u (.v (.int i))) : u = .int i := by
  have h : Rv T.K H (Bz μ s Z) u (.int i) := h
  cases h
  rfl
theorem pi_range1X (G : Good T cx W k c X) (hb : cBlt c "range" = true) (hn : noStar a = true) (ha : PE X a (tE T cx W a')) : PI X tg (.Call (.Name "range" p) [a] [] pos) (tI T cx W (.range1 a')) := by
  obtain ⟨h1, h2, h3, h4⟩ := cBlt_of G hb
  refine ⟨fun pins s σ H R I q => (pi_range1 h1 h2 (pa_cons ha pa_nil (star_no hn)) (star_no hn)).run pins s σ H R I ?_⟩
  obtain ⟨Z, μ, t, ρ, st, rh, po⟩ := q
  unfold evi at po
  refine ⟨Z, μ, t, ρ, st, rh, po.bind fun x t1 μ1 H1 u e1 nx1 st1 xo po1 => ?_⟩
  split at po1
  · split at po1
    · rename_i j hj
      have e := int_of xo
      subst e
      exact ⟨_, rfl, by omega, by omega, po1 μ1 H1 _ (Nx.refl _ _ _) st1 (src_rng 0 _)⟩
    · exact absurd po1 fun z => z
  · exact absurd po1 fun z => z
theorem pi_range2X (G : Good T cx W k c X) (hb : cBlt c "range" = true) (hn : noStar a = true) (hn2 : noStar b = true) (ha : PE X a (tE T cx W a')) (hb' : PE X b (tE T cx W b')) : PI X tg (.Call (.Name "range" p) [a, b] [] pos) (tI T cx W (.range2 a' b')) := by
  obtain ⟨h1, h2, h3, h4⟩ := cBlt_of G hb
  have es : starEach [a, b] X.env = [(false, eval a X.env), (false, eval b X.env)] := by rw [star_no hn, star_no hn2]; rfl
  refine ⟨fun pins s σ H R I q => (pi_range2 h1 h2 (pa_cons ha (pa_cons hb' pa_nil (star_no hn2)) (star_no hn)) es (star_no hn2)).run pins s σ H R I ?_⟩
  obtain ⟨Z, μ, t, ρ, st, rh, po⟩ := q
  unfold evi at po
  refine ⟨Z, μ, t, ρ, st, rh, po.bind fun x t1 μ1 H1 u e1 nx1 st1 xo po1 => ?_⟩
  refine ⟨Z, μ1, t1, ρ, st1, rh.nx nx1, po1.bind fun y t2 μ2 H2 w e2 nx2 st2 yo po2 => ?_⟩
  split at po2
  · split at po2
    · rename_i i j hj
      have e := int_of xo
      have e' := int_of yo
      subst e e'
      exact ⟨_, _, rfl, by omega, po2 μ2 H2 _ (Nx.refl _ _ _) st2 (src_rng _ _)⟩
    · exact absurd po2 fun z => z
  · exact absurd po2 fun z => z
variable {elts : List Expr} {kk : Nat} {tpos : Pos}
theorem pi_enumX (G : Good T cx W k c X) (hb : cBlt c "enumerate" = true) (hn : noStar a = true) (ha : PE X a (tE T cx W a')) : PI X (.Tuple elts kk tpos) (.Call (.Name "enumerate" p) [a] [] pos) (tI T cx W (.enum a')) := by
  obtain ⟨h1, h2, h3, h4⟩ := cBlt_of G hb
  refine ⟨fun pins s σ H R I q => (pi_enum h1 h2 (pa_cons ha pa_nil (star_no hn)) (star_no hn)).run pins s σ H R I ?_⟩
  obtain ⟨Z, μ, t, ρ, st, rh, po⟩ := q
  unfold evi at po
  refine ⟨Z, μ, t, ρ, st, rh, po.bind fun x t1 μ1 H1 u e1 nx1 st1 xo po1 => ?_⟩
  split at po1
  · rename_i xs
    obtain ⟨l, eu, hs⟩ := xv_src (X := X) xo (.inr ⟨xs, rfl⟩)
    subst eu
    obtain ⟨vs, ds, _, hq, _⟩ := hs (i := 0) ((Nx.refl _ _ _).nz _) (fun a h => .inl h) st1 (o := xs[0]?) rfl
    refine ⟨l, vs, rfl, hq, po1 μ1 H1 _ (Nx.refl _ _ _) st1 (src_enum fun i μ s H Z' nx z st o e => ?_)⟩
    have e2 : (enumL 0 xs)[i]? = o := Option.some.inj e
    obtain ⟨vs2, ds2, e3, hq2, r2⟩ := hs (i := i) nx z st (o := xs[i]?) rfl
    refine ⟨vs2, ds2, ?_, hq2, r2⟩
    rw [← e2, enumL_get, e3]
    congr 1
    funext d
    rw [Int.zero_add]
  · rename_i n
    split at po1
    · rename_i hcs
      obtain ⟨o, eo⟩ := Option.isSome_iff_exists.mp hcs
      obtain ⟨l, eu, hs⟩ := xv_src (X := X) xo (.inl ⟨n, rfl⟩)
      subst eu
      obtain ⟨vs, ds, _, hq, _⟩ := hs (i := 0) ((Nx.refl _ _ _).nz _) (fun a h => .inl h) st1 (o := o) eo
      refine ⟨l, vs, rfl, hq, po1 μ1 H1 _ (Nx.refl _ _ _) st1 (src_enum fun i μ s H Z' nx z st o e => ?_)⟩
      have e2 : (cellAt n s i).map (fun o => o.map fun d => PyData.tuple [.int i, d]) = some o := e
      cases ec : cellAt n s i with
      | none => rw [ec] at e2; cases e2
      | some o1 =>
        rw [ec] at e2
        have e2 : o1.map (fun d => PyData.tuple [.int i, d]) = o := Option.some.inj e2
        obtain ⟨vs2, ds2, e3, hq2, r2⟩ := hs (i := i) nx z st (o := o1) ec
        exact ⟨vs2, ds2, by rw [← e2, e3], hq2, r2⟩
    · exact absurd po1 fun z => z
  · exact absurd po1 fun z => z
theorem zip_two {Z μ0 : List Addr} {s0 : Sto} {H0 : Hp} {x y : Xv} {u w : V} (xo : XvOk T.K Z μ0 s0 H0 u x) (yo : XvOk T.K Z μ0 s0 H0 w y) (st0 : StOk T.K Z μ0 s0 H0) (hx : (∃ n, x = .c n) ∨ ∃ xs, x = .v (.list xs)) (hy : (∃ n, y = .c n) ∨ ∃ xs, y = .v (.list xs))
    (sx : (xvAt x s0 0).isSome = true) (sy : (xvAt y s0 0).isSome = true) {src : Src} (hsrc : ∀ s i, srcAt src s i = zipAt x y s i ∨ ∃ xs ys, x = .v (.list xs) ∧ y = .v (.list ys) ∧ srcAt src s i = some (zipL xs ys)[i]?) :
    ∃ l m vs ws, u = .ref l ∧ w = .ref m ∧ SqL X.K H0 l vs ∧ SqL X.K H0 m ws ∧ SrcOk true T Z μ0 s0 H0 (Itz X.K l m) src := by
  obtain ⟨l, eu, hs⟩ := xv_src (X := X) xo hx
  obtain ⟨m, ew, hs2⟩ := xv_src (X := X) yo hy
  obtain ⟨o1, eo1⟩ := Option.isSome_iff_exists.mp sx
  obtain ⟨o2, eo2⟩ := Option.isSome_iff_exists.mp sy
  obtain ⟨vs, ds, _, hq, _⟩ := hs (i := 0) ((Nx.refl _ _ _).nz _) (fun a h => .inl h) st0 eo1
  obtain ⟨ws, es, _, hq2, _⟩ := hs2 (i := 0) ((Nx.refl _ _ _).nz _) (fun a h => .inl h) st0 eo2
  refine ⟨l, m, vs, ws, eu, ew, hq, hq2, src_zip fun i μ s H Z' nx z st o e => ?_⟩
  rcases hsrc s i with h | ⟨xs, ys, rfl, rfl, h⟩
  · rw [h] at e
    unfold zipAt at e
    cases ex : xvAt x s i with
    | none => rw [ex] at e; cases e
    | some ox =>
      cases ey : xvAt y s i with
      | none =>
        rw [ex, ey] at e
        cases ox <;> cases e
      | some oy =>
        obtain ⟨vs2, ds2, e3, q3, r3⟩ := hs nx z st ex
        obtain ⟨ws2, es2, e4, q4, r4⟩ := hs2 nx z st ey
        refine ⟨vs2, ds2, ws2, es2, ?_, q3, r3, q4, r4⟩
        rw [ex, ey] at e
        rw [← e3, ← e4]
        cases ox <;> cases oy <;> (cases Option.some.inj e; rfl)
  · rw [h] at e
    have e : (zipL xs ys)[i]? = o := Option.some.inj e
    obtain ⟨vs2, ds2, e3, q3, r3⟩ := hs (i := i) nx z st (o := xs[i]?) rfl
    obtain ⟨ws2, es2, e4, q4, r4⟩ := hs2 (i := i) nx z st (o := ys[i]?) rfl
    refine ⟨vs2, ds2, ws2, es2, ?_, q3, r3, q4, r4⟩
    rw [← e, zipL_get, e3, e4]
theorem pi_zipX (G : Good T cx W k c X) (hb : cBlt c "zip" = true) (hn : noStar a = true) (hn2 : noStar b = true) (ha : PE X a (tE T cx W a')) (hb' : PE X b (tE T cx W b')) : PI X (.Tuple elts kk tpos) (.Call (.Name "zip" p) [a, b] [] pos) (tI T cx W (.zip a' b')) := by
  obtain ⟨h1, h2, h3, h4⟩ := cBlt_of G hb
  have hpl : (backTo pos (starEach [b] X.env)).any (·.1) = false := by rw [star_no hn2]; rfl
  refine ⟨fun pins s σ H R I q => (RZ.pi_zipA h1 h2 (pa_cons ha (pa_cons hb' pa_nil (star_no hn2)) (star_no hn)) (star_no hn) hpl).run pins s σ H R I ?_⟩
  obtain ⟨Z, μ, t, ρ, st, rh, po⟩ := q
  unfold evi at po
  refine ⟨Z, μ, t, ρ, st, rh, po.bind fun x t1 μ1 H1 u e1 nx1 st1 xo po1 => ?_⟩
  refine ⟨Z, μ1, t1, ρ, st1, rh.nx nx1, po1.bind fun y t2 μ2 H2 w e2 nx2 st2 yo po2 => ?_⟩
  have xo2 := XvOk.nx nx2 xo
  unfold zipX at po2
  split at po2
  · rename_i xs ys
    obtain ⟨l, m, vs, ws, rfl, rfl, q1, q2, sr⟩ := zip_two (X := X) (src := .stat (zipL xs ys)) xo2 yo st2 (.inr ⟨xs, rfl⟩) (.inr ⟨ys, rfl⟩) rfl rfl fun s i => .inr ⟨xs, ys, rfl, rfl, rfl⟩
    exact ⟨l, m, vs, ws, rfl, .inl ⟨q1, q2, po2 μ2 H2 _ (Nx.refl _ _ _) st2 sr⟩⟩
  · rename_i xs ys
    obtain ⟨l, vs, rfl, tp, r⟩ := Rv.tp (show Rv T.K H2 (Bz μ2 t2 Z) u (.tuple xs) from xo2)
    obtain ⟨m, ws, rfl, tp2, r2⟩ := Rv.tp (show Rv T.K H2 (Bz μ2 t2 Z) w (.tuple ys) from yo)
    rw [G.K] at tp tp2
    exact ⟨l, m, vs, ws, rfl, .inr ⟨tp.sq, tp2.sq, po2 μ2 H2 _ (Nx.refl _ _ _) st2 (src_zipT tp r tp2 r2)⟩⟩
  · rename_i xs n
    split at po2
    · rename_i hc
      obtain ⟨l, m, vs, ws, rfl, rfl, q1, q2, sr⟩ := zip_two (X := X) (src := .zip (.v (.list xs)) (.c n)) xo2 yo st2 (.inr ⟨xs, rfl⟩) (.inl ⟨n, rfl⟩) rfl hc fun s i => .inl rfl
      exact ⟨l, m, vs, ws, rfl, .inl ⟨q1, q2, po2 μ2 H2 _ (Nx.refl _ _ _) st2 sr⟩⟩
    · exact absurd po2 fun z => z
  · rename_i n ys
    split at po2
    · rename_i hc
      obtain ⟨l, m, vs, ws, rfl, rfl, q1, q2, sr⟩ := zip_two (X := X) (src := .zip (.c n) (.v (.list ys))) xo2 yo st2 (.inl ⟨n, rfl⟩) (.inr ⟨ys, rfl⟩) hc rfl fun s i => .inl rfl
      exact ⟨l, m, vs, ws, rfl, .inl ⟨q1, q2, po2 μ2 H2 _ (Nx.refl _ _ _) st2 sr⟩⟩
    · exact absurd po2 fun z => z
  · rename_i n m'
    split at po2
    · rename_i hc
      rw [Bool.and_eq_true] at hc
      obtain ⟨l, m, vs, ws, rfl, rfl, q1, q2, sr⟩ := zip_two (X := X) (src := .zip (.c n) (.c m')) xo2 yo st2 (.inl ⟨n, rfl⟩) (.inl ⟨m', rfl⟩) hc.1 hc.2 fun s i => .inl rfl
      exact ⟨l, m, vs, ws, rfl, .inl ⟨q1, q2, po2 μ2 H2 _ (Nx.refl _ _ _) st2 sr⟩⟩
    · exact absurd po2 fun z => z
  · exact absurd po2 fun z => z
/-- the pairs of two lists, of two tuples, kept -/
theorem src_zipN {kd : Kd} {a b : Addr} {ds es : List PyData} {vs ws : List V} (hs : ∀ {H : Hp} {B : Addr → Prop}, Mv H0 H (Bz μ0 s0 Z) B → kd.sq X.K H a vs ∧ kd.sq X.K H b ws) (r : RvAll T.K H0 (Bz μ0 s0 Z) vs ds) (r2 : RvAll T.K H0 (Bz μ0 s0 Z) ws es) :
    SrcOk false T Z μ0 s0 H0 (Jz kd X.K a b vs ws) (.stat (zipL ds es)) := by
  intro i μ s H Z' nx z st
  have m := nx.mvZ z
  obtain ⟨k1, k2⟩ := hs m
  have g := zipL_get ds es i
  refine ⟨fun e => ?_, fun d e => ?_⟩
  · have e1 : (zipL ds es)[i]? = none := Option.some.inj e
    rw [g] at e1
    refine ⟨k1, k2, ?_⟩
    rw [r.length, r2.length]
    cases q : ds[i]? with
    | none => exact .inl (List.getElem?_eq_none_iff.mp q)
    | some d =>
      cases q2 : es[i]? with
      | none => exact .inr (List.getElem?_eq_none_iff.mp q2)
      | some d2 => rw [q, q2] at e1; cases e1
  · have e1 : (zipL ds es)[i]? = some d := Option.some.inj e
    rw [g] at e1
    cases q : ds[i]? with
    | none => rw [q] at e1; cases e1
    | some d1 =>
      cases q2 : es[i]? with
      | none => rw [q, q2] at e1; cases e1
      | some d2 =>
        rw [q, q2] at e1
        cases Option.some.inj e1
        obtain ⟨v, ev, rv⟩ := (r.mv m).get q
        obtain ⟨w, ew, rw_⟩ := (r2.mv m).get q2
        refine ⟨⟨k1, k2, (List.getElem?_eq_some_iff.mp ev).1, (List.getElem?_eq_some_iff.mp ew).1⟩, fun x H' hy => ?_⟩
        obtain ⟨Tp, x1, x2, rfl, nT, ⟨ob, hob, rfl⟩, t1, t2⟩ := hy
        rw [ev] at t1
        rw [ew] at t2
        cases Option.some.inj t1
        cases Option.some.inj t2
        exact ⟨Nx.new nT, st.new nT, .inl (Rv.newT hob st nT (.cons rv (.cons rw_ .nil)))⟩
theorem pi_zipNX (G : Good T cx W k c X) (htg : isNm tg = true) (hb : cBlt c "zip" = true) (hn : noStar a = true) (hn2 : noStar b = true) (ha : PE X a (tE T cx W a')) (hb' : PE X b (tE T cx W b')) : PI X tg (.Call (.Name "zip" p) [a, b] [] pos) (tI T cx W (.zipN a' b')) := by
  obtain ⟨h1, h2, h3, h4⟩ := cBlt_of G hb
  have hpl : (backTo pos (starEach [b] X.env)).any (·.1) = false := by rw [star_no hn2]; rfl
  refine ⟨fun pins s σ H R I q => (pi_zipN htg h1 h2 (pa_cons ha (pa_cons hb' pa_nil (star_no hn2)) (star_no hn)) (star_no hn) hpl).run pins s σ H R I ?_⟩
  obtain ⟨Z, μ, t, ρ, st, rh, po⟩ := q
  unfold evi at po
  refine ⟨Z, μ, t, ρ, st, rh, po.bind fun x t1 μ1 H1 u e1 nx1 st1 xo po1 => ?_⟩
  refine ⟨Z, μ1, t1, ρ, st1, rh.nx nx1, po1.bind fun y t2 μ2 H2 w e2 nx2 st2 yo po2 => ?_⟩
  have xo2 := XvOk.nx nx2 xo
  unfold zipNX at po2
  split at po2
  · rename_i xs ys
    cases (show Rv T.K H2 (Bz μ2 t2 Z) u (.list xs) from xo2) with
    | lst q1 b1 r1 =>
      cases (show Rv T.K H2 (Bz μ2 t2 Z) w (.list ys) from yo) with
      | lst q2 b2 r2 =>
        exact ⟨_, _, _, _, rfl, .inl ⟨.inl (.inl q1), .inl (.inl q2), po2 μ2 H2 _ (Nx.refl _ _ _) st2 (src_zipN (kd := kL) (fun m => ⟨.inl (.inl (m.keep _ _ q1 b1)), .inl (.inl (m.keep _ _ q2 b2))⟩) r1 r2)⟩⟩
  · rename_i xs ys
    obtain ⟨l, vs, rfl, tp, r⟩ := Rv.tp (show Rv T.K H2 (Bz μ2 t2 Z) u (.tuple xs) from xo2)
    obtain ⟨m, ws, rfl, tp2, r2⟩ := Rv.tp (show Rv T.K H2 (Bz μ2 t2 Z) w (.tuple ys) from yo)
    rw [G.K] at tp tp2
    exact ⟨l, m, vs, ws, rfl, .inr ⟨tp.sq, tp2.sq, po2 μ2 H2 _ (Nx.refl _ _ _) st2 (src_zipN (kd := kT) (fun m => ⟨(tp.mv m).sq, (tp2.mv m).sq⟩) r r2)⟩⟩
  · exact absurd po2 fun z => z
/-- the walked expression -/
theorem attr_base {X : Cx} {e : Expr} {m : Str} (h : plainBase e = true) : attributeBase e m X.env (eval e X.env) = eval e X.env := by
  cases e with
  | Name x p => rfl
  | Subscript a b p => rfl
  | Call f es kws p =>
    cases es with
    | nil => cases h
    | cons a r => cases f <;> rfl
  | _ => cases h
theorem pi_valsX (G : Good T cx W k c X) {e : Expr} {e' : E} {apos cpos : Pos} (hb : plainBase e = true) (hline : (apos.endLine == cpos.line) = true) (he : PE X e (tE T cx W e')) : PI X tg (.Call (.Attribute e "values" apos) [] [] cpos) (tI T cx W (.vals e')) := by
  have h := pi_values (tg := tg) he (attr_base hb) hline
  refine ⟨fun pins s σ H R I q => h.run pins s σ H R I ?_⟩
  obtain ⟨Z, μ, t, ρ, st, rh, po⟩ := q
  unfold evi at po
  refine ⟨Z, μ, t, ρ, st, rh, po.bind fun x s1 μ1 H1 u e1 nx1 st1 xo po1 => ?_⟩
  split at po1
  · split at po1
    · exact absurd po1 fun z => z
    · rename_i kvs hk
      have xo : Rv T.K H1 (Bz μ1 s1 Z) u (.dict kvs) := xo
      cases xo with
      | dK e n rr =>
        obtain ⟨o, e⟩ := e
        exact ⟨_, o, _, rfl, e, po1 μ1 H1 _ (Nx.refl _ _ _) st1 (src_vals e n rr)⟩
  · exact absurd po1 fun z => z
theorem pi_itemsX (G : Good T cx W k c X) {e : Expr} {e' : E} {apos cpos : Pos} (hb : plainBase e = true) (hline : (apos.endLine == cpos.line) = true) (he : PE X e (tE T cx W e')) : PI X (.Tuple elts kk tpos) (.Call (.Attribute e "items" apos) [] [] cpos) (tI T cx W (.items e')) := by
  have h := pi_items (elts := elts) (kk := kk) (tpos := tpos) he (attr_base hb) hline
  refine ⟨fun pins s σ H R I q => h.run pins s σ H R I ?_⟩
  obtain ⟨Z, μ, t, ρ, st, rh, po⟩ := q
  unfold evi at po
  refine ⟨Z, μ, t, ρ, st, rh, po.bind fun x s1 μ1 H1 u e1 nx1 st1 xo po1 => ?_⟩
  split at po1
  · split at po1
    · exact absurd po1 fun z => z
    · rename_i kvs hk
      have xo : Rv T.K H1 (Bz μ1 s1 Z) u (.dict kvs) := xo
      cases xo with
      | dK e n rr =>
        obtain ⟨o, e⟩ := e
        exact ⟨_, o, _, rfl, e, po1 μ1 H1 _ (Nx.refl _ _ _) st1 (src_items e n rr)⟩
  · exact absurd po1 fun z => z
theorem pi_X (G : Good T cx W k c X) {f : Expr → Option E} (hf : ∀ e e', f e = some e' → PE X e (tE T cx W e')) {it : Expr} {it' : It} (h : cIt c f tg it = some it') : PI X tg it (tI T cx W it') := by
  have sq : ∀ {e : Expr} {o : It}, (f e).map It.seq = some o → PI X tg e (tI T cx W o) := fun {e o} q => by
    cases h1 : f e with
    | none => rw [h1] at q; cases q
    | some e' =>
      rw [h1] at q
      cases Option.some.inj q
      exact pi_seqX G (hf e e' h1)
  unfold cIt at h
  split at h
  · rename_i x p a pos
    split at h
    · rename_i hc
      rw [Bool.and_eq_true, Bool.and_eq_true, decide_eq_true_eq] at hc
      obtain ⟨⟨c1, c2⟩, c3⟩ := hc
      subst c2
      cases h1 : f a with
      | none => rw [h1] at h; cases h
      | some a' =>
        rw [h1] at h
        cases Option.some.inj h
        exact pi_range1X G c1 c3 (hf a a' h1)
    · split at h
      · rename_i hc
        rw [Bool.and_eq_true, Bool.and_eq_true, Bool.and_eq_true, decide_eq_true_eq] at hc
        obtain ⟨⟨⟨c1, c2⟩, c3⟩, c4⟩ := hc
        subst c2
        cases h1 : f a with
        | none => rw [h1] at h; cases h
        | some a' =>
          rw [h1] at h
          cases Option.some.inj h
          cases tg with
          | Tuple elts kk tpos => exact pi_enumX G c1 c3 (hf a a' h1)
          | _ => simp [isTup] at c4
      · exact sq h
  · rename_i x p a b pos
    split at h
    · rename_i hc
      rw [Bool.and_eq_true, Bool.and_eq_true, Bool.and_eq_true, decide_eq_true_eq] at hc
      obtain ⟨⟨⟨c1, c2⟩, c3⟩, c4⟩ := hc
      subst c2
      split at h
      · rename_i a' b' h1 h2
        cases Option.some.inj h
        exact pi_range2X G c1 c3 c4 (hf a a' h1) (hf b b' h2)
      · cases h
    · split at h
      · rename_i hc
        rw [Bool.and_eq_true, Bool.and_eq_true, Bool.and_eq_true, Bool.and_eq_true, decide_eq_true_eq] at hc
        obtain ⟨⟨⟨⟨c1, c2⟩, c3⟩, c4⟩, c5⟩ := hc
        subst c2
        split at h
        · rename_i a' b' h1 h2
          cases Option.some.inj h
          cases tg with
          | Tuple elts kk tpos => exact pi_zipX G c1 c3 c4 (hf a a' h1) (hf b b' h2)
          | _ => simp [isTup] at c5
        · cases h
      · split at h
        · rename_i hc
          rw [Bool.and_eq_true, Bool.and_eq_true, Bool.and_eq_true, Bool.and_eq_true, decide_eq_true_eq] at hc
          obtain ⟨⟨⟨⟨c1, c2⟩, c3⟩, c4⟩, c5⟩ := hc
          subst c2
          split at h
          · rename_i a' b' h1 h2
            cases Option.some.inj h
            exact pi_zipNX G c5 c1 c3 c4 (hf a a' h1) (hf b b' h2)
          · cases h
        · exact sq h
  · rename_i o m apos cpos
    split at h
    · rename_i hm
      rw [decide_eq_true_eq] at hm
      subst hm
      split at h
      · rename_i hc
        rw [Bool.and_eq_true] at hc
        cases ho : f o with
        | none => rw [ho] at h; cases h
        | some o' =>
          rw [ho] at h
          cases Option.some.inj h
          exact pi_valsX G hc.2 hc.1 (hf o o' ho)
      · cases h
    · split at h
      · rename_i hm
        rw [decide_eq_true_eq] at hm
        subst hm
        split at h
        · rename_i hc
          rw [Bool.and_eq_true, Bool.and_eq_true] at hc
          cases ho : f o with
          | none => rw [ho] at h; cases h
          | some o' =>
            rw [ho] at h
            cases Option.some.inj h
            cases tg with
            | Tuple elts kk tpos => exact pi_itemsX G hc.1.2 hc.1.1 (hf o o' ho)
            | _ => cases hc.2
        · cases h
      · exact sq h
  · split at h
    · exact sq h
    · cases h
theorem cIt_U {c : Cc} {f : Expr → Option E} {tg it : Expr} {it' : It} (h : cIt c f tg it = some it') (hu : isU it' = true) : isTup tg = true := by
  have sq : ∀ {e : Expr}, (f e).map It.seq = some it' → False := fun {e} q => by
    cases he : f e with
    | none => rw [he] at q; cases q
    | some o => rw [he] at q; cases Option.some.inj q; cases hu
  unfold cIt at h
  split at h
  · split at h
    · cases he : f _ with
      | none => rw [he] at h; cases h
      | some o => rw [he] at h; cases Option.some.inj h; cases hu
    · split at h
      · rename_i hc
        rw [Bool.and_eq_true] at hc
        exact hc.2
      · exact absurd h sq
  · split at h
    · split at h
      · cases Option.some.inj h; cases hu
      · cases h
    · split at h
      · rename_i hc
        rw [Bool.and_eq_true] at hc
        exact hc.2
      · split at h
        · split at h
          · cases Option.some.inj h; cases hu
          · cases h
        · exact absurd h sq
  · split at h
    · split at h
      · cases he : f _ with
        | none => rw [he] at h; cases h
        | some o => rw [he] at h; cases Option.some.inj h; cases hu
      · cases h
    · split at h
      · split at h
        · rename_i hc
          rw [Bool.and_eq_true] at hc
          exact hc.2
        · cases h
      · exact absurd h sq
  · split at h
    · exact absurd h sq
    · cases h
end
end Mi
end

section
set_option maxRecDepth 100000
/-! MiSnd6: targets; comprehensions. -/
namespace Mi
open PySem PySem.Spec PyProof.Rows L2

/-! ### targets -/
def gNames : List Nat → TGs
  | [] => gNil
  | i :: is => gCons (gName i) (gNames is)
def gX (K : PySem.W.Frag) : Tg → TG
  | .one i => gName i
  | .tup is => gTup K is.length (gNames is)
section
variable {T : Tb} {cx : Ctx} {W : WX} {k : Nat} {c : Cc} {X : Cx}
theorem cLoc_of (hN : X.N = c.N) (hsc : X.env.scope = c.sc) (hfn : ∀ x, c.asg.any (fun y => decide (x = y)) = true → X.fn x = true ∨ X.env.scope.names.lookup x = some .local) {x : Str} {i : Nat} (h : cLoc c x = some i) : X.N[i]? = some x ∧ Loc X.env.scope x ∧ (X.fn x = true ∨ X.env.scope.names.lookup x = some .local) := by
  unfold cLoc at h
  split at h
  · rename_i hc
    rw [Bool.and_eq_true, Bool.and_eq_true] at hc
    have hl := isLoc_loc hc.1.1
    exact ⟨by rw [hN]; exact idx_get h, by rw [hsc]; exact hl, hfn x hc.2⟩
  · cases h
theorem pgs_X (hN : X.N = c.N) (hsc : X.env.scope = c.sc) (nd : X.N.Nodup) (hfn : ∀ x, c.asg.any (fun y => decide (x = y)) = true → X.fn x = true ∨ X.env.scope.names.lookup x = some .local) : ∀ {es : List Expr} {is : List Nat}, cTgs c es = some is → PGs X es (gNames is) ∧ (assignEach es X.env).length = is.length ∧ (assignEach es X.env).findIdx? (·.1) = none
  | [], is, h => by
    cases Option.some.inj h
    exact ⟨pgs_nil, rfl, rfl⟩
  | .Name x p :: r, is, h => by
    unfold cTgs at h
    split at h
    · rename_i i is' h1 h2
      cases Option.some.inj h
      obtain ⟨a1, a2, a3⟩ := cLoc_of hN hsc hfn h1
      obtain ⟨b1, b2, b3⟩ := pgs_X hN hsc nd hfn h2
      refine ⟨pgs_cons (pg_name nd a1 a2 a3) b1, ?_, ?_⟩
      · show (assignEach r X.env).length + 1 = is'.length + 1
        rw [b2]
      · show List.findIdx? (·.1) ((false, _) :: assignEach r X.env) = none
        rw [List.findIdx?_cons]
        simp [b3]
    · cases h
theorem pg_X (hN : X.N = c.N) (hsc : X.env.scope = c.sc) (nd : X.N.Nodup) (hc : X.calm = true) (hfn : ∀ x, c.asg.any (fun y => decide (x = y)) = true → X.fn x = true ∨ X.env.scope.names.lookup x = some .local) {tg : Expr} {t : Tg} (h : cTg c tg = some t) : PG X tg (gX X.K t) := by
  unfold cTg at h
  split at h
  · rename_i x p
    cases h1 : cLoc c x with
    | none => rw [h1] at h; cases h
    | some i =>
      rw [h1] at h
      cases Option.some.inj h
      obtain ⟨a1, a2, a3⟩ := cLoc_of hN hsc hfn h1
      exact pg_name nd a1 a2 a3
  · rename_i es j p
    cases h1 : cTgs c es with
    | none => rw [h1] at h; cases h
    | some is =>
      rw [h1] at h
      cases Option.some.inj h
      obtain ⟨b1, b2, b3⟩ := pgs_X hN hsc nd hfn h1
      exact pg_tup hc b1 b2 b3
  · cases h
theorem wipe_get : ∀ (vs : List Nat) (σ : L2.St) (j : Nat), (wipe σ vs)[j]? = if j ∈ vs then (σ[j]?).map (fun _ => none) else σ[j]?
  | [], σ, j => by simp [wipe]
  | v :: vs, σ, j => by
    unfold wipe
    have ih := wipe_get vs σ j
    by_cases hj : v = j
    · subst hj
      rw [if_pos (List.mem_cons_self ..)]
      by_cases hl : v < (wipe σ vs).length
      · rw [List.getElem?_set_self hl]
        rw [wipe_length] at hl
        rw [List.getElem?_eq_getElem hl]
        rfl
      · rw [List.getElem?_eq_none (by rw [List.length_set]; omega)]
        rw [wipe_length] at hl
        rw [List.getElem?_eq_none (by omega)]
        rfl
    · rw [List.getElem?_set_ne hj, ih]
      by_cases hm : j ∈ vs
      · rw [if_pos hm, if_pos (List.mem_cons_of_mem _ hm)]
      · rw [if_neg hm, if_neg (fun z => (List.mem_cons.mp z).elim (fun e => hj e.symm) hm)]
theorem wipe_set {own : List Nat} {i : Nat} (σ : L2.St) (v : Option V) (h : i ∈ own) : wipe (σ.set i v) own = wipe σ own := by
  apply List.ext_getElem?
  intro j
  rw [wipe_get, wipe_get]
  by_cases hj : j ∈ own
  · rw [if_pos hj, if_pos hj]
    by_cases e : i = j
    · subst e
      by_cases hl : i < σ.length
      · rw [List.getElem?_set_self hl, List.getElem?_eq_getElem hl]
        rfl
      · rw [List.getElem?_eq_none (by rw [List.length_set]; omega), List.getElem?_eq_none (by omega)]
    · rw [List.getElem?_set_ne e]
  · rw [if_neg hj, if_neg hj, List.getElem?_set_ne (fun (z : i = j) => hj (by rw [← z]; exact h))]
theorem rho_wipe {Z μ : List Addr} {s : Sto} {H : Hp} {ρ : Rho} {σ : L2.St} (h : RhoOk T.K Z μ s H ρ σ) : ∀ own : List Nat, RhoOk T.K Z μ s H (wipeR ρ own) (wipe σ own)
  | [] => h
  | i :: is => (rho_wipe h is).unset i
theorem gNames_ok {Z μ : List Addr} {s : Sto} {H : Hp} {Q : L2.St → Hp → Prop} : ∀ {is : List Nat} {ds : List PyData} {xs : List V} {ρ : Rho} {σ : L2.St}, RhoOk T.K Z μ s H ρ σ → RvAll T.K H (Bz μ s Z) xs ds → ds.length = is.length →
    (∀ σ', RhoOk T.K Z μ s H ((is.zip ds).foldl (fun r p => r.set p.1 (some (.v p.2))) ρ) σ' → (∀ own : List Nat, (∀ i ∈ is, i ∈ own) → wipe σ' own = wipe σ own) → Q σ' H) → gNames is xs σ H Q
  | [], [], _, ρ, σ, rh, .nil, _, h => ⟨rfl, h σ rh fun _ _ => rfl⟩
  | i :: is, d :: ds, _, ρ, σ, rh, .cons (v := v) (vs := vs) r t, hl, h => by
    refine ⟨v, vs, rfl, ?_⟩
    refine gNames_ok (is := is) (ds := ds) (ρ := ρ.set i (some (.v d))) (rh.set i (x := .v d) r) t (by simpa using hl) fun σ' rh' hw => ?_
    refine h σ' rh' fun own ho => ?_
    rw [hw own fun j hj => ho j (List.mem_cons_of_mem _ hj)]
    exact wipe_set σ _ (ho i (List.mem_cons_self ..))
  | [], d :: ds, _, _, _, _, _, hl, _ => by simp at hl
  | i :: is, [], _, _, _, _, _, hl, _ => by simp at hl
def tgT : Tg → Bool
  | .one _ => false
  | .tup _ => true
theorem cTg_T {c : Cc} {tg : Expr} {t : Tg} (h : cTg c tg = some t) (ht : isTup tg = true) : tgT t = true := by
  cases tg with
  | Tuple es j p =>
    unfold cTg at h
    simp only at h
    cases e : cTgs c es with
    | none => rw [e] at h; cases h
    | some is => rw [e] at h; cases Option.some.inj h; rfl
  | _ => cases ht
theorem bind_ok {Z μ : List Addr} {s : Sto} {H : Hp} {ρ ρ1 : Rho} {σ : L2.St} {v : V} {d : PyData} {t : Tg} {Q : L2.St → Hp → Prop} {un : Bool} (hK : T.K = X.K) (hU : un = true → tgT t = true) (rh : RhoOk T.K Z μ s H ρ σ) (rv : RvU un T.K H (Bz μ s Z) v d) (hb : bindT t d ρ = some ρ1)
    (h : ∀ σ', RhoOk T.K Z μ s H ρ1 σ' → (∀ own : List Nat, tgIn own t = true → wipe σ' own = wipe σ own) → Q σ' H) : gX X.K t v σ H Q := by
  cases t with
  | one i =>
    have rv : Rv T.K H (Bz μ s Z) v d := by
      rcases rv with rv | ⟨hu, _⟩
      · exact rv
      · cases hU hu
    cases Option.some.inj hb
    refine h _ (rh.set i (x := .v d) rv) fun own ho => ?_
    have hm : i ∈ own := by
      have : own.contains i = true := ho
      simpa using this
    exact wipe_set σ _ hm
  | tup is =>
    unfold bindT at hb
    simp only at hb
    split at hb
    · rename_i ds
      split at hb
      · rename_i hl
        cases Option.some.inj hb
        have rv' : ∃ a vs, v = .ref a ∧ SqT X.K H a vs ∧ RvAll T.K H (Bz μ s Z) vs ds := by
          rcases rv with rv | ⟨_, a, vs, ds', rfl, e, e1, r⟩
          · obtain ⟨a, vs, rfl, tp, r⟩ := Rv.tp rv
            rw [hK] at tp
            exact ⟨a, vs, rfl, tp.sq, r⟩
          · cases e
            exact ⟨a, vs, rfl, .inl (.inl e1), r⟩
        obtain ⟨a, vs, rfl, tp, r⟩ := rv'
        refine ⟨a, vs, rfl, tp, by rw [r.length]; exact hl, gNames_ok rh r hl fun σ' rh' hw => h σ' rh' fun own ho => hw own fun i hi => ?_⟩
        have : is.all (fun i => own.contains i) = true := ho
        rw [List.all_eq_true] at this
        simpa using this i hi
      · cases hb
    · cases hb

/-! ### comprehensions -/
def W0 : WX := fun _ _ _ _ => False
def tIfs (T : Tb) (cx : Ctx) : Es → TT
  | .nil => tYes
  | .cons t .nil => tT T cx W0 t
  | _ => fun _ _ _ => False
theorem Nx.updD {μ1 μ : List Addr} {s1 s : Sto} {H1 H : Hp} {D : Addr} {o : HO} (nx : Nx μ1 s1 H1 μ s H) (hD : H1 D = none) : Nx μ1 s1 H1 μ s (upd H D o) :=
  ⟨nx.pre, fun a u e n => by rw [upd_ne (ne_of_none e hD)]; exact nx.ext a u e n, nx.bm, fun a h => by
    by_cases e : a = D
    · subst e; rw [upd_same]; exact fun z => nomatch z
    · rw [upd_ne e]; exact nx.dom a h⟩
theorem Mv.updD {μ : List Addr} {s : Sto} {H : Hp} {Z : List Addr} {D : Addr} {o : HO} : Mv H (upd H D o) (Bz μ s (D :: Z)) (Bz μ s (D :: Z)) :=
  ⟨fun a u e n => by rw [upd_ne (fun (z : a = D) => n (.inr (by rw [z]; exact List.mem_cons_self ..)))]; exact e, fun a u e n => n⟩
theorem StOk.updD {K : PySem.W.Frag} {Z μ : List Addr} {s : Sto} {H : Hp} {D : Addr} {o : HO} (st : StOk K (D :: Z) μ s H) : StOk K (D :: Z) μ s (upd H D o) :=
  ⟨st.len, st.nd, st.off, fun a ha => by
    by_cases e : a = D
    · subst e; exact ⟨o, upd_same⟩
    · obtain ⟨u, q⟩ := st.zin a ha
      exact ⟨u, by rw [upd_ne e]; exact q⟩, fun n a d e1 e2 => (st.cell n a d e1 e2).mv Mv.updD fun hc u q => by
    rw [upd_ne (fun (z : a = D) => st.off D (List.mem_cons_self ..) ⟨n, d, by rw [← z]; exact e1, e2, hc⟩)]; exact q⟩
/-- a list in the making: what is made so far, what is still to come -/
structure Lp (T : Tb) (W : WX) (σ : L2.St) (Z μ1 : List Addr) (s1 : Sto) (H1 : Hp) (D : Addr) (Q : VK) (H : Hp) (rest : Sto → R (List PyData)) (μ : List Addr) (s : Sto) (vs : List V) (ds : List PyData) : Prop where
  nx : Nx μ1 s1 H1 μ s H
  st : StOk T.K (D :: Z) μ s H
  at_ : H D = some (.lst vs)
  rv : RvAll T.K H (Bz μ s (D :: Z)) vs ds
  pf : Pf T W σ Z μ1 s1 H1 ((calm (rest s)).bind fun zs s => madeL (ds ++ zs) s) Q
theorem calm_ok {α : Type} {r : R α} {T : Tb} {W : WX} {σ : L2.St} {Z μ1 : List Addr} {s1 : Sto} {H1 : Hp} {Q : VK} {f : α → Sto → R Xv} (h : Pf T W σ Z μ1 s1 H1 ((calm r).bind f) Q) : ∃ a s, r = .ok a s := by
  cases r with
  | ok a s => exact ⟨a, s, rfl⟩
  | exc c as s => exact absurd h fun z => z
  | err => exact absurd h fun z => z
theorem bind_ok_of {α β : Type} {r : R α} {f : α → Sto → R β} {b : β} {s' : Sto} (h : r.bind f = .ok b s') : ∃ a s, r = .ok a s ∧ f a s = .ok b s' := by
  cases r with
  | ok a s => exact ⟨a, s, rfl, h⟩
  | exc c as s => cases h
  | err => cases h
/-- one element: its value comes, is put behind the others, and the rest goes on -/
theorem lp_put {σ σ2 : L2.St} {Z μ1 : List Addr} {s1 : Sto} {H1 : Hp} {D : Addr} {Q : VK} {H : Hp} {μ : List Addr} {s : Sto} {vs : List V} {ds : List PyData} {rest : Sto → R (List PyData)} {e : E} {ρ : Rho} {P : Hp → Prop}
    (hD : H1 D = none) (rh : RhoOk T.K (D :: Z) μ s H ρ σ2)
    (h : Lp T W σ Z μ1 s1 H1 D Q H (fun s => ((ev cx e ρ s).bind putX).bind fun ys s => (rest s).bind fun zs s => .ok (ys ++ zs) s) μ s vs ds)
    (k : ∀ H' μ' s' vs' ds', Nz (D :: Z) μ s H μ' s' H' → Lp T W σ Z μ1 s1 H1 D Q H' rest μ' s' vs' ds' → P H') :
    tE T cx W0 e σ2 H fun y H4 => ∃ acc, H4 D = some (.lst acc) ∧ acc.length < sizeLine ∧ P (upd H4 D (.lst (acc ++ [y]))) := by
  obtain ⟨nx, st, hat, rv, pf⟩ := h
  refine ⟨D :: Z, μ, s, ρ, st, rh, ?_⟩
  obtain ⟨all, sE, eAll⟩ := calm_ok pf
  obtain ⟨ys, s5, ePut, eRest⟩ := bind_ok_of eAll
  obtain ⟨x, s4, eEv, ePx⟩ := bind_ok_of ePut
  obtain ⟨zs, s6, eR, eF⟩ := bind_ok_of eRest
  simp only [R.ok.injEq] at eF
  obtain ⟨rfl, rfl⟩ := eF
  rw [eEv]
  intro μ4 H4 u nx4 st4 xo4
  unfold putX at ePx
  split at ePx
  · rename_i dy s5' ef
    simp only [R.ok.injEq] at ePx
    obtain ⟨rfl, rfl⟩ := ePx
    obtain ⟨nxf, stf, rvf⟩ := fz_ok st4 xo4 ef
    have hD4 : H4 D = some (.lst vs) := nx4.ext D _ hat (st.off D (List.mem_cons_self ..))
    have rv4 := (rv.mv (nx4.mv (D :: Z))).mv (nxf.mv (D :: Z))
    have pf' : Pf T W σ Z μ1 s1 H1 ((calm (rest s5')).bind fun zs s => madeL ((ds ++ [dy]) ++ zs) s) Q := by
      have e1 : (calm (((ev cx e ρ s).bind putX).bind fun ys s => (rest s).bind fun zs s => .ok (ys ++ zs) s)).bind (fun zs s => madeL (ds ++ zs) s) = madeL (ds ++ ([dy] ++ zs)) s6 := by
        rw [eAll]; rfl
      rw [e1] at pf
      rw [eR]
      show Pf T W σ Z μ1 s1 H1 (madeL (ds ++ [dy] ++ zs) s6) Q
      rw [List.append_assoc]
      exact pf
    refine ⟨vs, hD4, ?_, k _ μ4 s5' (vs ++ [u]) (ds ++ [dy]) (((nx4.trans nxf).nz _).trans (Nz.upd (List.mem_cons_self ..))) ⟨((nx.trans nx4).trans nxf).updD hD, stf.updD, upd_same, (rv4.append (.cons rvf .nil)).mv Mv.updD, pf'⟩⟩
    have hz : szOk (ds ++ [dy] ++ zs).length = true := by
      rw [eR] at pf'
      have pf' : Pf T W σ Z μ1 s1 H1 (madeL (ds ++ [dy] ++ zs) s6) Q := pf'
      unfold madeL at pf'
      split at pf'
      · assumption
      · exact absurd pf' fun z => z
    have := szOk_le hz
    rw [List.length_append, List.length_append, List.length_singleton] at this
    rw [rv.length]
    omega
  · cases ePx
/-- a test, then the element or not -/
theorem lp_turn {σ σ2 : L2.St} {Z μ1 : List Addr} {s1 : Sto} {H1 : Hp} {D : Addr} {Q : VK} {H : Hp} {μ : List Addr} {s : Sto} {vs : List V} {ds : List PyData} {rest : Sto → R (List PyData)} {e : E} {ifs : Es} {ρ : Rho} {P : Hp → Prop}
    (hif : ifs = .nil ∨ ∃ t, ifs = .cons t .nil) (hD : H1 D = none) (rh : RhoOk T.K (D :: Z) μ s H ρ σ2)
    (h : Lp T W σ Z μ1 s1 H1 D Q H (fun s => ((evt cx ifs ρ s).bind fun b s => if b then (ev cx e ρ s).bind putX else .ok [] s).bind fun ys s => (rest s).bind fun zs s => .ok (ys ++ zs) s) μ s vs ds)
    (k : ∀ H' μ' s' vs' ds', Nz (D :: Z) μ s H μ' s' H' → Lp T W σ Z μ1 s1 H1 D Q H' rest μ' s' vs' ds' → P H') :
    tIfs T cx ifs σ2 H fun b H3 => if b = true then tE T cx W0 e σ2 H3 (fun y H4 => ∃ acc, H4 D = some (.lst acc) ∧ acc.length < sizeLine ∧ P (upd H4 D (.lst (acc ++ [y])))) else P H3 := by
  rcases hif with rfl | ⟨t, rfl⟩
  · have g := lp_put (e := e) (rest := rest) (P := P) hD rh ⟨h.nx, h.st, h.at_, h.rv, h.pf⟩ k
    exact iteT (B := P H) g
  · obtain ⟨nx, st, hat, rv, pf⟩ := h
    refine ⟨D :: Z, μ, s, ρ, st, rh, ?_⟩
    obtain ⟨all, sE, eAll⟩ := calm_ok pf
    obtain ⟨ys, s5, eB, eRest⟩ := bind_ok_of eAll
    obtain ⟨b, s3, eT, eB2⟩ := bind_ok_of eB
    unfold evt at eT
    obtain ⟨x, s2, eX, eT2⟩ := bind_ok_of eT
    rw [eX]
    intro μ3 H3 u nx3 st3 xo3
    have hD3 : H3 D = some (.lst vs) := nx3.ext D _ hat (st.off D (List.mem_cons_self ..))
    have rv3 := rv.mv (nx3.mv (D :: Z))
    split at eT2
    · simp only [evt, R.ok.injEq] at eT2
      obtain ⟨rfl, rfl⟩ := eT2
      refine ⟨true, bl_of xo3, iteT (lp_put hD (rh.nx nx3) ⟨nx.trans nx3, st3, hD3, rv3, ?_⟩ fun H' μ' s' vs' ds' nz => k H' μ' s' vs' ds' ((nx3.nz _).trans nz))⟩
      have e2 : ((evt cx (.cons t .nil) ρ s).bind fun b s => if b then (ev cx e ρ s).bind putX else .ok [] s) = (ev cx e ρ s2).bind putX := by
        unfold evt
        rw [eX]
        simp [evt]
      rw [e2] at pf
      exact pf
    · simp only [R.ok.injEq] at eT2
      obtain ⟨rfl, rfl⟩ := eT2
      refine ⟨false, bl_of xo3, iteF (k H3 μ3 s2 vs ds (nx3.nz _) ⟨nx.trans nx3, st3, hD3, rv3, ?_⟩)⟩
      have e2 : ((evt cx (.cons t .nil) ρ s).bind fun b s => if b then (ev cx e ρ s).bind putX else .ok [] s) = .ok [] s2 := by
        unfold evt
        rw [eX]
        rfl
      rw [e2] at pf
      have e3 : ((R.ok [] s2).bind fun ys s => (rest s).bind fun zs s => R.ok (ys ++ zs) s) = rest s2 := by
        simp only [R.bind_ok, List.nil_append]
        cases rest s2 <;> rfl
      rw [e3] at pf
      exact pf
    · cases eT2
theorem comp_conv (G : Good T cx W k c X) {own : List (Str × Nat)} {e' : E} {t' : Tg} {it' : It} {f' : Es} (hif : f' = .nil ∨ ∃ t, f' = .cons t .nil) (hin : tgIn (own.map (·.2)) t' = true) (hU : isU it' = true → tgT t' = true) (σ : L2.St) (H : Hp) (Q : VK) (q : tF T cx W (.comp (own.map (·.2)) e' t' it' f') σ H Q) :
    tLc (tI T cx W it') (gX X.K t') (tIfs T cx f') (tE T cx W0 e') (own.map (·.2)) σ H Q := by
  obtain ⟨Z, μ, s, ρ, st, rh, po⟩ := q
  unfold ev at po
  refine ⟨Z, μ, s, ρ, st, rh, po.bind fun src s1 μ1 H1 J e1 nx1 st1 so pf1 D hD => ?_⟩
  have zup : ZUp Z H1 (D :: Z) := fun a ha => by
    rcases List.mem_cons.mp ha with rfl | ha
    · exact .inr hD
    · exact .inl ha
  have rh1 := rh.nx nx1
  rw [walk_eq] at pf1
  generalize hB : (fun (d : PyData) (s : Sto) => match bindT t' d (wipeR ρ (own.map (·.2))) with
      | some ρ1 => (evt cx f' ρ1 s).bind fun b s => if b then (ev cx e' ρ1 s).bind putX else .ok [] s
      | none => .err) = body at pf1
  refine ⟨fun i m H => ∃ μ s vs ds, Lp T W σ Z μ1 s1 H1 D Q H (turnsC body (srcAt src) m i) μ s vs ds, ⟨fuelOf src, μ1, s1, [], [], Nx.new hD, st1.newZ hD, upd_same, .nil, pf1⟩, fun i m H hL => ?_⟩
  obtain ⟨μ2, s2, vs, ds, nx, st2, hat, rv, pf⟩ := hL
  obtain ⟨hstop, hgo⟩ := so i μ2 s2 H (D :: Z) (nx.nz _) zup st2
  cases m with
  | zero => exact absurd pf fun z => z
  | succ m =>
    unfold turnsC at pf
    cases es : srcAt src s2 i with
    | none => rw [es] at pf; exact absurd pf fun z => z
    | some o =>
      cases o with
      | none =>
        rw [es] at pf
        refine .inl ⟨hstop es, ?_⟩
        have pf : Pf T W σ Z μ1 s1 H1 (madeL (ds ++ []) s2) Q := pf
        rw [List.append_nil] at pf
        unfold madeL at pf
        split at pf
        · exact pf μ2 H D vs nx st2 hD hat rv
        · exact absurd pf fun z => z
      | some d =>
        rw [es] at pf
        simp only at pf
        obtain ⟨g1, g2⟩ := hgo d es
        refine .inr ⟨g1, fun H' => ∃ μ s vs ds, Lp T W σ Z μ1 s1 H1 D Q H' (turnsC body (srcAt src) m (i + 1)) μ s vs ds, fun H' h => ⟨m, Nat.lt_succ_self _, h⟩, fun x H' hy => ?_⟩
        obtain ⟨nxy, sty, rvx⟩ := g2 x H' hy
        have hD' : H' D = some (.lst vs) := nxy.ext D _ hat (st2.off D (List.mem_cons_self ..))
        have nx' := nx.trans nxy
        have rhw : RhoOk T.K (D :: Z) μ2 s2 H' (wipeR ρ (own.map (·.2))) (wipe σ (own.map (·.2))) := rho_wipe (rh1.nxZ nx' zup) _
        cases eb : bindT t' d (wipeR ρ (own.map (·.2))) with
        | none =>
          rw [← hB] at pf
          simp only [eb] at pf
          exact absurd pf fun z => z
        | some ρ1 =>
          refine bind_ok (X := X) G.K hU rhw rvx eb fun σ2 rh2 hw => ⟨?_, ?_⟩
          · rw [hw _ hin]
            apply List.ext_getElem?
            intro j
            rw [wipe_get]
            split
            · rw [wipe_get]
              rename_i hj
              rw [if_pos hj]
              cases σ[j]? <;> rfl
            · rfl
          · have hbd : body d s2 = (evt cx f' ρ1 s2).bind fun b s => if b then (ev cx e' ρ1 s).bind putX else .ok [] s := by
              rw [← hB]
              simp only [eb]
            rw [hbd] at pf
            exact lp_turn (P := fun H' => ∃ μ s vs ds, Lp T W σ Z μ1 s1 H1 D Q H' (turnsC body (srcAt src) m (i + 1)) μ s vs ds) hif hD rh2 ⟨nx', sty, hD', rv.mv (nxy.mv (D :: Z)), pf⟩ fun H' μ' s' vs' ds' _ h => ⟨μ', s', vs', ds', h⟩
theorem pe_compX (G : Good T cx W k c X) {elt tg iter : Expr} {ifs : List Expr} {scope : Scope} {own : List (Str × Nat)} {pos : Pos} {e' : E} {t' : Tg} {it' : It} {f' : Es} (blk : BlkOk X.N X.env.scope scope own) (hi : PI X tg iter (tI T cx W it'))
    (hg : ∀ (s : Shared) (H : Hp) (C : Addr) (cl : List (Str × Addr)) (fp : List Addr), PG (X.blk s H scope (compEnvC scope cl C X.env) fp) tg (gX X.K t')) (hif : f' = .nil ∨ ∃ t, f' = .cons t .nil)
    (ht : ∀ (s : Shared) (H : Hp) (C : Addr) (cl : List (Str × Addr)) (fp : List Addr), PTs (X.blk s H scope (compEnvC scope cl C X.env) fp) ifs (tIfs T cx f'))
    (he : ∀ (s : Shared) (H : Hp) (C : Addr) (cl : List (Str × Addr)) (fp : List Addr), PE (X.blk s H scope (compEnvC scope cl C X.env) fp) elt (tE T cx W0 e')) (hs : ∀ x, foldedSetIterable iter X.env x = pure x) (hin : tgIn (own.map (·.2)) t' = true) (hU : isU it' = true → tgT t' = true) :
    PE X (.ListComp elt [⟨tg, iter, ifs, 0⟩] scope pos) (tF T cx W (.comp (own.map (·.2)) e' t' it' f')) :=
  (pe_lc G.calm G.nd hi blk hg ht he hs).imp fun σ H Q q => comp_conv G hif hin hU σ H Q q
theorem ps_compX (G : Good T cx W k c X) {elt tg iter : Expr} {ifs : List Expr} {scope : Scope} {own : List (Str × Nat)} {pos spos py : Pos} {y : Str} {i : Nat} {e' : E} {t' : Tg} {it' : It} {f' : Es} (hy : X.N[i]? = some y) (hyl : X.env.scope.names.lookup y = some .local)
    (hsw : swapsWith (.ListComp elt [⟨tg, iter, ifs, 0⟩] scope pos) (some (.Name y py)) spos.line X.env = pure true) (blk : BlkOk X.N X.env.scope scope own) (hi : PI X tg iter (tI T cx W it'))
    (hg : ∀ (s : Shared) (H : Hp) (C : Addr) (cl : List (Str × Addr)) (fp : List Addr), PG (X.blk s H scope (compEnvC scope cl C X.env) fp) tg (gX X.K t')) (hif : f' = .nil ∨ ∃ t, f' = .cons t .nil)
    (ht : ∀ (s : Shared) (H : Hp) (C : Addr) (cl : List (Str × Addr)) (fp : List Addr), PTs (X.blk s H scope (compEnvC scope cl C X.env) fp) ifs (tIfs T cx f'))
    (he : ∀ (s : Shared) (H : Hp) (C : Addr) (cl : List (Str × Addr)) (fp : List Addr), PE (X.blk s H scope (compEnvC scope cl C X.env) fp) elt (tE T cx W0 e')) (hs : ∀ x, foldedSetIterable iter X.env x = pure x) (hin : tgIn (own.map (·.2)) t' = true) (hU : isU it' = true → tgT t' = true) :
    PS X (.Assign [.Name y py] (.ListComp elt [⟨tg, iter, ifs, 0⟩] scope pos) spos) (tAsg (tF T cx W (.comp (own.map (·.2)) e' t' it' f')) (gName i)) :=
  ⟨fun pins s σ H D I q => (ps_setLc G.calm G.nd hy hyl hsw hi blk hg ht he hs).run pins s σ H D I (comp_conv G hif hin hU σ H _ q)⟩
end
end Mi
end

section
set_option maxRecDepth 100000
set_option maxHeartbeats 4000000
/-! MiComp2: comprehensions with two sources. -/
namespace Mi
open PySem PySem.Spec PyProof.Rows L2
section
variable {T : Tb} {cx : Ctx} {W : WX} {k : Nat} {c : Cc} {X : Cx}
theorem wipe_idem (σ : L2.St) (own : List Nat) : wipe (wipe σ own) own = wipe σ own := by
  apply List.ext_getElem?
  intro j
  rw [wipe_get]
  split
  · rw [wipe_get]
    rename_i hj
    rw [if_pos hj]
    cases σ[j]? <;> rfl
  · rfl
theorem bind_assoc3 {α β γ : Type} (r : R α) (f : α → Sto → R β) (g : β → Sto → R γ) : (r.bind f).bind g = r.bind fun a s => (f a s).bind g := by
  cases r <;> rfl
/-- a test, then one way or the other -/
theorem lp_test {σ σ2 : L2.St} {Z μ1 : List Addr} {s1 : Sto} {H1 : Hp} {D : Addr} {Q : VK} {H : Hp} {μ : List Addr} {s : Sto} {vs : List V} {ds : List PyData} {rest body : Sto → R (List PyData)} {ifs : Es} {ρ : Rho} {P TB : Hp → Prop}
    (hif : ifs = .nil ∨ ∃ t, ifs = .cons t .nil) (rh : RhoOk T.K (D :: Z) μ s H ρ σ2)
    (h : Lp T W σ Z μ1 s1 H1 D Q H (fun s => ((evt cx ifs ρ s).bind fun b s => if b then body s else .ok [] s).bind fun ys s => (rest s).bind fun zs s => .ok (ys ++ zs) s) μ s vs ds)
    (kt : ∀ H' μ' s', Nx μ s H μ' s' H' → Lp T W σ Z μ1 s1 H1 D Q H' (fun s => (body s).bind fun ys s => (rest s).bind fun zs s => .ok (ys ++ zs) s) μ' s' vs ds → TB H')
    (kf : ∀ H' μ' s', Nx μ s H μ' s' H' → Lp T W σ Z μ1 s1 H1 D Q H' rest μ' s' vs ds → P H') :
    tIfs T cx ifs σ2 H fun b H3 => if b = true then TB H3 else P H3 := by
  rcases hif with rfl | ⟨t, rfl⟩
  · exact iteT (B := P H) (kt H μ s (Nx.refl _ _ _) ⟨h.nx, h.st, h.at_, h.rv, h.pf⟩)
  · obtain ⟨nx, st, hat, rv, pf⟩ := h
    refine ⟨D :: Z, μ, s, ρ, st, rh, ?_⟩
    obtain ⟨all, sE, eAll⟩ := calm_ok pf
    obtain ⟨ys, s5, eB, eRest⟩ := bind_ok_of eAll
    obtain ⟨b, s3, eT, eB2⟩ := bind_ok_of eB
    unfold evt at eT
    obtain ⟨x, s2, eX, eT2⟩ := bind_ok_of eT
    rw [eX]
    intro μ3 H3 u nx3 st3 xo3
    have hD3 : H3 D = some (.lst vs) := nx3.ext D _ hat (st.off D (List.mem_cons_self ..))
    have rv3 := rv.mv (nx3.mv (D :: Z))
    split at eT2
    · simp only [evt, R.ok.injEq] at eT2
      obtain ⟨rfl, rfl⟩ := eT2
      refine ⟨true, bl_of xo3, iteT (kt H3 μ3 s2 nx3 ⟨nx.trans nx3, st3, hD3, rv3, ?_⟩)⟩
      have e2 : ((evt cx (.cons t .nil) ρ s).bind fun b s => if b then body s else .ok [] s) = body s2 := by
        unfold evt
        rw [eX]
        simp [evt]
      rw [e2] at pf
      exact pf
    · simp only [R.ok.injEq] at eT2
      obtain ⟨rfl, rfl⟩ := eT2
      refine ⟨false, bl_of xo3, iteF (kf H3 μ3 s2 nx3 ⟨nx.trans nx3, st3, hD3, rv3, ?_⟩)⟩
      have e2 : ((evt cx (.cons t .nil) ρ s).bind fun b s => if b then body s else .ok [] s) = .ok [] s2 := by
        unfold evt
        rw [eX]
        rfl
      rw [e2] at pf
      have e3 : ((R.ok [] s2).bind fun ys s => (rest s).bind fun zs s => R.ok (ys ++ zs) s) = rest s2 := by
        simp only [R.bind_ok, List.nil_append]
        cases rest s2 <;> rfl
      rw [e3] at pf
      exact pf
    · cases eT2
/-- the second source's own turns -/
theorem lp_inner {σ σ2 : L2.St} {Z μ1 : List Addr} {s1 : Sto} {H1 : Hp} {D : Addr} {Q : VK} {H : Hp} {μ : List Addr} {s : Sto} {vs : List V} {ds : List PyData} {rest : Sto → R (List PyData)} {e1 : E} {t1 : Tg} {it1 : It} {f1 : Es} {own1 : List Nat} {ρ1 : Rho} {P : Hp → Prop}
    (hK : T.K = X.K) (hif : f1 = .nil ∨ ∃ t, f1 = .cons t .nil) (hin : tgIn own1 t1 = true) (hU : isU it1 = true → tgT t1 = true) (hD : H1 D = none) (rh : RhoOk T.K (D :: Z) μ s H ρ1 σ2)
    (h : Lp T W σ Z μ1 s1 H1 D Q H (fun s => ((evi cx it1 ρ1 s).bind fun src1 s => walk (fun d1 s => match bindT t1 d1 (wipeR ρ1 own1) with
          | some ρ2 => (evt cx f1 ρ2 s).bind fun b s => if b then (ev cx e1 ρ2 s).bind putX else .ok [] s
          | none => .err) src1 s).bind fun ys s => (rest s).bind fun zs s => .ok (ys ++ zs) s) μ s vs ds)
    (k : ∀ H' μ' s' vs' ds', Lp T W σ Z μ1 s1 H1 D Q H' rest μ' s' vs' ds' → P H') :
    tI T cx W0 it1 σ2 H fun J1 H4 => ∃ W1 : Nat → Nat → Hp → Prop, (∃ m, W1 0 m H4) ∧ ∀ j k H, W1 j k H →
      (J1.stop j H ∧ P H) ∨ (J1.go j H ∧ ∃ Nx1 : Hp → Prop, (∀ H', Nx1 H' → ∃ k', k' < k ∧ W1 (j + 1) k' H') ∧ ∀ x H', J1.yld j H x H' → gX X.K t1 x (wipe σ2 own1) H' fun σ3 H5 => wipe σ3 own1 = wipe σ2 own1 ∧ tIfs T cx f1 σ3 H5 fun b H6 =>
        if b = true then tE T cx W0 e1 σ3 H6 fun y H7 => ∃ acc, H7 D = some (.lst acc) ∧ acc.length < sizeLine ∧ Nx1 (upd H7 D (.lst (acc ++ [y]))) else Nx1 H6) := by
  generalize hB : (fun (d1 : PyData) (s : Sto) => match bindT t1 d1 (wipeR ρ1 own1) with
          | some ρ2 => (evt cx f1 ρ2 s).bind fun b s => if b then (ev cx e1 ρ2 s).bind putX else .ok [] s
          | none => .err) = body at h
  obtain ⟨nx, st, hat, rv, pf⟩ := h
  refine ⟨D :: Z, μ, s, ρ1, st, rh, ?_⟩
  obtain ⟨all, sE, eAll⟩ := calm_ok pf
  obtain ⟨ys, s5, eB, eRest⟩ := bind_ok_of eAll
  obtain ⟨src1, s4, eI, eW⟩ := bind_ok_of eB
  rw [eI]
  intro μ4 H4 J1 nx4 st4 so
  have hD4 : H4 D = some (.lst vs) := nx4.ext D _ hat (st.off D (List.mem_cons_self ..))
  have rv4 := rv.mv (nx4.mv (D :: Z))
  rw [eI] at pf
  simp only [R.bind_ok, walk_eq] at pf
  refine ⟨fun j m H => ∃ μ s vs ds, Nz (D :: Z) μ4 s4 H4 μ s H ∧ Lp T W σ Z μ1 s1 H1 D Q H (fun s => (turnsC body (srcAt src1) m j s).bind fun ys s => (rest s).bind fun zs s => .ok (ys ++ zs) s) μ s vs ds, ⟨fuelOf src1, μ4, s4, vs, ds, (Nx.refl _ _ _).nz _, nx.trans nx4, st4, hD4, rv4, pf⟩, fun j m H' hL => ?_⟩
  obtain ⟨μ5, s5, vs5, ds5, nx5, nxa, st5, hat5, rv5, pf5⟩ := hL
  obtain ⟨hstop, hgo⟩ := so j μ5 s5 H' (D :: Z) nx5 (fun a ha => .inl ha) st5
  cases m with
  | zero => exact absurd pf5 fun z => z
  | succ m =>
    unfold turnsC at pf5
    cases es : srcAt src1 s5 j with
    | none => rw [es] at pf5; exact absurd pf5 fun z => z
    | some o =>
      cases o with
      | none =>
        rw [es] at pf5
        refine .inl ⟨hstop es, k H' μ5 s5 vs5 ds5 ⟨nxa, st5, hat5, rv5, ?_⟩⟩
        have e3 : ((R.ok [] s5).bind fun ys s => (rest s).bind fun zs s => R.ok (ys ++ zs) s) = rest s5 := by
          simp only [R.bind_ok, List.nil_append]
          cases rest s5 <;> rfl
        simp only [e3] at pf5
        exact pf5
      | some d =>
        rw [es] at pf5
        simp only at pf5
        obtain ⟨g1, g2⟩ := hgo d es
        refine .inr ⟨g1, fun H6 => ∃ μ s vs ds, Nz (D :: Z) μ4 s4 H4 μ s H6 ∧ Lp T W σ Z μ1 s1 H1 D Q H6 (fun s => (turnsC body (srcAt src1) m (j + 1) s).bind fun ys s => (rest s).bind fun zs s => .ok (ys ++ zs) s) μ s vs ds, fun H6 h => ⟨m, Nat.lt_succ_self _, h⟩, fun x H6 hy => ?_⟩
        obtain ⟨nxy, sty, rvx⟩ := g2 x H6 hy
        have hD6 : H6 D = some (.lst vs5) := nxy.ext D _ hat5 (st5.off D (List.mem_cons_self ..))
        have rhw : RhoOk T.K (D :: Z) μ5 s5 H6 (wipeR ρ1 own1) (wipe σ2 own1) := rho_wipe (((rh.nx nx4).nz nx5).nx nxy) _
        cases eb : bindT t1 d (wipeR ρ1 own1) with
        | none =>
          rw [← hB] at pf5
          simp only [eb] at pf5
          exact absurd pf5 fun z => z
        | some ρ2 =>
          refine bind_ok (X := X) hK hU rhw rvx eb fun σ3 rh3 hw => ⟨?_, ?_⟩
          · rw [hw _ hin, wipe_idem]
          · have hbd : body d s5 = (evt cx f1 ρ2 s5).bind fun b s => if b then (ev cx e1 ρ2 s).bind putX else .ok [] s := by
              rw [← hB]
              simp only [eb]
            rw [hbd] at pf5
            refine lp_turn (rest := fun s => (turnsC body (srcAt src1) m (j + 1) s).bind fun ys s => (rest s).bind fun zs s => .ok (ys ++ zs) s) (P := fun H6 => ∃ μ s vs ds, Nz (D :: Z) μ4 s4 H4 μ s H6 ∧ Lp T W σ Z μ1 s1 H1 D Q H6 (fun s => (turnsC body (srcAt src1) m (j + 1) s).bind fun ys s => (rest s).bind fun zs s => .ok (ys ++ zs) s) μ s vs ds) hif hD rh3 ⟨nxa.trans nxy, sty, hD6, rv5.mv (nxy.mv (D :: Z)), ?_⟩ fun H' μ' s' vs' ds' nz h => ⟨μ', s', vs', ds', (nx5.trans (nxy.nz _)).trans nz, h⟩
            rw [bind_assoc3] at pf5
            have e4 : (fun (a : List PyData) (t : Sto) => ((turnsC body (srcAt src1) m (j + 1) t).bind fun zs s2 => R.ok (a ++ zs) s2).bind fun ys s => (rest s).bind fun zs s => R.ok (ys ++ zs) s) =
                fun ys s => ((turnsC body (srcAt src1) m (j + 1) s).bind fun ys s => (rest s).bind fun zs s => R.ok (ys ++ zs) s).bind fun zs s => R.ok (ys ++ zs) s := by
              funext a t
              cases turnsC body (srcAt src1) m (j + 1) t with
              | ok zs s2 =>
                simp only [R.bind_ok]
                cases rest s2 with
                | ok ws s3 => simp [R.bind_ok, List.append_assoc]
                | exc c as s3 => rfl
                | err => rfl
              | exc c as s2 => rfl
              | err => rfl
            rw [e4] at pf5
            exact pf5
theorem comp2_conv (G : Good T cx W k c X) {own : List (Str × Nat)} {own1 : List Nat} {e' : E} {t' t1 : Tg} {it' it1 : It} {f' f1 : Es} (hif : f' = .nil ∨ ∃ t, f' = .cons t .nil) (hif1 : f1 = .nil ∨ ∃ t, f1 = .cons t .nil) (hin : tgIn (own.map (·.2)) t' = true) (hin1 : tgIn own1 t1 = true) (hU : isU it' = true → tgT t' = true) (hU1 : isU it1 = true → tgT t1 = true) (σ : L2.St) (H : Hp) (Q : VK)
    (q : tF T cx W (.comp2 (own.map (·.2)) own1 e' t' it' f' t1 it1 f1) σ H Q) :
    tLc2 (tI T cx W it') (gX X.K t') (tIfs T cx f') (tI T cx W0 it1) (gX X.K t1) (tIfs T cx f1) (tE T cx W0 e') (own.map (·.2)) own1 σ H Q := by
  obtain ⟨Z, μ, s, ρ, st, rh, po⟩ := q
  unfold ev at po
  refine ⟨Z, μ, s, ρ, st, rh, po.bind fun src s1 μ1 H1 J e1 nx1 st1 so pf1 D hD => ?_⟩
  have zup : ZUp Z H1 (D :: Z) := fun a ha => by
    rcases List.mem_cons.mp ha with rfl | ha
    · exact .inr hD
    · exact .inl ha
  have rh1 := rh.nx nx1
  rw [walk_eq] at pf1
  generalize hB : (fun (d : PyData) (s : Sto) => match bindT t' d (wipeR ρ (own.map (·.2))) with
      | some ρ1 => (evt cx f' ρ1 s).bind fun b s => if b then (evi cx it1 ρ1 s).bind fun src1 s => walk (fun d1 s => match bindT t1 d1 (wipeR ρ1 own1) with
          | some ρ2 => (evt cx f1 ρ2 s).bind fun b s => if b then (ev cx e' ρ2 s).bind putX else .ok [] s
          | none => .err) src1 s else .ok [] s
      | none => .err) = body at pf1
  refine ⟨fun i m H => ∃ μ s vs ds, Lp T W σ Z μ1 s1 H1 D Q H (turnsC body (srcAt src) m i) μ s vs ds, ⟨fuelOf src, μ1, s1, [], [], Nx.new hD, st1.newZ hD, upd_same, .nil, pf1⟩, fun i m H hL => ?_⟩
  obtain ⟨μ2, s2, vs, ds, nx, st2, hat, rv, pf⟩ := hL
  obtain ⟨hstop, hgo⟩ := so i μ2 s2 H (D :: Z) (nx.nz _) zup st2
  cases m with
  | zero => exact absurd pf fun z => z
  | succ m =>
    unfold turnsC at pf
    cases es : srcAt src s2 i with
    | none => rw [es] at pf; exact absurd pf fun z => z
    | some o =>
      cases o with
      | none =>
        rw [es] at pf
        refine .inl ⟨hstop es, ?_⟩
        have pf : Pf T W σ Z μ1 s1 H1 (madeL (ds ++ []) s2) Q := pf
        rw [List.append_nil] at pf
        unfold madeL at pf
        split at pf
        · exact pf μ2 H D vs nx st2 hD hat rv
        · exact absurd pf fun z => z
      | some d =>
        rw [es] at pf
        simp only at pf
        obtain ⟨g1, g2⟩ := hgo d es
        refine .inr ⟨g1, fun H' => ∃ μ s vs ds, Lp T W σ Z μ1 s1 H1 D Q H' (turnsC body (srcAt src) m (i + 1)) μ s vs ds, fun H' h => ⟨m, Nat.lt_succ_self _, h⟩, fun x H' hy => ?_⟩
        obtain ⟨nxy, sty, rvx⟩ := g2 x H' hy
        have hD' : H' D = some (.lst vs) := nxy.ext D _ hat (st2.off D (List.mem_cons_self ..))
        have nx' := nx.trans nxy
        have rhw : RhoOk T.K (D :: Z) μ2 s2 H' (wipeR ρ (own.map (·.2))) (wipe σ (own.map (·.2))) := rho_wipe (rh1.nxZ nx' zup) _
        cases eb : bindT t' d (wipeR ρ (own.map (·.2))) with
        | none =>
          rw [← hB] at pf
          simp only [eb] at pf
          exact absurd pf fun z => z
        | some ρ1 =>
          refine bind_ok (X := X) G.K hU rhw rvx eb fun σ2 rh2 hw => ⟨?_, ?_⟩
          · rw [hw _ hin, wipe_idem]
          · have hbd : body d s2 = (evt cx f' ρ1 s2).bind fun b s => if b then (evi cx it1 ρ1 s).bind fun src1 s => walk (fun d1 s => match bindT t1 d1 (wipeR ρ1 own1) with
                | some ρ2 => (evt cx f1 ρ2 s).bind fun b s => if b then (ev cx e' ρ2 s).bind putX else .ok [] s
                | none => .err) src1 s else .ok [] s := by
              rw [← hB]
              simp only [eb]
            rw [hbd] at pf
            refine lp_test (rest := turnsC body (srcAt src) m (i + 1)) hif rh2 ⟨nx', sty, hD', rv.mv (nxy.mv (D :: Z)), pf⟩ (fun H3 μ3 s3 nx3 h3 => ?_) fun H3 μ3 s3 nx3 h3 => ⟨μ3, s3, vs, ds, h3⟩
            exact lp_inner (X := X) G.K hif1 hin1 hU1 hD (rh2.nx nx3) h3 fun H' μ' s' vs' ds' h => ⟨μ', s', vs', ds', h⟩
end
end Mi
end

section
set_option maxRecDepth 100000
/-! MiSnd7: every expression that is turned into the small language. -/
namespace Mi
open PySem PySem.Spec PyProof.Rows L2
section
variable {T : Tb} {cx : Ctx} {k : Nat}
theorem ownNames_mem : ∀ {l : List (Str × NameKind)} {x : Str}, (ownNames l).any (fun y => decide (x = y)) = true → (x, NameKind.local) ∈ l ∨ (x, NameKind.cell) ∈ l
  | [], x, h => by simp [ownNames] at h
  | (y, kd) :: r, x, h => by
    cases kd with
    | «local» =>
      simp only [ownNames, List.any_cons, Bool.or_eq_true, decide_eq_true_eq] at h
      rcases h with rfl | h
      · exact .inl (List.mem_cons_self ..)
      · rcases ownNames_mem h with q | q
        · exact .inl (List.mem_cons_of_mem _ q)
        · exact .inr (List.mem_cons_of_mem _ q)
    | cell =>
      simp only [ownNames, List.any_cons, Bool.or_eq_true, decide_eq_true_eq] at h
      rcases h with rfl | h
      · exact .inr (List.mem_cons_self ..)
      · rcases ownNames_mem h with q | q
        · exact .inl (List.mem_cons_of_mem _ q)
        · exact .inr (List.mem_cons_of_mem _ q)
    | _ =>
      simp only [ownNames] at h
      rcases ownNames_mem h with q | q
      · exact .inl (List.mem_cons_of_mem _ q)
      · exact .inr (List.mem_cons_of_mem _ q)
theorem Good.blk {W : WX} {c : Cc} {X : Cx} (G : Good T cx W k c X) {scope : Scope} {own : List (Str × Nat)} (blk : BlkOk X.N X.env.scope scope own) (s : Shared) (H : Hp) (C : Addr) (cl : List (Str × Addr)) (fp : List Addr) : Good T cx W0 k { c with sc := relS scope c.sc, asg := ownNames scope.names } (X.blk s H scope (compEnvC scope cl C X.env) fp) where
  K := G.K
  N := G.N
  sc := by
    show relabel scope X.env = relS scope c.sc
    rw [← G.sc]
    rfl
  nd := G.nd
  calm := G.calm
  room := G.room
  fnk := fun x h => by
    rcases ownNames_mem h with q | q
    · refine .inr ?_
      exact lookup_relabel_local (blk.uniq _ q)
    · refine .inl ?_
      show (scope.names.lookup x == some NameKind.cell) = true
      rw [blk.uniq _ q]
      rfl
  free := G.free
  takes := takes0
  glob := G.glob
  fns := G.fns
  xcs := G.xcs
  exm := G.exm

def SndE (T : Tb) (cx : Ctx) (k n : Nat) : Prop := ∀ (c : Cc) (W : WX) (X : Cx), Good T cx W k c X → ∀ (e : Expr) (e' : E), cE n c e = some e' →
  PE X e (tE T cx W e') ∧ (isFresh e' = true → PE X e (tF T cx W e')) ∧ (tstOk e' = true → PT X e (tT T cx W e'))
theorem ofPE {W : WX} {X : Cx} {e : Expr} {e' : E} (h : PE X e (tE T cx W e')) (hf : isFresh e' = false) (he : ∀ whole, isTrue e X.env whole = (do let v ← whole; standAt e.pos; holding [v] (truthy v))) :
    PE X e (tE T cx W e') ∧ (isFresh e' = true → PE X e (tF T cx W e')) ∧ (tstOk e' = true → PT X e (tT T cx W e')) :=
  ⟨h, (fun z => by rw [hf] at z; cases z), fun _ => pt_val h he⟩
theorem ofPF {W : WX} {X : Cx} {e : Expr} {e' : E} (h : PE X e (tF T cx W e')) (he : ∀ whole, isTrue e X.env whole = (do let v ← whole; standAt e.pos; holding [v] (truthy v))) :
    PE X e (tE T cx W e') ∧ (isFresh e' = true → PE X e (tF T cx W e')) ∧ (tstOk e' = true → PT X e (tT T cx W e')) :=
  ⟨h.ofF, fun _ => h, fun _ => pt_val h.ofF he⟩
/-- and, or: as a value, as a test -/
theorem snd_Bo {W : WX} {c : Cc} {X : Cx} (G : Good T cx W k c X) {f : Expr → Option E} (hf : ∀ e e', f e = some e' → PE X e (tE T cx W e') ∧ (tstOk e' = true → PT X e (tT T cx W e'))) (op : BoolOp) {pos : Pos} :
    ∀ {es : List Expr} {e' : E}, cBo f op es = some e' → PE X (.BoolOp op es pos) (tE T cx W e') ∧ (tstOk e' = true → PW X (.BoolOp op es pos) (tT T cx W e'))
  | [], e', h => by cases h
  | [a], e', h => by
    obtain ⟨h1, h2⟩ := hf a e' h
    refine ⟨pe_one h1, fun ht => ?_⟩
    cases op with
    | And => exact pw_and1 (h2 ht)
    | Or => exact pw_or1 (h2 ht)
  | a :: b :: r, e', h => by
    unfold cBo at h
    split at h
    · rename_i a' r' h1 h2
      obtain ⟨i1, i2⟩ := hf a a' h1
      obtain ⟨j1, j2⟩ := snd_Bo G hf op (pos := pos) h2
      cases op with
      | And =>
        cases Option.some.inj h
        refine ⟨pe_andX i1 j1, fun ht => ?_⟩
        have ht : (tstOk a' && tstOk r') = true := ht
        rw [Bool.and_eq_true] at ht
        exact pw_andX (i2 ht.1) (j2 ht.2)
      | Or =>
        cases Option.some.inj h
        refine ⟨pe_orX G i1 j1, fun ht => ?_⟩
        have ht : (tstOk a' && tstOk r') = true := ht
        rw [Bool.and_eq_true] at ht
        exact pw_orX (i2 ht.1) (j2 ht.2)
    · cases h
theorem tst_of {o : Option E} {e' : E} (h : tst o = some e') : o = some e' ∧ tstOk e' = true := by
  unfold tst at h
  split at h
  · split at h
    · rename_i hc
      cases Option.some.inj h
      exact ⟨rfl, hc⟩
    · cases h
  · cases h
theorem notSet_of {e : Expr} (h : notSet e = true) : ∀ env x, foldedSetIterable e env x = pure x := by
  intro env x
  cases e <;> first | rfl | (simp [notSet] at h)

/-! ### calls by keywords -/
def esApp : Es → Es → Es
  | .nil, b => b
  | .cons e a, b => .cons e (esApp a b)
  | .star e a, b => .star e (esApp a b)
theorem cEx_app {f : Expr → Option E} : ∀ {es fs : List Expr} {e' : Es}, cEx f (es ++ fs) = some e' → ∃ e1 e2, cEx f es = some e1 ∧ cEx f fs = some e2 ∧ e' = esApp e1 e2
  | [], fs, e', h => ⟨.nil, e', rfl, h, rfl⟩
  | a :: r, fs, e', h => by
    obtain ⟨hn, a', r', h1, h2, rfl⟩ := cEx_cons (show cEx f (a :: (r ++ fs)) = some e' from h)
    obtain ⟨e1, e2, q1, q2, rfl⟩ := cEx_app h2
    refine ⟨.cons a' e1, e2, ?_, q2, rfl⟩
    unfold cEx
    rw [hn, h1, q1]
    rfl
theorem evx_app : ∀ (a b : Es) (ρ : Rho) (s : Sto), evx cx (esApp a b) ρ s = (evx cx a ρ s).bind fun xs s => (evx cx b ρ s).bind fun ys s => .ok (xs ++ ys) s
  | .nil, b, ρ, s => by
    show evx cx b ρ s = (evx cx b ρ s).bind fun ys s => .ok ys s
    cases evx cx b ρ s <;> rfl
  | .cons e a, b, ρ, s => by
    simp only [esApp, evx]
    cases ev cx e ρ s with
    | ok x s1 =>
      simp only [R.bind_ok]
      rw [evx_app a b ρ s1]
      cases evx cx a ρ s1 with
      | ok xs s2 =>
        simp only [R.bind_ok]
        cases evx cx b ρ s2 <;> rfl
      | exc c as s2 => rfl
      | err => rfl
    | exc c as s1 => rfl
    | err => rfl
  | .star e a, b, ρ, s => rfl
theorem kwVals_cons (kw : Keyword) (r : List Keyword) : kwVals (kw :: r) = kw.value :: kwVals r := by cases kw; rfl
theorem pk_X {W : WX} {X : Cx} {f : Expr → Option E} (hf : ∀ e e', f e = some e' → PE X e (tE T cx W e')) : ∀ {kws : List Keyword} {es' : Es}, cEx f (kwVals kws) = some es' → PK X kws (tX T cx W es')
  | [], es', h => by
    cases Option.some.inj h
    refine ⟨fun pos pins s σ H Q I q => pk_nil.run pos pins s σ H Q I ?_⟩
    obtain ⟨Z, μ, s, ρ, st, rh, po⟩ := q
    exact po μ H [] (Nx.refl _ _ _) st .nil
  | ⟨nm, e, p⟩ :: r, es', h => by
    obtain ⟨hn, e', r', h1, h2, rfl⟩ := cEx_cons (show cEx f (e :: kwVals r) = some es' from h)
    refine ⟨fun pos pins s σ H Q I q => (pk_cons (nm := nm) (kpos := p) (hf e e' h1) (pk_X hf h2)).run pos pins s σ H Q I ?_⟩
    obtain ⟨Z, μ, s, ρ, st, rh, po⟩ := q
    unfold evx at po
    refine ⟨Z, μ, s, ρ, st, rh, po.bind fun x s1 μ1 H1 u e1 nx1 st1 xo po1 => ?_⟩
    refine ⟨Z, μ1, s1, ρ, st1, rh.nx nx1, po1.bind fun xs s2 μ2 H2 us e2 nx2 st2 xso po2 => ?_⟩
    exact po2 μ2 H2 (u :: us) (Nx.refl _ _ _) st2 (.cons (XvOk.nx nx2 xo) xso)
theorem kw_facts {env : Env} {pos : Pos} : ∀ {kws : List Keyword} {ks : List Str}, kwNames kws = some ks → (backToKw pos (keywordEach kws env)).all (·.1.isSome) = true ∧ (backToKw pos (keywordEach kws env)).filterMap (·.1) = ks ∧ (backToKw pos (keywordEach kws env)).any (·.1.isNone) = false
  | [], ks, h => by cases Option.some.inj h; exact ⟨rfl, rfl, rfl⟩
  | ⟨some x, e, p⟩ :: r, ks, h => by
    unfold kwNames at h
    cases h1 : kwNames r with
    | none => rw [h1] at h; cases h
    | some ks' =>
      rw [h1] at h
      cases Option.some.inj h
      obtain ⟨q1, q2, q3⟩ := kw_facts (env := env) (pos := pos) h1
      refine ⟨?_, ?_, ?_⟩
      · show ((some x).isSome && _) = true
        exact q1
      · show x :: _ = _
        rw [← q2]
        rfl
      · show ((some x).isNone || _) = false
        exact q3
  | ⟨none, e, p⟩ :: r, ks, h => by simp [kwNames] at h
theorem XvsOk.get {K : PySem.W.Frag} {Z μ : List Addr} {s : Sto} {H : Hp} : ∀ {us : List V} {xs : List Xv} {i : Nat} {x : Xv}, XvsOk K Z μ s H us xs → xs[i]? = some x → ∃ u, us[i]? = some u ∧ XvOk K Z μ s H u x
  | _, _, _, _, .nil, e => by simp at e
  | _, _, 0, _, .cons h _, e => by cases Option.some.inj e; exact ⟨_, rfl, h⟩
  | _, _, i + 1, _, .cons _ t, e => XvsOk.get (i := i) t e
theorem pick_vals {K : PySem.W.Frag} {Z μ : List Addr} {s : Sto} {H : Hp} {us : List V} {xs : List Xv} (h : XvsOk K Z μ s H us xs) {ws : List Value} (hv : Vals us ws) : ∀ {perm : List Nat} {ys : List Xv}, pick xs perm = some ys → ∃ vs zs, pick ws perm = some zs ∧ XvsOk K Z μ s H vs ys ∧ Vals vs zs
  | [], ys, e => by
    cases Option.some.inj e
    exact ⟨[], [], rfl, .nil, .nil⟩
  | i :: is, ys, e => by
    unfold pick at e
    split at e
    · rename_i x ys' e1 e2
      cases Option.some.inj e
      obtain ⟨vs, zs, q1, q2, q3⟩ := pick_vals h hv e2
      have g := h.get e1
      obtain ⟨u, g1, g2⟩ := g
      obtain ⟨w, w1, w2⟩ := hv.get g1
      refine ⟨u :: vs, w :: zs, ?_, .cons g2 q2, .cons w2 q3⟩
      unfold pick
      rw [w1, q1]
    · cases e
theorem XvsOk.append {K : PySem.W.Frag} {Z μ : List Addr} {s : Sto} {H : Hp} : ∀ {us ws : List V} {xs ys : List Xv}, XvsOk K Z μ s H us xs → XvsOk K Z μ s H ws ys → XvsOk K Z μ s H (us ++ ws) (xs ++ ys)
  | _, _, _, _, .nil, h => h
  | _, _, _, _, .cons a t, h => .cons a (XvsOk.append t h)
theorem pick_length {α : Type} {xs : List α} : ∀ {perm : List Nat} {ys : List α}, pick xs perm = some ys → ys.length = perm.length
  | [], ys, e => by cases Option.some.inj e; rfl
  | i :: is, ys, e => by
    unfold pick at e
    split at e
    · rename_i x ys' e1 e2
      cases Option.some.inj e
      rw [List.length_cons, List.length_cons, pick_length e2]
    · cases e
theorem pe_callKX {W : WX} {c : Cc} {X : Cx} (G : Good T cx W k c X) {x : Str} {p pos : Pos} {f : Nat} {ps ks : List Str} {perm : List Nat} {fe : Expr → Option E} {es : List Expr} {kws : List Keyword} {es' : Es} (hf : ∀ e e', fe e = some e' → PE X e (tE T cx W e')) (hg : isGlb (c.sc.names.lookup x) = true) (hbn : badName x = false) (hl : c.fid.lookup x = some (f, ps))
    (hks : kwNames kws = some ks) (he : cEx fe (es ++ kwVals kws) = some es') (hkw : (f, es.length, ks, perm) ∈ c.kwt) (hpl : perm.length = ps.length) : PE X (.Call (.Name x p) es kws pos) (tE T cx W (.callK f es' perm)) := by
  obtain ⟨a, fd, hm, hk, F, hb, hB⟩ := G.fns x f ps hl
  obtain ⟨e1, e2, he1, he2, rfl⟩ := cEx_app he
  have hBk := hB _ _ _ hkw
  have hklen : ∀ {r : List Keyword} {q : List Str}, kwNames r = some q → (kwVals r).length = q.length := by
    intro r
    induction r with
    | nil => intro q h; cases Option.some.inj h; rfl
    | cons kw r ih =>
      intro q h
      obtain ⟨nm, e, pp⟩ := kw
      cases nm with
      | none => simp [kwNames] at h
      | some y =>
        unfold kwNames at h
        cases h1 : kwNames r with
        | none => rw [h1] at h; cases h
        | some ks' =>
          rw [h1] at h
          cases Option.some.inj h
          rw [kwVals_cons, List.length_cons, List.length_cons, ih h1]
  -- the call itself, by values
  have run : ∀ (pins : List (Addr × Obj)) (s : Shared) (σ : L2.St) (H : Hp) (Q : VK) (us zs : List V) (uv wv : List Value) (Z μ : List Addr) (t : Sto) (xs ys : List Xv), Inv X pins σ H s → Vals us uv → Vals zs wv → StOk T.K Z μ t H → XvsOk T.K Z μ t H us xs → XvsOk T.K Z μ t H zs ys → us.length = es.length → zs.length = ks.length →
      Po T W σ Z μ t H (callP cx.call f perm (xs ++ ys) t) (XOk T Z) Q → wpAny (model X.prog X.w) X.A (call (.ref a) uv (ks.zip wv)) (EP X pins σ Q) X.xe s := by
    intro pins s σ H Q us zs uv wv Z μ t xs ys I r1 r2 st xo yo l1 l2 po
    unfold callP at po
    cases hp : pick (xs ++ ys) perm with
    | none => rw [hp] at po; exact absurd po fun z => z
    | some q =>
      rw [hp] at po
      obtain ⟨vs, qs, q1, q2, q3⟩ := pick_vals (xo.append yo) (r1.append r2) hp
      have hb2 : BindsTo s fd ⟨uv, ks.zip wv⟩ (ps.zip qs) := hBk s uv wv qs (by rw [← r1.length]; exact l1) (by rw [← r2.length]; exact l2) q1
      have sp : spX T cx f ps vs H Q (WE W σ) := ⟨σ, Z, μ, t, q, by rw [pick_length hp]; exact hpl, st, q2, po.wish⟩
      refine wpAny_call (codeAny_mono (F.run X.A X.stack s H ⟨uv, ks.zip wv⟩ qs vs Q (WE W σ) G.room I.env0 hb2 q3 sp) fun r s' hq => ?_)
      cases r with
      | error e => exact passAt G.takes σ pins H s e s' I hq
      | ok fl =>
        cases fl with
        | ret u => exact I.after hq
        | next => exact False.elim hq
        | brk => exact False.elim hq
        | cont => exact False.elim hq
  refine ⟨fun pins s σ H Q I q => ?_⟩
  obtain ⟨Z, μ, t, ρ, st, rh, po⟩ := q
  unfold ev at po
  rw [evx_app] at po
  obtain ⟨k1, k2, k3⟩ := kw_facts (env := X.env) (pos := pos) hks
  refine wpAny_Call_Name_kw (ld_glob I (isGlb_of G hg) hm ?_ (badName_of hbn).1)
  have hPK := pk_X (W := W) (X := X) hf he2
  have po : Po T W σ Z μ t H ((evx cx e1 ρ t).bind fun xs s => (evx cx e2 ρ s).bind fun ys s => callP cx.call f perm (xs ++ ys) s) (XOk T Z) Q := by
    have e0 : (((evx cx e1 ρ t).bind fun xs s => (evx cx e2 ρ s).bind fun ys s => R.ok (xs ++ ys) s).bind (callP cx.call f perm)) = ((evx cx e1 ρ t).bind fun xs s => (evx cx e2 ρ s).bind fun ys s => callP cx.call f perm (xs ++ ys) s) := by
      cases evx cx e1 ρ t with
      | ok xs s1 =>
        simp only [R.bind_ok]
        cases evx cx e2 ρ s1 <;> rfl
      | exc c as s1 => rfl
      | err => rfl
    rw [e0] at po
    exact po
  cases es with
  | nil =>
    cases Option.some.inj he1
    have po : Po T W σ Z μ t H ((evx cx e2 ρ t).bind fun ys s => callP cx.call f perm ([] ++ ys) s) (XOk T Z) Q := po
    refine PySem.W.callWith_KW0 (h₀ := X.base) I.ok.mod.kin hk k1 (thn (hPK.run pos pins s σ H (fun us H1 => ∃ Z μ1 t1 ys, StOk T.K Z μ1 t1 H1 ∧ XvsOk T.K Z μ1 t1 H1 us ys ∧ ys.length = ks.length ∧ Po T W σ Z μ1 t1 H1 (callP cx.call f perm ([] ++ ys) t1) (XOk T Z) Q) I ⟨Z, μ, t, ρ, st, rh, po.bind fun ys t1 μ1 H1 us ey nx1 st1 yo po1 => ⟨Z, μ1, t1, ys, st1, yo, (evx_length he2 ey).trans (hklen hks), po1⟩⟩) fun ws s2 ⟨zs, H2, I2, rz, Z, μ1, t1, ys, st1, yo, ly, po1⟩ => ⟨I2.kIn, ?_⟩) ?_
    · rw [k2]
      exact run pins s2 σ H2 Q [] zs [] ws Z μ1 t1 [] ys I2 .nil rz st1 .nil yo rfl (by rw [yo.length]; exact ly) po1
    · rw [k3]
      rfl
  | cons a0 r0 =>
    obtain ⟨hn, a1, r1, ha1, hr1, rfl⟩ := cEx_cons he1
    have hPA := pa_X (W := W) (X := X) hf he1
    refine PySem.W.callWith_KW (h₀ := X.base) I.ok.mod.kin hk k1 (thn (hPA.run pos pins s σ H (fun us H1 => ∃ Z μ1 t1 xs, StOk T.K Z μ1 t1 H1 ∧ RhoOk T.K Z μ1 t1 H1 ρ σ ∧ XvsOk T.K Z μ1 t1 H1 us xs ∧ xs.length = (a0 :: r0).length ∧ Po T W σ Z μ1 t1 H1 ((evx cx e2 ρ t1).bind fun ys s => callP cx.call f perm (xs ++ ys) s) (XOk T Z) Q) I ⟨Z, μ, t, ρ, st, rh, po.bind fun xs t1 μ1 H1 us ex nx1 st1 xo po1 => ⟨Z, μ1, t1, xs, st1, rh.nx nx1, xo, evx_length he1 ex, po1⟩⟩) fun uv s1 ⟨us, H1, I1, rz1, Z, μ1, t1, xs, st1, rh1, xo, lx, po1⟩ => ?_) ?_ (star_no hn)
    · refine thn (hPK.run pos pins s1 σ H1 (fun zs H2 => ∃ Z μ2 t2 xs ys, StOk T.K Z μ2 t2 H2 ∧ XvsOk T.K Z μ2 t2 H2 us xs ∧ XvsOk T.K Z μ2 t2 H2 zs ys ∧ xs.length = (a0 :: r0).length ∧ ys.length = ks.length ∧ Po T W σ Z μ2 t2 H2 (callP cx.call f perm (xs ++ ys) t2) (XOk T Z) Q) I1 ⟨Z, μ1, t1, ρ, st1, rh1, po1.bind fun ys t2 μ2 H2 zs ey nx2 st2 yo po2 => ⟨Z, μ2, t2, xs, ys, st2, xo.nx nx2, yo, lx, (evx_length he2 ey).trans (hklen hks), po2⟩⟩) fun ws s2 ⟨zs, H2, I2, rz, Z, μ2, t2, xs, ys, st2, xo2, yo, lx, ly, po2⟩ => ⟨I2.kIn, ?_⟩
      rw [k2]
      exact run pins s2 σ H2 Q us zs uv ws Z μ2 t2 xs ys I2 rz1 rz st2 xo2 yo (by rw [xo2.length]; exact lx) (by rw [yo.length]; exact ly) po2
    · rw [k3, Bool.or_false, star_no hn]
      show (false || _) = false
      exact plain_all hr1
end
end Mi
end

section
set_option maxRecDepth 100000
set_option maxHeartbeats 2000000
/-! MiSet: set(..) of plain data, and sorted(set(..)): the members as a list of keys with their values. -/
namespace Mi
open PySem PySem.Spec PyProof.Rows L2
/-- the set at a: its members in the table's order, each with its value -/
structure SetI {κ : Type} (w : World) (hash : κ → Int) (ok : Heap → κ → Value → Prop) (tb : SetTable → List Int → Prop) (h : Heap) (a : Addr) (L : List (κ × Value)) : Prop where
  ex : ∃ o es ep t, h.get? a = some o ∧ o.ExactSet ∧ o.data = .set es ep t ∧ es.toList = L.map (fun p => (hash p.1, p.2)) ∧ tb t (L.map fun p => hash p.1) ∧ Ris t.place.toList ∧ (w.params.followText "set-order" = true ∨ t.led = true) ∧ t.fits es.size = true ∧ es.size < scanBound
  nd : (L.map (·.1)).Nodup
  ok : ∀ p ∈ L, ok h p.1 p.2
/-- what is told of a set behind an item more -/
def Plus {κ : Type} (L : List (κ × Value)) (k : κ) (v : Value) (L' : List (κ × Value)) : Prop := (k ∈ L.map (·.1) ∧ L' = L) ∨ (k ∉ L.map (·.1) ∧ L'.Perm ((k, v) :: L))
/-- .. of ints and texts -/
abbrev SetS (w : World) : Heap → Addr → List (Key × Value) → Prop := SetI w (keyH w) (fun _ k v => RelV (kV k) v) (fun _ _ => True)
section
variable {P : Program} {w : World} {A : Around} {E : Value → Shared → Prop} {s : Shared} {a : Addr} {L : List (Key × Value)}
theorem scan_ents {L : List (Key × Value)} (hk : ∀ p ∈ L, RelV (kV p.1) p.2) : ElemsOf (mixKind P w) (L.map fun p => (keyH w p.1, p.2)) := fun e he => by
  obtain ⟨p, hp, rfl⟩ := List.mem_map.mp he
  exact ⟨⟨p.1, kV_is (hk p hp), rfl⟩, key_scan (hk p hp)⟩
theorem kV_uniq {k j : Key} {v : Value} (h1 : RelV (kV k) v) (h2 : RelV (kV j) v) : k = j := by
  cases k with
  | inl i =>
    obtain ⟨t, rfl⟩ := h1
    cases j with
    | inl i' => obtain ⟨t', e⟩ := h2; injection e with e _; rw [e]
    | inr x' => obtain ⟨t', e⟩ := h2; cases e
  | inr x =>
    obtain ⟨t, rfl⟩ := h1
    cases j with
    | inl i' => obtain ⟨t', e⟩ := h2; cases e
    | inr x' => obtain ⟨t', e⟩ := h2; injection e with e _; rw [e]
theorem perm_back {α β : Type} {f : α → β} {xs ys : List β} (h : xs.Perm ys) : ∀ L : List α, ys = L.map f → ∃ L' : List α, xs = L'.map f ∧ L'.Perm L := by
  induction h with
  | nil => intro L e; exact ⟨[], rfl, by cases L with | nil => exact .refl _ | cons a l => simp at e⟩
  | cons x _ ih =>
    intro L e
    cases L with
    | nil => simp at e
    | cons a l =>
      simp only [List.map_cons, List.cons.injEq] at e
      obtain ⟨L', e1, p1⟩ := ih l e.2
      exact ⟨a :: L', by rw [List.map_cons, e.1, e1], p1.cons a⟩
  | swap x y l =>
    intro L e
    match L, e with
    | a :: b :: l', e =>
      simp only [List.map_cons, List.cons.injEq] at e
      exact ⟨b :: a :: l', by rw [List.map_cons, List.map_cons, e.1, e.2.1, e.2.2], .swap a b l'⟩
  | trans _ _ ih1 ih2 =>
    intro L e
    obtain ⟨L2, e2, p2⟩ := ih2 L e
    obtain ⟨L1, e1, p1⟩ := ih1 L2 e2
    exact ⟨L1, e1, p1.trans p2⟩
theorem scan_tail {g : Bool → Sem Unit} (hg : ∀ (b : Bool) (s1 : Shared) (Q' : Unit → Shared → Prop), Q' () s1 → wpAny (model P w) A (g b) Q' E s1) {o : Obj} {es : Array (Int × Value)} {ep : Nat} {t : SetTable}
    (ho : s.heap.get? a = some o) (hex : o.ExactSet) (hd : o.data = .set es ep t) {es1 : Array (Int × Value)} {t2 : SetTable} {L1 L0 : List (Key × Value)} (e1 : es1.toList = L1.map fun p => (keyH w p.1, p.2)) (p1 : L1.Perm L0) (n0 : (L0.map (·.1)).Nodup) (k0 : ∀ p ∈ L0, RelV (kV p.1) p.2)
    (hb1 : es1.size < scanBound) (hf2 : t2.fits es1.size = true) (hr : Ris t2.place.toList) (hl : w.params.followText "set-order" = true ∨ t2.led = true) {wd : Bool} {Z : Option Bool → Shared → Prop}
    (hZ : ∀ h' L', Heap.SameBut a s.heap h' → SetS w h' a L' → L'.Perm L0 → Z (some true) { s with heap := h' }) :
    wpAny (model P w) A (do
        storeSet a es1 t2
        if (!wd && t2.tooFull) = true then do
            g (relayAll t2 es1 (SetTable.grown es1.size)).2.2
            storeSet a (relayAll t2 es1 (SetTable.grown es1.size)).1 (relayAll t2 es1 (SetTable.grown es1.size)).2.1
            pure (some true)
          else pure (some true)) Z E s := by
  have mk : ∀ {h' : Heap} {L' : List (Key × Value)} {es' : Array (Int × Value)} {ep' : Nat} {t' : SetTable} {o' : Obj}, h'.get? a = some o' → o'.ExactSet → o'.data = .set es' ep' t' → es'.toList = L'.map (fun p => (keyH w p.1, p.2)) → Ris t'.place.toList → (w.params.followText "set-order" = true ∨ t'.led = true) → t'.fits es'.size = true → es'.size < scanBound → L'.Perm L0 → SetS w h' a L' :=
    fun a1 a2 a3 a4 a5 a6 a7 a8 pm => ⟨⟨_, _, _, _, a1, a2, a3, a4, trivial, a5, a6, a7, a8⟩, (pm.map _).nodup_iff.mpr n0, fun p hp => k0 p (pm.mem_iff.mp hp)⟩
  refine wpAny_bind (wpAny_storeSet_of ho hd ?_ (fits_of_scanBound hb1))
  have ho1 := store_at (es' := es1) (t' := t2) ho hd
  have sb1 := Heap.SameBut.update s.heap a (Obj.putSet es1 t2)
  split
  · have pm := relayAll_perm t2 es1 (SetTable.grown es1.size)
    have hf3 := relayAll_fits t2 es1 (SetTable.grown es1.size)
    have hr3 := relayAll_ris t2 es1 (SetTable.grown es1.size)
    have hl3 := relayAll_led t2 es1 (SetTable.grown es1.size)
    generalize relayAll t2 es1 (SetTable.grown es1.size) = Y at pm hf3 hr3 hl3 ⊢
    obtain ⟨es2, t3, gave⟩ := Y
    dsimp only at pm hf3 hr3 hl3 ⊢
    have hsz : es2.size = es1.size := by rw [← Array.length_toList, pm.length_eq, Array.length_toList]
    obtain ⟨L2', e2, p2⟩ := perm_back pm L1 e1
    refine wpAny_bind (hg _ _ _ (wpAny_bind (wpAny_storeSet_of ho1 rfl ?_ (fits_of_scanBound (by rw [hsz]; exact hb1)))))
    exact wpAny_pure (hZ _ L2' (sb1.trans (Heap.SameBut.update _ a _)) (mk (store_at (es' := es2) (t' := t3) ho1 rfl) hex rfl e2 hr3 (hl.imp id fun z => by rw [hl3]; exact z) hf3 (by rw [hsz]; exact hb1) (p2.trans p1)) (p2.trans p1))
  · exact wpAny_pure (hZ _ L1 sb1 (mk ho1 hex rfl e1 hr hl hf2 hb1 p1) p1)
/-- an item more, by the scan -/
theorem scan_add {k : Key} {v : Value} {Q : Bool → Shared → Prop} (R : SetS w s.heap a L) (room : L.length + 1 < scanBound) (rv : RelV (kV k) v)
    (hQ : ∀ (b : Bool) h' L', Heap.SameBut a s.heap h' → SetS w h' a L' → Plus L k v L' → Q b { s with heap := h' }) : wpAny (model P w) A (setAddHashed a v (keyH w k)) Q E s := by
  obtain ⟨⟨o, es, ep, t, ho, hex, hd, he, _, hr, hl, hf, hb⟩, nd, hk⟩ := R
  have hkey : (mixKind P w).is k v = true := kV_is rv
  have hel : ElemsOf (mixKind P w) es.toList := by rw [he]; exact scan_ents hk
  have hsz0 : es.size = L.length := by rw [← Array.length_toList, he, List.length_map]
  unfold setAddHashed setAddHashedIn
  refine wpAny_holding (wpAny_bind (wpAny_setState_of ho hd hf ?_))
  dsimp only
  rw [byScan_of (key_scan rv) hb hel]
  simp only [↓reduceIte]
  unfold setAddByScan
  refine wpAny_bind (wpAny_bind (wpAny_rule (wpAny_bind (wpAny_setScan_of hkey ho hd hf hel ?_))))
  cases hfi : List.findIdx? (fun e => (mixKind P w).is k e.2) es.toList with
  | some j =>
    dsimp only
    obtain ⟨hj, pj, _⟩ := List.findIdx?_eq_some_iff_getElem.mp hfi
    refine wpAny_pure (wpAny_pure (hQ _ s.heap L (Heap.SameBut.refl a s.heap) ⟨⟨o, es, ep, t, ho, hex, hd, he, trivial, hr, hl, hf, hb⟩, nd, hk⟩ (.inl ⟨?_, rfl⟩)))
    have hm : es.toList[j] ∈ L.map fun p => (keyH w p.1, p.2) := he ▸ List.getElem_mem hj
    obtain ⟨p, hp, e⟩ := List.mem_map.mp hm
    have pj' : (mixKind P w).is k p.2 = true := by
      have : p.2 = es.toList[j].2 := by rw [← e]
      rw [this]
      exact pj
    exact List.mem_map.mpr ⟨p, hp, (mixKind P w).inj p.2 p.1 k (kV_is (hk p hp)) pj'⟩
  | none =>
    dsimp only
    have hnk : k ∉ L.map (·.1) := fun z => by
      obtain ⟨p, hp, e⟩ := List.mem_map.mp z
      have c := List.findIdx?_eq_none_iff.mp hfi (keyH w p.1, p.2) (by rw [he]; exact List.mem_map.mpr ⟨p, hp, rfl⟩)
      have c2 : (mixKind P w).is k p.2 = true := by rw [← e]; exact kV_is (hk p hp)
      rw [c2] at c
      cases c
    have pm := layNew_perm t es (keyH w k) v
    have hf1 := layNew_fits t es (keyH w k) v
    have hr1 := layNew_ris t es (keyH w k) v hr
    have hl1 := layNew_led t es (keyH w k) v
    generalize layNew t es (keyH w k) v = Z at pm hf1 hr1 hl1 ⊢
    obtain ⟨es1, t1, wasDummy, gave⟩ := Z
    dsimp only at pm hf1 hr1 hl1 ⊢
    rw [Array.toList_push, he] at pm
    obtain ⟨L1, e1, p1⟩ := perm_back (f := fun p : Key × Value => (keyH w p.1, p.2)) (pm.trans (List.perm_append_singleton _ _)) ((k, v) :: L) rfl
    have hsz : es1.size = L.length + 1 := by rw [← Array.length_toList, e1, List.length_map, p1.length_eq, List.length_cons]
    have hb1 : es1.size < scanBound := by rw [hsz]; exact room
    have n0 : (((k, v) :: L).map (·.1)).Nodup := List.nodup_cons.mpr ⟨hnk, nd⟩
    have k0 : ∀ p ∈ (k, v) :: L, RelV (kV p.1) p.2 := fun p hp => by
      rcases List.mem_cons.mp hp with rfl | hp
      · exact rv
      · exact hk p hp
    have hled : w.params.followText "set-order" = true ∨ t1.led = true := hl.imp id fun z => by rw [hl1]; exact z
    have fin : ∀ h' L', Heap.SameBut a s.heap h' → SetS w h' a L' → L'.Perm ((k, v) :: L) → wpAny (model P w) A (pure true : Sem Bool) Q E { s with heap := h' } := fun h' L' sb r pm' => wpAny_pure (hQ true h' L' sb r (.inr ⟨hnk, pm'⟩))
    have gw : ∀ (b : Bool) (s1 : Shared) (Q' : Unit → Shared → Prop), Q' () s1 → wpAny (model P w) A (match b with | true => rule "set.scan.the-table-gave-way" | false => pure ()) Q' E s1 := fun b s1 Q' q => by
      cases b
      · exact wpAny_pure q
      · exact wpAny_rule q
    refine wpAny_bind (gw _ _ _ ?_)
    split
    · refine wpAny_bind ?_
      rw [hashByValue_scannable 8 (key_scan rv)]
      refine wpAny_pure ?_
      refine scan_tail gw ho hex hd e1 p1 n0 k0 hb1 ?_ ?_ ?_ fin
      · split
        · exact hf1
        · exact SetTable.fits_plain_off hf1
      · split <;> exact hr1
      · split <;> exact hled
    · refine wpAny_bind (wpAny_pure ?_)
      simp only [↓reduceIte]
      exact scan_tail gw ho hex hd e1 p1 n0 k0 hb1 hf1 hr1 hled fin
end
end Mi
end

section
set_option maxRecDepth 100000
set_option maxHeartbeats 3200000
/-! MiSet2: set(xs), whatever the items are, by what an item more does. -/
namespace Mi
open PySem PySem.Spec PyProof.Rows L2
def Keeps (h0 h : Heap) : Prop := ∀ b o, h0.get? b = some o → h.get? b = some o
/-- the set at S may be given items -/
structure Adds (P : Program) (w : World) (A : Around) {κ : Type} (S : Addr) (h0 : Heap) (cap : Nat) (ok : κ → Value → Prop) (J : Heap → List (κ × Value) → Prop) : Prop where
  nd : ∀ h L, J h L → (L.map (·.1)).Nodup
  keep : ∀ h h' L, J h L → (∀ o, h.get? S = some o → h'.get? S = some o) → Keeps h0 h' → J h' L
  add : ∀ (E : Value → Shared → Prop) (Q : Bool → Shared → Prop) (s : Shared) (L : List (κ × Value)) (k : κ) (v : Value), Keeps h0 s.heap → J s.heap L → ok k v → L.length < cap → (k ∉ L.map (·.1) → L.length + 1 < cap) →
    (∀ b h' tk L', Heap.SameBut S s.heap h' → s.toks ≤ tk → J h' L' → Plus L k v L' → Q b { s with heap := h', toks := tk }) → wpAny (model P w) A (setAdd S v) Q E s
/-- the members behind i items -/
structure Has {κ : Type} (ks : List (κ × Value)) (i : Nat) (L : List (κ × Value)) : Prop where
  sub : ∀ p ∈ L, p ∈ ks.take i
  all : ∀ p ∈ ks.take i, p.1 ∈ L.map (·.1)
theorem Has.step {κ : Type} {ks L L' : List (κ × Value)} {i : Nat} {x : κ × Value} (g : Has ks i L) (h : ks[i]? = some x) (pl : Plus L x.1 x.2 L') : Has ks (i + 1) L' := by
  have et : ks.take (i + 1) = ks.take i ++ [x] := take_next h
  rcases pl with ⟨hm, rfl⟩ | ⟨hn, pm⟩
  · refine ⟨fun p hp => by rw [et]; exact List.mem_append_left _ (g.sub p hp), fun p hp => ?_⟩
    rw [et] at hp
    rcases List.mem_append.mp hp with hp | hp
    · exact g.all p hp
    · rw [List.mem_singleton.mp hp]; exact hm
  · refine ⟨fun p hp => ?_, fun p hp => ?_⟩
    · rw [et]
      rcases List.mem_cons.mp (pm.mem_iff.mp hp) with rfl | hp
      · exact List.mem_append_right _ (List.mem_singleton.mpr rfl)
      · exact List.mem_append_left _ (g.sub p hp)
    · rw [et] at hp
      rw [(pm.map (·.1)).mem_iff, List.map_cons]
      rcases List.mem_append.mp hp with hp | hp
      · exact List.mem_cons_of_mem _ (g.all p hp)
      · rw [List.mem_singleton.mp hp]; exact List.mem_cons_self ..
section
variable {P : Program} {w : World} {A : Around} {E : Value → Shared → Prop} {s : Shared} {κ : Type}
theorem update_loop {I S : Addr} {fp wr : List Addr} {G : Array GenState → Array GenState → Prop} {n cap : Nat} {Pv : Nat → Value → Prop} {St : Nat → Shared → Prop} {Z : Result → Shared → Prop} {h0 : Heap} {ok : κ → Value → Prop} {J : Heap → List (κ × Value) → Prop}
    (W : WalksS P w A.in1 I fp wr G n Pv St) (D : Adds P w A.in1 S h0 cap ok J) (hSf : S ∉ fp) (ks : List (κ × Value)) (hn : n = ks.length) (hcap : ∀ M : List κ, M.Nodup → (∀ x ∈ M, x ∈ ks.map (·.1)) → M.length < cap) (hval : ∀ i v, Pv i v → ∃ p, ks[i]? = some p ∧ v = p.2)
    (hk : ∀ p ∈ ks, ok p.1 p.2) (hS0 : h0.get? S = none) (hw0 : ∀ b ∈ wr, h0.get? b = none) : ∀ (m i : Nat) (s : Shared), n - i = m → i ≤ n → St i s → Keeps h0 s.heap → (∃ L, J s.heap L ∧ Has ks i L) →
      (∀ s' L, Moved (S :: wr) G s s' → J s'.heap L → Has ks n L → Keeps h0 s'.heap → Z (.ok (.ret .none)) s') → codeAny (model P w) A (.builtin "set.update.loop" ⟨[.ref S, .ref I], []⟩) Z s := by
  have hSw : S ∉ wr := fun h => hSf (W.sub _ h)
  have more : ∀ b ∈ wr, b ∈ S :: wr := fun b hb => List.mem_cons_of_mem _ hb
  have kept : ∀ {s s' : Shared}, Moved wr G s s' → Keeps h0 s.heap → Keeps h0 s'.heap := fun hm hkp b o e => hm.heap b o (fun hb => by rw [hw0 b hb] at e; cases e) (hkp b o e)
  intro m
  induction m with
  | zero =>
    intro i s hm0 hi hst hkp ⟨L, hJ, g⟩ hZ
    obtain rfl : i = n := by omega
    refine codeAny_builtin PyProof.Rows.F.entry_set_update_loop ?_
    rw [Around.under_plainId PyProof.Rows.F.plain_set_update_loop _]
    show wpAny _ A.in1 (pyNext (.ref I) >>= _) _ _ s
    refine wpAny_bind (W.done s _ _ hst fun s' hm => ?_)
    show wpAny _ A.in1 (ret Value.none) _ _ s'
    exact wpAny_pure (hZ s' L (hm.mono more) (D.keep _ _ L hJ (fun o e => hm.heap S o hSw e) (kept hm hkp)) g (kept hm hkp))
  | succ m ih =>
    intro i s hm0 hi hst hkp ⟨L, hJ, g⟩ hZ
    have hlt : i < n := by omega
    refine codeAny_builtin PyProof.Rows.F.entry_set_update_loop ?_
    rw [Around.under_plainId PyProof.Rows.F.plain_set_update_loop _]
    show wpAny _ A.in1 (pyNext (.ref I) >>= _) _ _ s
    refine wpAny_bind (W.item i s _ _ hlt hst fun v s' hP hst' hm => ?_)
    obtain ⟨p, hp, rfl⟩ := hval i v hP
    have hkp' := kept hm hkp
    have hJ' : J s'.heap L := D.keep _ _ L hJ (fun o e => hm.heap S o hSw e) hkp'
    have hpm : p ∈ ks := List.mem_of_getElem? hp
    have hsub : ∀ x ∈ L.map (·.1), x ∈ ks.map (·.1) := fun x hx => by
      obtain ⟨q, hq, rfl⟩ := List.mem_map.mp hx
      exact List.mem_map.mpr ⟨q, List.mem_of_mem_take (g.sub q hq), rfl⟩
    show wpAny _ A.in1 (holding [p.2] (setAdd S p.2) >>= _) _ _ s'
    refine wpAny_bind (wpAny_holding ?_)
    refine D.add _ _ s' L p.1 p.2 hkp' hJ' (hk p hpm) (by have := hcap _ (D.nd _ _ hJ') hsub; rwa [List.length_map] at this) (fun hnot => ?_) fun b h' tk L' hsb htk hJ2 pl => ?_
    · have := hcap (p.1 :: L.map (·.1)) (List.nodup_cons.mpr ⟨hnot, D.nd _ _ hJ'⟩) (fun x hx => by
        rcases List.mem_cons.mp hx with rfl | hx
        · exact List.mem_map.mpr ⟨p, hpm, rfl⟩
        · exact hsub x hx)
      rwa [List.length_cons, List.length_map] at this
    · have hkp2 : Keeps h0 h' := fun b o e => (hsb.2 b (fun z => by rw [z, hS0] at e; cases e)).trans (hkp' b o e)
      refine wpAny_pure ⟨plainId_quiet PyProof.Rows.F.plain_set_update_loop _, ih (i + 1) _ (by omega) hlt (W.frame _ s' _ _ hst' htk fun b hb o e => ?_) hkp2 ⟨L', hJ2, g.step hp pl⟩ fun s'' L2 hm'' hJ'' g'' hkp'' => ?_⟩
      · rw [hsb.2 b (fun h : b = S => hSf (by rw [← h]; exact hb))]; exact e
      · refine hZ s'' L2 (Moved.trans W.gtrans ((hm.mono more).then_heap htk fun b o hb e => ?_) hm'') hJ'' g'' hkp''
        rw [hsb.2 b (fun h : b = S => hb (by rw [h]; exact List.mem_cons_self))]; exact e
/-- a new set, then the items of I -/
abbrev freshSet (w : World) : Obj := { cls := .type "set", dict := none, data := .set #[] 0 (.fresh 0 0 (!w.params.followText "set-order")) }
end
end Mi
end

section
set_option maxRecDepth 100000
set_option maxHeartbeats 6400000
/-! MiSet3: set(xs) of a list, of a tuple. -/
namespace Mi
open PySem PySem.Spec PyProof.Rows L2
section
variable {P : Program} {w : World} {A : Around} {E : Value → Shared → Prop} {s : Shared} {κ : Type}
set_option maxRecDepth 100000 in
theorem call_set_any {T TI : String} {l : Addr} {items : Array Value} (ks : List (κ × Value)) {cap : Nat} {ok : κ → Value → Prop} {J : Heap → List (κ × Value) → Prop} {Q : Value → Shared → Prop} (hh : A.handled = none) (hl : ∃ ol, s.heap.get? l = some ol ∧ ol.cls = .type T ∧ ∃ nl, ol.data = .seq items nl) (w6 : isSubtype (.type T) (.type "set") = pure false) (w7 : isSubtype (.type T) (.type "frozenset") = pure false) (w8 : (Value.type T == Value.type "dict") = false)
    {St : Nat → Heap → Prop} (hit0 : ∀ (A1 : Around) (E1 : Value → Shared → Prop) (Q1 : Value → Shared → Prop) (s1 : Shared), s1.heap = s.heap.push (freshSet w) → Q1 (.ref s1.heap.objs.size) { s1 with heap := s1.heap.push { cls := .type TI, data := .fields #[.ref l, .int 0 0] } } → wpAny (model P w) A1 (pyIter (.ref l)) Q1 E1 s1)
    (hW : l ≠ s.heap.objs.size + 1 → Walks P w A.in1.in1.in1 (s.heap.objs.size + 1) [s.heap.objs.size + 1, l] [s.heap.objs.size + 1] items.size (fun i v => items[i]? = some v) St) (hSt : St 0 ((s.heap.push (freshSet w)).push { cls := .type TI, data := .fields #[.ref l, .int 0 0] })) (hit : items.toList = ks.map (·.2))
    (D : Adds P w A.in1.in1.in1 s.heap.objs.size s.heap cap ok J) (hcap : ∀ M : List κ, M.Nodup → (∀ x ∈ M, x ∈ ks.map (·.1)) → M.length < cap) (hk : ∀ p ∈ ks, ok p.1 p.2)
    (h00 : ∀ h, h.get? s.heap.objs.size = some (freshSet w) → J h [])
    (h : ∀ (h' : Heap) (tk : Nat) L, J h' L → Has ks ks.length L → Keeps s.heap h' → Q (.ref s.heap.objs.size) { s with heap := h', toks := tk }) : wpAny (model P w) A (call (.type "set") [.ref l]) Q E s := by
  have hisz : items.size = ks.length := by
    have q := congrArg List.length hit
    rwa [Array.length_toList, List.length_map] at q
  obtain ⟨c, tl, hmro⟩ := F.called_set.mro
  have hmade := F.called_set.made
  have hsub := F.called_set.sub
  refine wpAny_call (codeAny_of_tree ?_)
  show wpAny _ _ (callAny (.type "set") _) _ _ _
  refine wpAny_pure ⟨Code.quiet_builtin _ (by decide +kernel), codeAny_builtin F.entry_type_call ?_⟩
  rw [Around.under_plain (weight_type_call_type "set" [.ref l] []) rfl]
  have w1 := F.called_set.notType
  have w2 := F.called_set.canCreate
  have w3 := F.typeCall_set_1 (.ref l)
  repeat (any_goals (first | assumption | wp_step))
  refine codeAny_mono (code_set_led1 (.ref l) (E := E) (Q₁ := fun obj s₁ => obj = .ref s.heap.objs.size ∧ s₁ = { s with heap := s.heap.push (freshSet w) }) ⟨rfl, rfl⟩) fun r s₁ hr => ?_
  cases r with
  | error e => exact hr
  | ok fl =>
    cases fl with
    | ret obj =>
      obtain ⟨rfl, rfl⟩ := hr
      have hS : (s.heap.push (freshSet w)).get? s.heap.objs.size = some (freshSet w) := Heap.get?_push_size _ rfl
      have hT : Shared.TypeIs { s with heap := s.heap.push (freshSet w) } (.ref s.heap.objs.size) "set" := ⟨_, hS, rfl⟩
      have w4 := F.called_set.init.lookup
      have w5 := F.called_set.init.bind (.ref s.heap.objs.size)
      repeat (any_goals (first | assumption | wp_step))
      refine codeAny_mono (codeAny_call_builtin (R := wants (fun r s₂ => r = .none ∧ ∃ h' tk L, s₂ = { s with heap := h', toks := tk } ∧ J h' L ∧ Has ks ks.length L ∧ Keeps s.heap h') E) F.called_set.init.plain F.entry_set_init (check_set_init_1 hT ?_)) fun r₂ s₂ hr₂ => ?_
      · obtain ⟨ol, hol, hcl, nl, hdl⟩ := hl
        obtain ⟨ocls, odict, odata, oslots⟩ := ol
        simp only at hcl hdl
        subst hcl; subst hdl
        have hol' : (s.heap.push (freshSet w)).get? l = some { cls := .type T, dict := odict, data := .seq items nl, slots := oslots } := Heap.get?_push_of_some _ hol
        unfold Builtin.«set.__init__» noKeywords Builtin.Frozenset.updateFrom
        generalize hPI : pyIter = PI
        wp_walk
        subst hPI
        refine hit0 _ _ _ _ rfl ?_
        refine wpAny_bind (wpAny_runValue ?_)
        have hlS : l < s.heap.objs.size := Heap.lt_size hol
        have hz1 : (s.heap.push (freshSet w)).objs.size = s.heap.objs.size + 1 := Heap.size_push ..
        have hval : ∀ (i : Nat) (v : Value), items[i]? = some v → ∃ p, ks[i]? = some p ∧ v = p.2 := fun i v hv => by
          have q : items.toList[i]? = some v := by rw [Array.getElem?_toList]; exact hv
          rw [hit, List.getElem?_map] at q
          cases hq : ks[i]? with
          | none => rw [hq] at q; cases q
          | some p => rw [hq] at q; exact ⟨p, rfl, (Option.some.inj q).symm⟩
        have off : ∀ b, s.heap.objs.size ≤ b → s.heap.get? b = none := fun b hb => by
          cases q : s.heap.get? b with
          | none => rfl
          | some o => exact absurd (Nat.lt_of_lt_of_le (Heap.lt_size q) hb) (Nat.lt_irrefl _)
        have e9 : ({ s with heap := s.heap.push (freshSet w) } : Shared).heap.objs.size = s.heap.objs.size + 1 := hz1
        rw [e9]
        refine update_loop ((hW (Nat.ne_of_lt (Nat.lt_succ_of_lt hlS))).toS) D (by
            simp only [List.mem_cons, List.not_mem_nil, or_false, not_or]
            exact ⟨Nat.ne_of_lt (Nat.lt_succ_self _), Nat.ne_of_gt hlS⟩) ks hisz hcap hval hk (off _ (Nat.le_refl _)) (fun b hb => off b (by
            rw [List.mem_singleton.mp hb]
            exact Nat.le_succ _)) (items.size - 0) 0 _ (by omega) (Nat.zero_le _)
          hSt (fun b o e => Heap.get?_push_of_some _ (Heap.get?_push_of_some _ e)) ⟨[], h00 _ (Heap.get?_push_of_some _ hS), ⟨fun p hp => (nomatch hp), fun p hp => by simp at hp⟩⟩ ?_
        intro s' L hm hS' g' hkp
        obtain ⟨h', g2, d', tk', os'⟩ := s'
        obtain rfl : g2 = s.gens := hm.gens
        obtain rfl : d' = s.drawn := hm.drawn
        obtain rfl : os' = s.os := hm.os
        show wpAny _ _ _ _ _ _
        refine wpAny_pure ?_
        show wpAny _ _ (ret Value.none) _ _ _
        rw [hisz] at g'
        exact wpAny_pure ⟨rfl, h', tk', L, rfl, hS', g', hkp⟩
      · cases r₂ with
        | error e => exact hr₂
        | ok fl₂ =>
          cases fl₂ with
          | ret r =>
            obtain ⟨rfl, h', tk, L, rfl, hS', g', hk'⟩ := hr₂
            repeat (any_goals (first | assumption | wp_step))
            exact h _ _ _ hS' g' hk'
          | _ => exact hr₂.elim
    | _ => exact hr.elim
theorem call_set_list {l : Addr} {items : Array Value} (ks : List (κ × Value)) {cap : Nat} {ok : κ → Value → Prop} {J : Heap → List (κ × Value) → Prop} {Q : Value → Shared → Prop} (hh : A.handled = none) (hl : s.heap.IsList l items) (hit : items.toList = ks.map (·.2))
    (D : Adds P w A.in1.in1.in1 s.heap.objs.size s.heap cap ok J) (hcap : ∀ M : List κ, M.Nodup → (∀ x ∈ M, x ∈ ks.map (·.1)) → M.length < cap) (hk : ∀ p ∈ ks, ok p.1 p.2)
    (h00 : ∀ h, h.get? s.heap.objs.size = some (freshSet w) → J h [])
    (h : ∀ (h' : Heap) (tk : Nat) L, J h' L → Has ks ks.length L → Keeps s.heap h' → Q (.ref s.heap.objs.size) { s with heap := h', toks := tk }) : wpAny (model P w) A (call (.type "set") [.ref l]) Q E s := by
  have hz1 : (s.heap.push (freshSet w)).objs.size = s.heap.objs.size + 1 := Heap.size_push ..
  have hl1 : (s.heap.push (freshSet w)).IsList l items := hl.push _
  refine call_set_any (T := "list") (TI := "list_iterator") ks hh hl F.sub_list_set F.sub_list_frozenset (by decide) (fun A1 E1 Q1 s1 e q => wpAny_pyIter_list (by rw [e]; exact hl1) q) (fun hne => Walks.list (by simp [hh]) _ l hne items) ⟨?_, hl1.push _⟩ hit D hcap hk h00 h
  rw [← hz1]
  exact ⟨_, Heap.get?_push_size _ rfl, rfl, rfl⟩
theorem call_set_tuple {l : Addr} {items : Array Value} (ks : List (κ × Value)) {cap : Nat} {ok : κ → Value → Prop} {J : Heap → List (κ × Value) → Prop} {Q : Value → Shared → Prop} (hh : A.handled = none) (hl : s.heap.IsTuple l items) (hit : items.toList = ks.map (·.2))
    (D : Adds P w A.in1.in1.in1 s.heap.objs.size s.heap cap ok J) (hcap : ∀ M : List κ, M.Nodup → (∀ x ∈ M, x ∈ ks.map (·.1)) → M.length < cap) (hk : ∀ p ∈ ks, ok p.1 p.2)
    (h00 : ∀ h, h.get? s.heap.objs.size = some (freshSet w) → J h [])
    (h : ∀ (h' : Heap) (tk : Nat) L, J h' L → Has ks ks.length L → Keeps s.heap h' → Q (.ref s.heap.objs.size) { s with heap := h', toks := tk }) : wpAny (model P w) A (call (.type "set") [.ref l]) Q E s := by
  have hz1 : (s.heap.push (freshSet w)).objs.size = s.heap.objs.size + 1 := Heap.size_push ..
  have hl1 : (s.heap.push (freshSet w)).IsTuple l items := hl.push _
  refine call_set_any (T := "tuple") (TI := "tuple_iterator") ks hh hl F.sub_tuple_set F.sub_tuple_frozenset (by decide) (fun A1 E1 Q1 s1 e q => wpAny_pyIter_tuple (by rw [e]; exact hl1) q) (fun hne => Walks.tuple (by simp [hh]) _ l hne items) ⟨?_, hl1.push _⟩ hit D hcap hk h00 h
  rw [← hz1]
  exact ⟨_, Heap.get?_push_size _ rfl, rfl, rfl⟩
end
end Mi
end

section
set_option maxRecDepth 100000
set_option maxHeartbeats 3200000
/-! MiSet4: sorted(s), len(s) of a set; what the evaluator tells of it. -/
namespace Mi
open PySem PySem.Spec PyProof.Rows L2
/-- the set at a can be walked; its members are L -/
def Coll (w : World) (h : Heap) (a : Addr) (L : List (PyData × Value)) : Prop := ∃ o es ep t, h.get? a = some o ∧ o.ExactSet ∧ o.data = .set es ep t ∧ es.toList.map (·.2) = L.map (·.2) ∧ Ris t.place.toList ∧ (w.params.followText "set-order" = true ∨ t.led = true) ∧ t.fits es.size = true ∧ es.size < scanBound
section
variable {P : Program} {w : World} {A : Around} {E : Value → Shared → Prop} {s : Shared}
theorem eachIs_self {α β : Type} {R : α → β → Prop} {f : β → α} : ∀ {bs : List β}, (∀ b ∈ bs, R (f b) b) → PySem.W.EachIs R (bs.map f) bs
  | [], _ => .nil
  | b :: bs, h => .cons (h b (List.mem_cons_self ..)) (eachIs_self fun c hc => h c (List.mem_cons_of_mem _ hc))
theorem eachIs_eq {β : Type} {f : β → Value} : ∀ {us : List Value} {bs : List β}, PySem.W.EachIs (fun u b => u = f b) us bs → us = bs.map f
  | _, _, .nil => rfl
  | _, _, .cons h t => by rw [h, eachIs_eq t]; rfl
open PySem.W in
theorem sorted_setC {a : Addr} {L : List (PyData × Value)} {Q : Value → Shared → Prop} (C : Coll w s.heap a L) (hh : A.handled = none) (er : ∀ p ∈ L, ∃ as, Reads s.heap p.2 p.1 as) (hal : AllAlike (L.map (·.1))) (hk : Sortable (L.map (·.1))) (hu : ∀ p ∈ L, A.units + 2 + p.1.depth < cLine)
    (h : ∀ s' p (M L' : List (PyData × Value)) e, Keeps s.heap s'.heap → s'.gens = s.gens → s'.os = s.os → s.heap.objs.size ≤ p → s'.heap.get? p = some (seqObj "list" (M.map (·.2)).toArray e) → M.Perm L → L'.Perm L → M.map (·.1) = sortD (L'.map (·.1)) → Q (.ref p) s') :
    wpAny (model P w) A (call (.builtin "sorted") [.ref a]) Q E s := by
  obtain ⟨o, es, ep, t, ho, hex, hd, he, hr, hl, hf, hb⟩ := C
  refine Calls.call_function_entry kind_sorted plain_sorted entry_sorted (args_sorted1 _) ?_
  unfold Builtin.«sorted»
  refine wpAny_bind (m := checkCount "sorted" 1 1 _) (wpAny_pure ?_)
  refine wpAny_bind (collect_set (A := A.in1) hh ⟨o, ho, hex.1, hd⟩ hf hb hr hl fun s1 vs k1 hz g1 o1 pm => ?_)
  rw [he] at pm
  obtain ⟨L', rfl, pL⟩ := perm_back pm L rfl
  have hlen : (L'.map (·.2)).length ≤ sizeLine := by
    rw [List.length_map, pL.length_eq]
    have : es.size = L.length := by
      have := congrArg List.length he
      rwa [List.length_map, List.length_map, Array.length_toList] at this
    rw [← this]
    exact fits_of_scanBound hb
  refine wpAny_bind (wpAny_newList ?_ hlen)
  have hoL : (s1.heap.push (seqObj "list" (L'.map (·.2)).toArray 0)).get? s1.heap.objs.size = some (seqObj "list" (L'.map (·.2)).toArray 0) := Heap.get?_push_size _ rfl
  have old : ∀ b u, s.heap.get? b = some u → (s1.heap.push (seqObj "list" (L'.map (·.2)).toArray 0)).get? b = some u := fun b u e => Heap.get?_push_of_some _ (k1 b u e)
  have er' : EachIs (fun v (b : PyData × Value) => ∃ as, Reads (sortingHeap (s1.heap.push (seqObj "list" (L'.map (·.2)).toArray 0)) s1.heap.objs.size (L'.map (·.2))) v b.1 as) (L'.map (·.2)) L' := eachIs_self fun p hp => by
    obtain ⟨as, r⟩ := er p (pL.mem_iff.mp hp)
    exact ⟨as, PyProof.Rows.Reads.keeps (fun b u e => sortingHeap_old (Nat.ne_of_lt (Nat.lt_of_lt_of_le (Heap.lt_size e) hz)) (old b u e)) r⟩
  have hal' : AllAlike (L'.map (·.1)) := fun d hd d' hd' => hal d ((pL.map _).mem_iff.mp hd) d' ((pL.map _).mem_iff.mp hd')
  have hk' : Sortable (L'.map (·.1)) := hk.imp (fun z d hd => z d ((pL.map _).mem_iff.mp hd)) (fun z d hd => z d ((pL.map _).mem_iff.mp hd))
  have S := SortsAt.data (prog := P) (w := w) (A := A.in1.in1) (s := { s1 with heap := sortingHeap (s1.heap.push (seqObj "list" (L'.map (·.2)).toArray 0)) s1.heap.objs.size (L'.map (·.2)) }) (each_map (R := fun v d => ∃ as, Reads (sortingHeap (s1.heap.push (seqObj "list" (L'.map (·.2)).toArray 0)) s1.heap.objs.size (L'.map (·.2))) v d as) (fun b : PyData × Value => b.1) er') hal' hk' (bound_map (enc := fun b : PyData × Value => b.1) fun b hb => hu b (pL.mem_iff.mp hb))
  refine wpAny_bind (wpAny_holding (wpAny_call_entry_kw slot_list_sort ⟨_, hoL, rfl⟩ entry_list_sort ?_ (args_list_sort _)))
  change wpAny (model P w) A.in1.in1 (Builtin.«list.sort» ⟨[.ref s1.heap.objs.size], []⟩) _ _ _
  refine list_sort_vals (s := { s1 with heap := s1.heap.push (seqObj "list" (L'.map (·.2)).toArray 0) }) hoL S hlen ⟨_, rfl, ?_⟩
  have sv := sortVals_data (R := fun u (b : PyData × Value) => u = b.2) false (eachIs_self fun _ _ => rfl) er' hal'
  have eo := eachIs_eq sv
  obtain ⟨c, hc⟩ := sortedHeap_at (vs := L'.map (·.2)) (out := ((L'.mergeSort (dataLe false fun b : PyData × Value => b.1)).map (·.2)).toArray) hoL
  refine wpAny_pure ⟨_, rfl, h _ s1.heap.objs.size (L'.mergeSort (dataLe false fun b : PyData × Value => b.1)) L' c (fun b u e => ?_) g1 o1 hz ?_ ((List.mergeSort_perm _ _).trans pL) pL ?_⟩
  · have q := k1 b u e
    have hlt := Heap.lt_size q
    show (sortedHeap (s1.heap.push (seqObj "list" (L'.map (·.2)).toArray 0)) s1.heap.objs.size (L'.map (·.2)) _).get? b = some u
    rw [sortedHeap_old (Nat.ne_of_lt hlt) (by rw [size_push']; exact Nat.lt_succ_of_lt hlt)]
    exact Heap.get?_push_of_some _ q
  · show (sortedHeap (s1.heap.push (seqObj "list" (L'.map (·.2)).toArray 0)) s1.heap.objs.size (L'.map (·.2)) _).get? s1.heap.objs.size = _
    rw [eo]
    exact hc
  · rw [sortD_eq, sort_maps (r := dataLe false fun p : PyData × Value => p.1) (s := dataLe false fun b => b) (fun p : PyData × Value => p.1) (fun _ _ _ _ => rfl)]
end
end Mi
end

section
set_option maxRecDepth 100000
set_option maxHeartbeats 3200000
/-! MiSet5: sorted(set(..)), len(set(..)): what the evaluator answers is what the model answers. -/
namespace Mi
open PySem PySem.Spec PyProof.Rows L2
/-! ### data -/
mutual
theorem dat_eqv : ∀ (x y : PyData), PySem.W.alike x y = true → (PyData.eqv x y = true ↔ x = y)
  | .none, y, h => by cases y <;> simp_all [PySem.W.alike, PyData.eqv]
  | .bool a, y, h => by cases y <;> simp_all [PySem.W.alike, PyData.eqv]
  | .int a, y, h => by cases y <;> simp_all [PySem.W.alike, PyData.eqv]
  | .str a, y, h => by cases y <;> simp_all [PySem.W.alike, PyData.eqv]
  | .list xs, y, h => by
    cases y with
    | list ys => simpa [PyData.eqv] using dat_eqvAll xs ys (by simpa [PySem.W.alike] using h)
    | _ => simp [PySem.W.alike] at h
  | .tuple xs, y, h => by
    cases y with
    | tuple ys => simpa [PyData.eqv] using dat_eqvAll xs ys (by simpa [PySem.W.alike] using h)
    | _ => simp [PySem.W.alike] at h
  | .dict kvs, y, h => by cases y <;> simp [PySem.W.alike] at h
theorem dat_eqvAll : ∀ (xs ys : List PyData), PySem.W.alikeAll xs ys = true → (PyData.eqvAll xs ys = true ↔ xs = ys)
  | [], [], _ => by simp [PyData.eqvAll]
  | [], y :: ys, _ => by simp [PyData.eqvAll]
  | x :: xs, [], _ => by simp [PyData.eqvAll]
  | x :: xs, y :: ys, h => by
    obtain ⟨h1, h2⟩ := PySem.W.alike_all_cons h
    rw [PySem.W.eqv_all_cons, Bool.and_eq_true, dat_eqv x y h1, dat_eqvAll xs ys h2, List.cons.injEq]
end
theorem dat_tri {x y : PyData} (ha : PySem.W.alike x y = true) (h1 : PySem.W.dataLt x y = false) (h2 : PySem.W.dataLt y x = false) : x = y := by
  have h := PyProof.Rows.lex_total _ _ h1 h2
  cases he : PyData.eqv x y with
  | true => exact (dat_eqv x y ha).mp he
  | false =>
    exfalso
    have h3 := (PySem.W.toks_eqv x y ha).2 he [] [.inl 0]
    rw [h, PyProof.Rows.lex_irrefl, PySem.W.lex_pre] at h3
    exact absurd h3 (by decide)
theorem dedup_mem {ds : List PyData} (al : PySem.W.AllAlike ds) : ∀ d, d ∈ dedupD ds ↔ d ∈ ds := by
  induction ds with
  | nil => intro d; exact Iff.rfl
  | cons e ds ih =>
    have ih := ih fun a ha b hb => al a (List.mem_cons_of_mem _ ha) b (List.mem_cons_of_mem _ hb)
    intro d
    show d ∈ (if ((dedupD ds).any fun z => PyData.eqv z e) = true then dedupD ds else e :: dedupD ds) ↔ _
    split
    · rename_i hc
      obtain ⟨z, hz, q⟩ := List.any_eq_true.mp hc
      have hz' := (ih z).mp hz
      have e1 : z = e := (dat_eqv z e (al z (List.mem_cons_of_mem _ hz') e (List.mem_cons_self ..))).mp q
      rw [ih d, List.mem_cons]
      exact ⟨.inr, fun h => h.elim (fun h => by rw [h, ← e1]; exact hz') id⟩
    · rw [List.mem_cons, List.mem_cons, ih d]
theorem dedup_nodup {ds : List PyData} (al : PySem.W.AllAlike ds) : (dedupD ds).Nodup := by
  induction ds with
  | nil => exact List.nodup_nil
  | cons e ds ih =>
    have al' : PySem.W.AllAlike ds := fun a ha b hb => al a (List.mem_cons_of_mem _ ha) b (List.mem_cons_of_mem _ hb)
    have ih := ih al'
    show (if ((dedupD ds).any fun z => PyData.eqv z e) = true then dedupD ds else e :: dedupD ds).Nodup
    split
    · exact ih
    · rename_i hc
      refine List.nodup_cons.mpr ⟨fun hm => hc (List.any_eq_true.mpr ⟨e, hm, ?_⟩), ih⟩
      exact (dat_eqv e e (al e (List.mem_cons_self ..) e (List.mem_cons_self ..))).mpr rfl
theorem perm_of_mem {α : Type} : ∀ {xs ys : List α}, xs.Nodup → ys.Nodup → (∀ x, x ∈ xs ↔ x ∈ ys) → xs.Perm ys
  | [], ys, _, _, h => by
    cases ys with
    | nil => exact .refl _
    | cons y ys => have := (h y).mpr (List.mem_cons_self ..); cases this
  | x :: xs, ys, hx, hy, h => by
    obtain ⟨a, b, rfl⟩ := List.append_of_mem ((h x).mp (List.mem_cons_self ..))
    have hx' := List.nodup_cons.mp hx
    have p1 : (a ++ x :: b).Perm (x :: (a ++ b)) := List.perm_middle
    have hy' := List.nodup_cons.mp (p1.nodup_iff.mp hy)
    refine (List.Perm.cons x (perm_of_mem hx'.2 hy'.2 fun z => ?_)).trans p1.symm
    constructor
    · intro hz
      have := p1.mem_iff.mp ((h z).mp (List.mem_cons_of_mem _ hz))
      rcases List.mem_cons.mp this with rfl | q
      · exact absurd hz hx'.1
      · exact q
    · intro hz
      have := (h z).mpr (p1.mem_iff.mpr (List.mem_cons_of_mem _ hz))
      rcases List.mem_cons.mp this with rfl | q
      · exact absurd hz hy'.1
      · exact q
/-- sorted lists of the same alike data are one -/
theorem sort_one {xs ys : List PyData} (al : PySem.W.AllAlike xs) (pm : xs.Perm ys) : sortD xs = sortD ys := by
  have go : ∀ {xs ys : List PyData}, PySem.W.AllAlike xs → xs.Pairwise (fun a b => PySem.W.dataLt b a = false) → ys.Pairwise (fun a b => PySem.W.dataLt b a = false) → xs.Perm ys → xs = ys := by
    intro xs
    induction xs with
    | nil => intro ys _ _ _ p; exact (List.Perm.nil_eq p)
    | cons x xs ih =>
      intro ys al hx hy p
      cases ys with
      | nil => exact absurd p.length_eq (by simp)
      | cons y ys =>
        have hx' := List.pairwise_cons.mp hx
        have hy' := List.pairwise_cons.mp hy
        have hyx : y ∈ x :: xs := p.symm.subset (List.mem_cons_self ..)
        have hxy : x ∈ y :: ys := p.subset (List.mem_cons_self ..)
        have e : x = y := by
          rcases List.mem_cons.mp hyx with e | m1
          · exact e.symm
          · rcases List.mem_cons.mp hxy with e | m2
            · exact e
            · exact dat_tri (al x (List.mem_cons_self ..) y hyx) (hy'.1 x m2) (hx'.1 y m1)
        subst e
        rw [ih (fun a ha b hb => al a (List.mem_cons_of_mem _ ha) b (List.mem_cons_of_mem _ hb)) hx'.2 hy'.2 p.cons_inv]
  have srt : ∀ l : List PyData, (sortD l).Pairwise fun a b => PySem.W.dataLt b a = false := fun l => by
    rw [sortD_eqB]
    refine (sortB_sorted (PySem.W.sortLe_total _ false _) l).imp fun {a b} h => ?_
    have h' : (!PySem.W.dataLt b a) = true := h
    simpa using h'
  have per : ∀ l : List PyData, (sortD l).Perm l := fun l => by rw [sortD_eqB]; exact sortB_perm l
  exact go (fun a ha b hb => al a ((per xs).mem_iff.mp ha) b ((per xs).mem_iff.mp hb)) (srt xs) (srt ys) ((per xs).trans (pm.trans (per ys).symm))
/-! ### ints and texts -/
def dk : PyData → Key
  | .int i => .inl i
  | .str x => .inr x
  | _ => .inl 0
theorem dk_inj {a b : PyData} (ha : scanD a = true) (hb : scanD b = true) (h : dk a = dk b) : a = b := by
  cases a <;> simp [scanD] at ha <;> cases b <;> simp [scanD] at hb <;> simp [dk] at h <;> simp [h]
section
variable {P : Program} {w : World} {A : Around}
theorem adds_scan {S : Addr} {h0 : Heap} : Adds P w A S h0 4000 (fun d v => scanD d = true ∧ RelV (kV (dk d)) v) (fun h L => SetS w h S (L.map fun p => (dk p.1, p.2)) ∧ ∀ p ∈ L, scanD p.1 = true) where
  nd h L hJ := by
    have := hJ.1.nd
    rw [List.map_map] at this
    refine nodup_of_map (f := dk) ?_
    rw [List.map_map]
    exact this
  keep h h' L hJ k _ := by
    obtain ⟨⟨o, es, ep, t, ho, r⟩, nd, ok⟩ := hJ.1
    exact ⟨⟨⟨o, es, ep, t, k o ho, r⟩, nd, ok⟩, hJ.2⟩
  add E Q s L d v _ hJ hok hc _ hQ := by
    unfold setAdd
    refine wpAny_holding (wpAny_bind ((mixKind P w).pyHash (kV_is hok.2) ?_))
    refine scan_add (s := { s with toks := s.toks + 1 }) hJ.1 (by rw [List.length_map]; unfold scanBound; omega) hok.2 fun b h' L' sb R pl => ?_
    rcases pl with ⟨hm, rfl⟩ | ⟨hn, pm⟩
    · refine hQ b h' _ L sb (Nat.le_succ _) ⟨R, hJ.2⟩ (.inl ⟨?_, rfl⟩)
      rw [List.map_map] at hm
      obtain ⟨p, hp, e⟩ := List.mem_map.mp hm
      exact List.mem_map.mpr ⟨p, hp, dk_inj (hJ.2 p hp) hok.1 e⟩
    · obtain ⟨L2, rfl, p2⟩ := perm_back (f := fun p : PyData × Value => (dk p.1, p.2)) pm ((d, v) :: L) rfl
      refine hQ b h' _ L2 sb (Nat.le_succ _) ⟨R, fun p hp => ?_⟩ (.inr ⟨fun z => hn ?_, p2⟩)
      · rcases List.mem_cons.mp (p2.mem_iff.mp hp) with rfl | hp
        · exact hok.1
        · exact hJ.2 p hp
      · obtain ⟨p, hp, e⟩ := List.mem_map.mp z
        exact List.mem_map.mpr ⟨(dk p.1, p.2), List.mem_map.mpr ⟨p, hp, rfl⟩, by rw [e]⟩
theorem scan_coll {h : Heap} {a : Addr} {L : List (PyData × Value)} (R : SetS w h a (L.map fun p => (dk p.1, p.2))) : Coll w h a L := by
  obtain ⟨⟨o, es, ep, t, h1, h2, h3, h4, _, h5, h6, h7, h8⟩, _, _⟩ := R
  refine ⟨o, es, ep, t, h1, h2, h3, ?_, h5, h6, h7, h8⟩
  rw [h4, List.map_map, List.map_map]
  rfl
end
/-! ### the rule -/
theorem zip_val {K : PySem.W.Frag} {H : Hp} {B : Addr → Prop} : ∀ {vs : List V} {ds : List PyData} {us : List Value}, RvAll K H B vs ds → Vals vs us → ∀ p ∈ ds.zip us, p.1 ∈ ds ∧ ∃ v, RelV v p.2 ∧ Rv K H B v p.1
  | _, _, _, .nil, .nil, p, hp => by simp at hp
  | _, _, _, .cons r t, .cons q z, p, hp => by
    rw [List.zip_cons_cons] at hp
    rcases List.mem_cons.mp hp with rfl | hp
    · exact ⟨List.mem_cons_self .., _, q, r⟩
    · obtain ⟨h1, h2⟩ := zip_val t z p hp
      exact ⟨List.mem_cons_of_mem _ h1, h2⟩
theorem vals_of {K : PySem.W.Frag} {H : Hp} {B : Addr → Prop} : ∀ {M : List (PyData × Value)}, (∀ p ∈ M, ∃ v, RelV v p.2 ∧ Rv K H B v p.1) → ∃ vs, Vals vs (M.map (·.2)) ∧ RvAll K H B vs (M.map (·.1))
  | [], _ => ⟨[], .nil, .nil⟩
  | p :: M, h => by
    obtain ⟨v, h1, h2⟩ := h p (List.mem_cons_self ..)
    obtain ⟨vs, h3, h4⟩ := vals_of (M := M) fun q hq => h q (List.mem_cons_of_mem _ hq)
    exact ⟨v :: vs, .cons h1 h3, .cons h2 h4⟩
theorem setOk_facts {ds : List PyData} (h : setOk ds = true) : sortOk ds = true ∧ (∀ d ∈ ds, scanD d = true) ∧ ds.length < 4000 := by
  unfold setOk at h
  rw [Bool.and_eq_true, Bool.and_eq_true, List.all_eq_true, decide_eq_true_iff] at h
  exact ⟨h.1.1, h.1.2, h.2⟩
theorem rv_scan {K : PySem.W.Frag} {H : Hp} {B : Addr → Prop} {v : V} {d : PyData} {u : Value} (r : Rv K H B v d) (q : RelV v u) (h : scanD d = true) : RelV (kV (dk d)) u := by
  cases r <;> simp [scanD] at h
  · exact q
  · exact q
theorem nodup_len {α : Type} [DecidableEq α] : ∀ (l D : List α), l.Nodup → (∀ x ∈ l, x ∈ D) → l.length ≤ D.length
  | [], _, _, _ => Nat.zero_le _
  | x :: l, D, hn, hs => by
    obtain ⟨h1, h2⟩ := List.nodup_cons.mp hn
    have hx : x ∈ D := hs x List.mem_cons_self
    have ih := nodup_len l (D.erase x) h2 fun y hy => (List.mem_erase_of_ne (show y ≠ x from fun e => h1 (e ▸ hy))).2 (hs y (List.mem_cons_of_mem _ hy))
    have e := List.length_erase_of_mem hx
    have hp : 0 < D.length := List.length_pos_of_mem hx
    rw [List.length_cons]
    omega
theorem nodup_len_c {α : Type} (l D : List α) (h : l.Nodup) (hs : ∀ x ∈ l, x ∈ D) : l.length ≤ D.length := by
  classical
  exact nodup_len l D h hs
section
variable {X : Cx}
/-- set(xs) of plain data: what it leaves -/
theorem set_made (hc : X.calm = true) (hu : X.A.units + 70 < cLine) {pins : List (Addr × Obj)} {s : Shared} {σ : L2.St} {H : Hp} {a : Addr} {vs : List V} {ds : List PyData} {B : Addr → Prop} {Q : Value → Shared → Prop} (I : Inv X pins σ H s) (hl : SqL X.K H a vs ∨ SqT X.K H a vs) (rr : RvAll X.K H B vs ds) (ok : setOk ds = true)
    (q : ∀ h' tk p (L : List (PyData × Value)), Keeps s.heap h' → Coll X.w h' p L → (L.map (·.1)).Nodup → (∀ d, d ∈ L.map (·.1) ↔ d ∈ ds) → (∀ p ∈ L, ∃ v, RelV v p.2 ∧ Rv X.K H B v p.1) → Q (.ref p) { s with heap := h', toks := tk }) : wpAny (model X.prog X.w) X.A (call (.type "set") [.ref a]) Q X.xe s := by
  classical
  obtain ⟨_, sc, hlen⟩ := setOk_facts ok
  have fin : ∀ its : List Value, Vals vs its → ∀ (h' : Heap) (tk : Nat) (L : List (PyData × Value)), (SetS X.w h' s.heap.objs.size (L.map fun p => (dk p.1, p.2)) ∧ ∀ p ∈ L, scanD p.1 = true) → Has (ds.zip its) (ds.zip its).length L → Keeps s.heap h' → Q (.ref s.heap.objs.size) { s with heap := h', toks := tk } := fun its rv h' tk L hJ hh hk => by
    have hz := zip_val rr rv
    have hsub : ∀ p ∈ L, p ∈ ds.zip its := fun p hp => List.mem_of_mem_take (hh.sub p hp)
    have hle : ds.length = its.length := by rw [← rr.length, rv.length]
    have hfst : (ds.zip its).map (·.1) = ds := List.map_fst_zip (by omega)
    refine q h' tk _ L hk (scan_coll hJ.1) ((adds_scan (P := X.prog) (w := X.w) (A := X.A) (S := s.heap.objs.size) (h0 := s.heap)).nd h' L hJ) (fun d => ⟨fun hd => ?_, fun hd => ?_⟩) fun p hp => (hz p (hsub p hp)).2
    · obtain ⟨p, hp, rfl⟩ := List.mem_map.mp hd
      exact (hz p (hsub p hp)).1
    · rw [← hfst] at hd
      obtain ⟨p, hp, rfl⟩ := List.mem_map.mp hd
      exact hh.all p (by rw [List.take_length]; exact hp)
  have cap : ∀ its : List Value, Vals vs its → ∀ M : List PyData, M.Nodup → (∀ x ∈ M, x ∈ (ds.zip its).map (·.1)) → M.length < 4000 := fun its rv M hn hs => by
    have := nodup_len M _ hn hs
    rw [List.length_map, List.length_zip] at this
    omega
  have each : ∀ its : List Value, Vals vs its → ∀ p ∈ ds.zip its, scanD p.1 = true ∧ RelV (kV (dk p.1)) p.2 := fun its rv p hp => by
    obtain ⟨h1, v, h2, h3⟩ := zip_val rr rv p hp
    exact ⟨sc _ h1, rv_scan h3 h2 (sc _ h1)⟩
  have snd : ∀ its : List Value, Vals vs its → its.toArray.toList = (ds.zip its).map (·.2) := fun its rv => by
    have hle : ds.length = its.length := by rw [← rr.length, rv.length]
    rw [List.map_snd_zip (by omega)]
  have h00 : ∀ h : Heap, h.get? s.heap.objs.size = some (freshSet X.w) → SetS X.w h s.heap.objs.size (([] : List (PyData × Value)).map fun p => (dk p.1, p.2)) ∧ ∀ p ∈ ([] : List (PyData × Value)), scanD p.1 = true := fun h e =>
    ⟨⟨⟨_, #[], 0, _, e, ⟨rfl, rfl, rfl⟩, rfl, rfl, trivial, List.Pairwise.nil, by
      cases hq : X.w.params.followText "set-order" with
      | true => exact .inl rfl
      | false => exact .inr (by simp [SetTable.fresh, hq]), by rfl, by decide⟩, List.nodup_nil, fun p hp => (nomatch hp)⟩, fun p hp => (nomatch hp)⟩
  rcases hl with hl | hl
  · obtain ⟨its, rv, pl, hz⟩ := I.list hl
    exact call_set_list (ds.zip its) (I.ok.hd hc) pl.isList (snd its rv) adds_scan (cap its rv) (each its rv) h00 (fin its rv)
  · obtain ⟨its, rv, pl, hz⟩ := I.tuple hl
    exact call_set_tuple (ds.zip its) (I.ok.hd hc) pl (snd its rv) adds_scan (cap its rv) (each its rv) h00 (fin its rv)

theorem Inv.next {pins : List (Addr × Obj)} {s s' : Shared} {σ : L2.St} {H : Hp} {p : Addr} {o : HO} (I : Inv X pins σ H s) (k : Keeps s.heap s'.heap) (g : s'.gens = s.gens) (os : s'.os = s.os) (hp : s.heap.objs.size ≤ p) (new : ObjOk X.prog X.w (upd H p o) s'.heap p o) : Inv X pins σ (upd H p o) s' := by
  have hn : H p = none := I.hok.fresh hp
  have J : Inv X pins σ (upd H p o) { s with heap := s'.heap, gens := s'.gens, drawn := s'.drawn, toks := s'.toks } :=
    I.call (ch := []) (Un.laid k hp hn) (I.hok.laid k hp new) (by rw [g]; exact I.bare) (fun _ z => nomatch z)
  have e : s' = { s with heap := s'.heap, gens := s'.gens, drawn := s'.drawn, toks := s'.toks } := by
    cases s'
    cases s
    cases os
    rfl
  rw [e]
  exact J
/-- sorted(set(a)) -/
theorem pe_sortedSet {a : Expr} {ta : TE} {p p2 q pos : Pos} (hc : X.calm = true) (hu : X.A.units + 70 < cLine) (hg : Gl X "sorted") (hm : X.mg "sorted" = none) (hg2 : Gl X "set") (hm2 : X.mg "set" = none) (ha : PE X a ta) (na : starEach [a] X.env = (false, eval a X.env) :: starEach [] X.env) :
    PE X (.Call (.Name "sorted" p) [.Call (.Name "set" p2) [a] [] q] [] pos) (fun σ H Q => ta σ H fun x H1 => ∃ l vs ds B, x = .ref l ∧ (SqL X.K H1 l vs ∨ SqT X.K H1 l vs) ∧ RvAll X.K H1 B vs ds ∧ setOk ds = true ∧ ∀ p vs', H1 p = none → RvAll X.K H1 B vs' (sortD (dedupD ds)) → Q (.ref p) (upd H1 p (.lst vs'))) := by
  refine ⟨fun pins s σ H Q I h => ?_⟩
  refine Call_ (ld_blt I hg hm boot_sorted ?_)
  refine PyProof.Rows.callWith_builtin1 (PyProof.Rows.args_cons ?_ rfl) rfl rfl
  refine Call_ (ld_blt I hg2 hm2 boot_set ?_)
  refine PyProof.Rows.callWith_type1 (PyProof.Rows.args_cons (thn (ha.run pins s σ H _ I h) fun v s1 ⟨x, H1, I1, r1, q1⟩ => PyProof.Rows.args_nil ?_) na) na rfl
  obtain ⟨l, vs, ds, B, rfl, hq, rr, ok, q1⟩ := q1
  cases r1
  refine set_made hc hu I1 hq rr ok fun h' tk p L hk C nd mem vals => PyProof.Rows.args_nil ?_
  have I2 : Inv X pins σ H1 { s1 with heap := h', toks := tk } := I1.kept hk
  obtain ⟨so, sc, hl⟩ := setOk_facts ok
  obtain ⟨okl, al, sb, hsz⟩ := sortOk_facts so
  have lay : PyData.canLayAll0 ds = true := by
    have := okD_lay okl
    simpa only [PyData.canLay0] using this
  have dep := shaped_depth okl
  simp only [PyData.depth] at dep
  have hmem : ∀ p ∈ L, p.1 ∈ ds := fun p hp => (mem p.1).mp (List.mem_map.mpr ⟨p, hp, rfl⟩)
  refine sorted_setC C (I1.ok.hd hc) (fun p hp => ?_) (fun d hd d' hd' => al d ((mem d).mp hd) d' ((mem d').mp hd')) (sb.imp (fun z d hd => z d ((mem d).mp hd)) (fun z d hd => z d ((mem d).mp hd))) (fun p hp => ?_) fun s' a M L' e hk' hg' ho' ha' hM pM pL eM => ?_
  · obtain ⟨v, rv, rd⟩ := vals p hp
    exact Dp.reads I2 p.1 v p.2 (rd.dp (mem_of_lay lay p.1 (hmem p hp))) rv
  · have := depth_of_all p.1 (hmem p hp)
    omega
  · obtain ⟨vs', v1, v2⟩ := vals_of (M := M) fun p hp => vals p (pM.mem_iff.mp hp)
    have e1 : M.map (·.1) = sortD (dedupD ds) := by
      rw [eM]
      refine sort_one (fun d hd d' hd' => al d ((mem d).mp ((pL.map _).mem_iff.mp hd)) d' ((mem d').mp ((pL.map _).mem_iff.mp hd'))) (perm_of_mem ((pL.map _).nodup_iff.mpr nd) (dedup_nodup al) fun d => ?_)
      rw [(pL.map _).mem_iff, mem d, dedup_mem al]
    rw [e1] at v2
    have hlen : vs'.length ≤ sizeLine := by
      rw [v1.length, List.length_map, pM.length_eq]
      have := nodup_len_c (L.map (·.1)) ds nd (fun d hd => (mem d).mp hd)
      rw [List.length_map] at this
      omega
    exact ⟨.ref a, upd H1 a (.lst vs'), Inv.next I2 hk' hg' ho' ha' ⟨hlen, M.map (·.2), e, v1, hM⟩, rfl, q1 a vs' (I2.hok.fresh ha') v2⟩
/-- len(set(a)) -/
theorem pe_lenSetD {a : Expr} {ta : TE} {p p2 q pos : Pos} (hc : X.calm = true) (hu : X.A.units + 70 < cLine) (hg : Gl X "len") (hm : X.mg "len" = none) (hg2 : Gl X "set") (hm2 : X.mg "set" = none) (ha : PE X a ta) (na : starEach [a] X.env = (false, eval a X.env) :: starEach [] X.env) :
    PE X (.Call (.Name "len" p) [.Call (.Name "set" p2) [a] [] q] [] pos) (fun σ H Q => ta σ H fun x H1 => ∃ l vs ds B, x = .ref l ∧ (SqL X.K H1 l vs ∨ SqT X.K H1 l vs) ∧ RvAll X.K H1 B vs ds ∧ setOk ds = true ∧ Q (.int (dedupD ds).length) H1) := by
  refine ⟨fun pins s σ H Q I h => ?_⟩
  refine Call_ (ld_blt I hg hm boot_len ?_)
  refine PyProof.Rows.callWith_builtin1 (PyProof.Rows.args_cons ?_ rfl) rfl rfl
  refine Call_ (ld_blt I hg2 hm2 boot_set ?_)
  refine PyProof.Rows.callWith_type1 (PyProof.Rows.args_cons (thn (ha.run pins s σ H _ I h) fun v s1 ⟨x, H1, I1, r1, q1⟩ => PyProof.Rows.args_nil ?_) na) na rfl
  obtain ⟨l, vs, ds, B, rfl, hq, rr, ok, q1⟩ := q1
  cases r1
  refine set_made hc hu I1 hq rr ok fun h' tk p L hk C nd mem vals => PyProof.Rows.args_nil ?_
  have I2 : Inv X pins σ H1 { s1 with heap := h', toks := tk } := I1.kept hk
  obtain ⟨so, sc, hl⟩ := setOk_facts ok
  obtain ⟨okl, al, sb, hsz⟩ := sortOk_facts so
  obtain ⟨o, es, ep, t, ho, hex, hd, he, hr, hle, hf, hb⟩ := C
  have e1 : es.size = L.length := by
    have := congrArg List.length he
    rwa [List.length_map, List.length_map, Array.length_toList] at this
  have e2 : L.length = (dedupD ds).length := by
    have := (perm_of_mem nd (dedup_nodup al) fun d => by rw [mem d, dedup_mem al]).length_eq
    rwa [List.length_map] at this
  exact call_len_set ho hex hd hf (by rw [e1, e2]; have := nodup_len_c _ ds (dedup_nodup al) (fun d hd => (dedup_mem al d).mp hd); omega) ⟨.int (dedupD ds).length, H1, I2.tok _, ⟨_, by rw [e1, e2]⟩, q1⟩
end
end Mi
end

section
set_option maxRecDepth 100000
/-! MiSet6: the compiled forms. -/
namespace Mi
open PySem PySem.Spec PyProof.Rows L2
theorem map_some' {α β : Type} {o : Option α} {f : α → β} {b : β} (h : o.map f = some b) : ∃ a, o = some a ∧ b = f a := by
  cases o with
  | none => cases h
  | some a => exact ⟨a, rfl, (Option.some.inj h).symm⟩
section
variable {T : Tb} {cx : Ctx} {W : WX} {k : Nat} {c : Cc} {X : Cx}
theorem setFX_ok {len : Bool} {x : Xv} {s s' : Sto} {y : Xv} (h : setFX len x s = .ok y s') : ∃ ds, (rd s x).bind seqOf = some ds ∧ setOk ds = true ∧ s' = s ∧ y = if len then .v (.int (dedupD ds).length) else .v (.list (sortD (dedupD ds))) := by
  unfold setFX at h
  split at h
  · rename_i ds e
    split at h
    · rename_i ok
      refine ⟨ds, e, ok, ?_⟩
      cases len with
      | true =>
        simp only [if_true, R.ok.injEq] at h ⊢
        exact ⟨h.2.symm, h.1.symm⟩
      | false =>
        simp only [Bool.false_eq_true, if_false, R.ok.injEq] at h ⊢
        exact ⟨h.2.symm, h.1.symm⟩
    · cases h
  · cases h
theorem setFX_exc {len : Bool} {x : Xv} {s s' : Sto} {cl : Str} {as : List PyData} (h : setFX len x s = .exc cl as s') : False := by
  unfold setFX at h
  split at h
  · split at h
    · split at h <;> cases h
    · cases h
  · cases h
theorem rd_seq {Z μ : List Addr} {s : Sto} {H : Hp} {u : V} {x : Xv} {ds : List PyData} (hK : T.K = X.K) (st : StOk T.K Z μ s H) (xu : XvOk T.K Z μ s H u x) (h : (rd s x).bind seqOf = some ds) : ∃ a vs, u = .ref a ∧ (SqL X.K H a vs ∨ SqT X.K H a vs) ∧ RvAll X.K H (Bz μ s Z) vs ds := by
  cases e : rd s x with
  | none => rw [e] at h; cases h
  | some d =>
    rw [e] at h
    change seqOf d = some ds at h
    unfold seqOf at h
    split at h
    · cases Option.some.inj h
      obtain ⟨a, vs, rfl, e1, rr⟩ := rd_rq st xu e
      exact ⟨a, vs, rfl, .inl (.inl (.inl e1)), by rw [← hK]; exact rr⟩
    · cases Option.some.inj h
      obtain ⟨a, vs, rfl, e1, rr⟩ := rd_rq st xu e
      rw [hK] at e1 rr
      exact ⟨a, vs, rfl, .inr e1, rr⟩
    · cases h
theorem pe_setS (G : Good T cx W k c X) {p p2 q pos : Pos} {b : Expr} {b' : E} (h1 : cBlt c "sorted" = true) (h2 : cBlt c "set" = true) (hn : noStar b = true) (hb : PE X b (tE T cx W b')) :
    PE X (.Call (.Name "sorted" p) [.Call (.Name "set" p2) [b] [] q] [] pos) (tF T cx W (.setF false b')) := by
  obtain ⟨g1, m1, _, _⟩ := cBlt_of G h1
  obtain ⟨g2, m2, _, _⟩ := cBlt_of G h2
  refine (pe_sortedSet G.calm G.u65 g1 m1 g2 m2 hb (star_no hn)).imp fun σ H Q h => ?_
  obtain ⟨Z, μ, s, ρ, st, rh, po⟩ := h
  unfold ev at po
  refine ⟨Z, μ, s, ρ, st, rh, po.bind fun x s1 μ1 H1 u e1 nx1 st1 xo po1 => ?_⟩
  cases e2 : setFX false x s1 with
  | err => rw [e2] at po1; exact absurd po1 fun z => z
  | exc cl as s2 => exact (setFX_exc e2).elim
  | ok y s2 =>
    obtain ⟨ds, e3, ok, rfl, rfl⟩ := setFX_ok e2
    rw [e2] at po1
    obtain ⟨a, vs, rfl, hl, rr⟩ := rd_seq G.K st1 xo e3
    refine ⟨a, vs, ds, _, rfl, hl, rr, ok, fun p vs' hp rv => ?_⟩
    rw [← G.K] at rv
    exact Pf.lstN po1 st1 rv p hp
theorem pe_setL (G : Good T cx W k c X) {p p2 q pos : Pos} {b : Expr} {b' : E} (h1 : cBlt c "len" = true) (h2 : cBlt c "set" = true) (hn : noStar b = true) (hb : PE X b (tE T cx W b')) :
    PE X (.Call (.Name "len" p) [.Call (.Name "set" p2) [b] [] q] [] pos) (tE T cx W (.setF true b')) := by
  obtain ⟨g1, m1, _, _⟩ := cBlt_of G h1
  obtain ⟨g2, m2, _, _⟩ := cBlt_of G h2
  refine (pe_lenSetD G.calm G.u65 g1 m1 g2 m2 hb (star_no hn)).imp fun σ H Q h => ?_
  obtain ⟨Z, μ, s, ρ, st, rh, po⟩ := h
  unfold ev at po
  refine ⟨Z, μ, s, ρ, st, rh, po.bind fun x s1 μ1 H1 u e1 nx1 st1 xo po1 => ?_⟩
  cases e2 : setFX true x s1 with
  | err => rw [e2] at po1; exact absurd po1 fun z => z
  | exc cl as s2 => exact (setFX_exc e2).elim
  | ok y s2 =>
    obtain ⟨ds, e3, ok, rfl, rfl⟩ := setFX_ok e2
    rw [e2] at po1
    obtain ⟨a, vs, rfl, hl, rr⟩ := rd_seq G.K st1 xo e3
    exact ⟨a, vs, ds, _, rfl, hl, rr, ok, po1.here st1 (.int _)⟩
/-- sorted(set(b)), len(set(b)) -/
theorem snd_set (G : Good T cx W k c X) {f : Expr → Option E} (hf : ∀ e e', f e = some e' → PE X e (tE T cx W e')) {x : Str} {p pos : Pos} {a : Expr} {e' : E} (h : cSet c f x a = some e') : PE X (.Call (.Name x p) [a] [] pos) (tE T cx W e') ∧ (isFresh e' = true → PE X (.Call (.Name x p) [a] [] pos) (tF T cx W e')) := by
  unfold cSet at h
  split at h
  · rename_i y py b pos'
    split at h
    · rename_i hc
      rw [Bool.and_eq_true, Bool.and_eq_true, Bool.and_eq_true, decide_eq_true_eq] at hc
      obtain ⟨⟨⟨h1, h2⟩, rfl⟩, hn⟩ := hc
      split at h
      · rename_i ex
        subst ex
        obtain ⟨b', hb, rfl⟩ := map_some' h
        have g := pe_setS G (p := p) (p2 := py) (q := pos') (pos := pos) h1 h2 hn (hf b b' hb)
        exact ⟨g.ofF, fun _ => g⟩
      · split at h
        · rename_i ex
          subst ex
          obtain ⟨b', hb, rfl⟩ := map_some' h
          exact ⟨pe_setL G h1 h2 hn (hf b b' hb), fun z => by simp [isFresh] at z⟩
        · cases h
    · cases h
  · cases h
end
end Mi
end

section
set_option maxRecDepth 100000
/-! MiDic4: d.get(k), d.get(k, x), list(d.values()) as compiled. -/
namespace Mi
open PySem PySem.Spec PyProof.Rows L2
section
variable {T : Tb} {cx : Ctx} {W : WX} {k : Nat} {c : Cc} {X : Cx} {o a b : Expr} {o' a' b' : E} {apos cpos pos p : Pos}
theorem m1_of {m : Str} (hb : plainBase o = true) (hn : noStar a = true) (hline : (apos.endLine == cpos.line) = true) : M1 X o m apos a cpos := by
  refine ⟨attr_base hb, ?_, hline, ?_⟩
  · rw [star_no hn]; rfl
  · rw [star_no hn]; rfl
theorem m2_of {m : Str} (hb : plainBase o = true) (hn : noStar a = true) (hn2 : noStar b = true) (hline : (apos.endLine == cpos.line) = true) : M2 X o m apos a b cpos := by
  have e : starEach [a, b] X.env = (false, eval a X.env) :: starEach [b] X.env := star_no hn
  refine ⟨attr_base hb, ?_, hline, ?_⟩
  · rw [e, star_no hn2]; rfl
  · rw [e, star_no hn2]; rfl
theorem pe_get1X (G : Good T cx W k c X) (hb : plainBase o = true) (hn : noStar a = true) (hline : (apos.endLine == cpos.line) = true) (ho : PE X o (tE T cx W o')) (ha : PE X a (tE T cx W a')) :
    PE X (.Call (.Attribute o "get" apos) [a] [] cpos) (tE T cx W (.get1 o' a')) := by
  refine (pe_dget1 (by have := G.u65; omega) ho ha (m1_of hb hn hline)).imp fun σ H Q q => ?_
  obtain ⟨Z, μ, s, ρ, st, rh, po⟩ := q
  unfold ev at po
  refine ⟨Z, μ, s, ρ, st, rh, po.bind fun x s1 μ1 H1 u e1 nx1 st1 xo po1 => ?_⟩
  split at po1
  · rename_i hk
    obtain ⟨d, rfl, hd⟩ := isK_ok st1 xo hk
    refine ⟨d, rfl, hd, Z, μ1, s1, ρ, st1, rh.nx nx1, po1.bind fun y s2 μ2 H2 w e2 nx2 st2 yo po2 => ?_⟩
    have xo2 : XvOk T.K Z μ2 s2 H2 (.ref d) x := XvOk.nx nx2 xo
    unfold getX at po2
    split at po2
    · rename_i tt kvs kk ex ey
      split at po2
      · rename_i hkk
        obtain ⟨d', e3, hg⟩ := dget_ok st2 xo2 ex hkk (rd_rq st2 yo ey)
        cases e3
        rcases hg with ⟨e4, g⟩ | ⟨dd, vv, e4, g, rv⟩
        · rw [e4] at po2
          exact ⟨none, g, Po.here (T := T) (W := W) (σ := σ) po2 st2 .non⟩
        · rw [e4] at po2
          exact ⟨some vv, g, Po.here (T := T) (W := W) (σ := σ) po2 st2 rv⟩
      · exact absurd po2 fun z => z
    · exact absurd po2 fun z => z
  · exact absurd po1 fun z => z
theorem pe_get2X (G : Good T cx W k c X) (hb : plainBase o = true) (hn : noStar a = true) (hn2 : noStar b = true) (hline : (apos.endLine == cpos.line) = true) (ho : PE X o (tE T cx W o')) (ha : PE X a (tE T cx W a')) (hbb : PE X b (tE T cx W b')) :
    PE X (.Call (.Attribute o "get" apos) [a, b] [] cpos) (tE T cx W (.get2 o' a' b')) := by
  refine (pe_dget2 (by have := G.u65; omega) ho ha hbb (m2_of hb hn hn2 hline)).imp fun σ H Q q => ?_
  obtain ⟨Z, μ, s, ρ, st, rh, po⟩ := q
  unfold ev at po
  refine ⟨Z, μ, s, ρ, st, rh, po.bind fun x s1 μ1 H1 u e1 nx1 st1 xo po1 => ?_⟩
  split at po1
  · rename_i hk
    obtain ⟨d, rfl, hd⟩ := isK_ok st1 xo hk
    refine ⟨d, rfl, hd, Z, μ1, s1, ρ, st1, rh.nx nx1, po1.bind fun y s2 μ2 H2 w e2 nx2 st2 yo po2 => ?_⟩
    refine ⟨Z, μ2, s2, ρ, st2, (rh.nx nx1).nx nx2, po2.bind fun z s3 μ3 H3 w3 e3 nx3 st3 zo po3 => ?_⟩
    have xo2 : XvOk T.K Z μ3 s3 H3 (.ref d) x := XvOk.nx nx3 (XvOk.nx nx2 xo)
    have yo2 : XvOk T.K Z μ3 s3 H3 w y := XvOk.nx nx3 yo
    unfold getX at po3
    split at po3
    · rename_i tt kvs kk ex ey
      split at po3
      · rename_i hkk
        obtain ⟨d', e3, hg⟩ := dget_ok st3 xo2 ex hkk (rd_rq st3 yo2 ey)
        cases e3
        rcases hg with ⟨e4, g⟩ | ⟨dd, vv, e4, g, rv⟩
        · rw [e4] at po3
          exact ⟨none, g, po3 μ3 H3 _ (Nx.refl _ _ _) st3 zo⟩
        · rw [e4] at po3
          exact ⟨some vv, g, Po.here (T := T) (W := W) (σ := σ) po3 st3 rv⟩
      · exact absurd po3 fun z => z
    · exact absurd po3 fun z => z
  · exact absurd po1 fun z => z
theorem pe_valsLX (G : Good T cx W k c X) (hl : cBlt c "list" = true) (hb : plainBase o = true) (hline : (apos.endLine == cpos.line) = true) (ho : PE X o (tE T cx W o')) :
    PE X (.Call (.Name "list" p) [.Call (.Attribute o "values" apos) [] [] cpos] [] pos) (tF T cx W (.valsL o')) := by
  obtain ⟨h1, h2, h3, h4⟩ := cBlt_of G hl
  refine (pe_listVals G.calm ho h1 h2 (by first | (decide +kernel) | kernel_rfl) (attr_base hb) hline).imp fun σ H Q q => ?_
  obtain ⟨Z, μ, s, ρ, st, rh, po⟩ := q
  unfold ev at po
  refine ⟨Z, μ, s, ρ, st, rh, po.bind fun x s1 μ1 H1 u e1 nx1 st1 xo po1 => ?_⟩
  unfold valsX at po1
  split at po1
  · split at po1
    · exact absurd po1 fun z => z
    · rename_i kvs hk
      obtain ⟨ad, ks, rfl, e, _, rr⟩ := Rv.dicK (show Rv T.K H1 (Bz μ1 s1 Z) u (.dict kvs) from xo) ((Bool.not_eq_true _).mp hk)
      refine ⟨ad, ks, rfl, e.rd, fun q hq => ?_⟩
      exact po1 μ1 (upd H1 q (.lst (ks.map (·.2)))) q (ks.map (·.2)) (Nx.new hq) (st1.newZ hq) hq upd_same (rr.vals.mv (Mv.newZ hq))
  · exact absurd po1 fun z => z
end
end Mi
end

section
set_option maxRecDepth 100000
set_option maxHeartbeats 4000000
/-! MiSnd8: the theorem of expressions. -/
namespace Mi
open PySem PySem.Spec PyProof.Rows L2
section
variable {T : Tb} {cx : Ctx} {k : Nat}
theorem map_some {α β : Type} {o : Option α} {f : α → β} {b : β} (h : o.map f = some b) : ∃ a, o = some a ∧ b = f a := by
  cases o with
  | none => cases h
  | some a => exact ⟨a, rfl, (Option.some.inj h).symm⟩
theorem cIfs_of {f : Expr → Option E} {ifs : List Expr} {f' : Es} (h : cIfs f ifs = some f') : (ifs = [] ∧ f' = .nil) ∨ ∃ t t', ifs = [t] ∧ f' = .cons t' .nil ∧ f t = some t' ∧ tstOk t' = true := by
  unfold cIfs at h
  split at h
  · cases Option.some.inj h
    exact .inl ⟨rfl, rfl⟩
  · rename_i t
    obtain ⟨t', h1, rfl⟩ := map_some h
    obtain ⟨h2, h3⟩ := tst_of h1
    exact .inr ⟨t, t', rfl, rfl, h2, h3⟩
  · cases h
theorem slotsT_in (t : Tg) : tgIn (slotsT t) t = true := by
  cases t with
  | one i => simp [tgIn, slotsT]
  | tup is => simp [tgIn, slotsT]
theorem slotsT_sub {own : List Nat} {t : Tg} (h : tgIn own t = true) : ∀ i ∈ slotsT t, i ∈ own := by
  cases t with
  | one i =>
    intro j hj
    cases List.mem_singleton.mp hj
    simpa [tgIn] using h
  | tup is =>
    intro j hj
    have : is.all (fun i => own.contains i) = true := h
    rw [List.all_eq_true] at this
    simpa using this j hj
theorem snd_comp {n : Nat} (ih : SndE T cx k n) {W : WX} {c : Cc} {X : Cx} (G : Good T cx W k c X) {elt : Expr} {gens : List Comprehension} {scope : Scope} {pos : Pos} {e' : E}
    (h : cComp c (cE n c) (cE n (inComp c scope)) elt gens scope = some e') : isFresh e' = true ∧ PE X (.ListComp elt gens scope pos) (tF T cx W e') ∧
    ∀ (y : Str) (py spos : Pos) (i : Nat), X.N[i]? = some y → X.env.scope.names.lookup y = some .local → swapsWith (.ListComp elt gens scope pos) (some (.Name y py)) spos.line X.env = pure true →
      PS X (.Assign [.Name y py] (.ListComp elt gens scope pos) spos) (tAsg (tF T cx W e') (gName i)) := by
  unfold cComp at h
  split at h
  · rename_i tg iter ifs
    split at h
    · rename_i hc
      rw [Bool.and_eq_true] at hc
      split at h
      · rename_i e1 t1 i1 f1 h1 h2 h3 h4
        split at h
        · rename_i hin
          cases Option.some.inj h
          have blk : BlkOk X.N X.env.scope scope (ownOf c.N scope.names) := by
            rw [G.N, G.sc]
            exact blkOk_by hc.1
          have GB := fun s H C cl fp => G.blk blk s H C cl fp
          have hpi := pi_X (tg := tg) G (fun e e' q => (ih c W X G e e' q).1) h3
          have hgg : ∀ (s : Shared) (H : Hp) (C : Addr) (cl : List (Str × Addr)) (fp : List Addr), PG (X.blk s H scope (compEnvC scope cl C X.env) fp) tg (gX X.K t1) := fun s H C cl fp => pg_X (X := X.blk s H scope (compEnvC scope cl C X.env) fp) (GB s H C cl fp).N (GB s H C cl fp).sc (GB s H C cl fp).nd (GB s H C cl fp).calm (GB s H C cl fp).fnk h2
          have hif : f1 = .nil ∨ ∃ t, f1 = .cons t .nil := by
            rcases cIfs_of h4 with ⟨_, rfl⟩ | ⟨t, t', _, rfl, _, _⟩
            · exact .inl rfl
            · exact .inr ⟨t', rfl⟩
          have hts : ∀ (s : Shared) (H : Hp) (C : Addr) (cl : List (Str × Addr)) (fp : List Addr), PTs (X.blk s H scope (compEnvC scope cl C X.env) fp) ifs (tIfs T cx f1) := fun s H C cl fp => by
            rcases cIfs_of h4 with ⟨rfl, rfl⟩ | ⟨t, t', rfl, rfl, q1, q2⟩
            · exact pts_nil
            · exact pts_one ((ih _ W0 _ (GB s H C cl fp) t t' q1).2.2 q2)
          have hes : ∀ (s : Shared) (H : Hp) (C : Addr) (cl : List (Str × Addr)) (fp : List Addr), PE (X.blk s H scope (compEnvC scope cl C X.env) fp) elt (tE T cx W0 e1) := fun s H C cl fp => (ih _ W0 _ (GB s H C cl fp) elt e1 h1).1
          have hU : isU i1 = true → tgT t1 = true := fun hu => cTg_T h2 (cIt_U h3 hu)
          exact ⟨rfl, pe_compX G blk hpi hgg hif hts hes (fun x => notSet_of hc.2 _ x) hin hU, fun y py spos i hy hyl hsw => ps_compX G hy hyl hsw blk hpi hgg hif hts hes (fun x => notSet_of hc.2 _ x) hin hU⟩
        · cases h
      · cases h
    · cases h
  · rename_i tg iter ifs tg1 iter1 ifs1
    split at h
    · rename_i hc
      rw [Bool.and_eq_true, Bool.and_eq_true] at hc
      split at h
      · rename_i e1 t1 i1 f1 t2 i2 f2 h1 h2 h3 h4 h5 h6 h7
        split at h
        · rename_i hin
          rw [Bool.and_eq_true] at hin
          cases Option.some.inj h
          have blk : BlkOk X.N X.env.scope scope (ownOf c.N scope.names) := by
            rw [G.N, G.sc]
            exact blkOk_by hc.1.1
          have GB := fun s H C cl fp => G.blk blk s H C cl fp
          have hpi := pi_X (tg := tg) G (fun e e' q => (ih c W X G e e' q).1) h3
          have hgg : ∀ {tg : Expr} {t1 : Tg}, cTg (inComp c scope) tg = some t1 → ∀ (s : Shared) (H : Hp) (C : Addr) (cl : List (Str × Addr)) (fp : List Addr), PG (X.blk s H scope (compEnvC scope cl C X.env) fp) tg (gX X.K t1) := fun h2 s H C cl fp => pg_X (X := X.blk s H scope (compEnvC scope cl C X.env) fp) (GB s H C cl fp).N (GB s H C cl fp).sc (GB s H C cl fp).nd (GB s H C cl fp).calm (GB s H C cl fp).fnk h2
          have hif : ∀ {ifs : List Expr} {f1 : Es}, cIfs (cE n (inComp c scope)) ifs = some f1 → f1 = .nil ∨ ∃ t, f1 = .cons t .nil := by
            intro ifs f1 h4
            rcases cIfs_of h4 with ⟨_, rfl⟩ | ⟨t, t', _, rfl, _, _⟩
            · exact .inl rfl
            · exact .inr ⟨t', rfl⟩
          have hts : ∀ {ifs : List Expr} {f1 : Es}, cIfs (cE n (inComp c scope)) ifs = some f1 → ∀ (s : Shared) (H : Hp) (C : Addr) (cl : List (Str × Addr)) (fp : List Addr), PTs (X.blk s H scope (compEnvC scope cl C X.env) fp) ifs (tIfs T cx f1) := fun h4 s H C cl fp => by
            rcases cIfs_of h4 with ⟨rfl, rfl⟩ | ⟨t, t', rfl, rfl, q1, q2⟩
            · exact pts_nil
            · exact pts_one ((ih _ W0 _ (GB s H C cl fp) t t' q1).2.2 q2)
          have hpi1 : ∀ (s : Shared) (H : Hp) (C : Addr) (cl : List (Str × Addr)) (fp : List Addr), PI (X.blk s H scope (compEnvC scope cl C X.env) fp) tg1 iter1 (tI T cx W0 i2) := fun s H C cl fp => pi_X (tg := tg1) (GB s H C cl fp) (fun e e' q => (ih _ W0 _ (GB s H C cl fp) e e' q).1) h6
          have hes : ∀ (s : Shared) (H : Hp) (C : Addr) (cl : List (Str × Addr)) (fp : List Addr), PE (X.blk s H scope (compEnvC scope cl C X.env) fp) elt (tE T cx W0 e1) := fun s H C cl fp => (ih _ W0 _ (GB s H C cl fp) elt e1 h1).1
          have hU : isU i1 = true → tgT t1 = true := fun hu => cTg_T h2 (cIt_U h3 hu)
          have hU1 : isU i2 = true → tgT t2 = true := fun hu => cTg_T h5 (cIt_U h6 hu)
          refine ⟨rfl, ?_, fun y py spos i hy hyl hsw => ?_⟩
          · exact (pe_lc2 G.calm G.nd hpi blk (slotsT_sub hin.2) (hgg h2) (hts h4) hpi1 (hgg h5) (hts h7) hes (fun x => notSet_of hc.1.2 _ x) (fun env x => notSet_of hc.2 env x)).imp fun σ H Q q => comp2_conv G (hif h4) (hif h7) hin.1 (slotsT_in _) hU hU1 σ H Q q
          · exact ⟨fun pins s σ H D I q => (ps_setLc2 G.calm G.nd hy hyl hsw hpi blk (slotsT_sub hin.2) (hgg h2) (hts h4) hpi1 (hgg h5) (hts h7) hes (fun x => notSet_of hc.1.2 _ x) (fun env x => notSet_of hc.2 env x)).run pins s σ H D I (comp2_conv G (hif h4) (hif h7) hin.1 (slotsT_in _) hU hU1 σ H _ q)⟩
        · cases h
      · cases h
    · cases h
  · cases h
theorem snd_call {n : Nat} (ih : SndE T cx k n) {W : WX} {c : Cc} {X : Cx} (G : Good T cx W k c X) {x : Str} {p pos : Pos} {es : List Expr} {kws : List Keyword} {e' : E}
    (h : cCallN c (cE n c) x es kws = some e') : PE X (.Call (.Name x p) es kws pos) (tE T cx W e') ∧ (isFresh e' = true → PE X (.Call (.Name x p) es kws pos) (tF T cx W e')) := by
  have hf : ∀ e e', cE n c e = some e' → PE X e (tE T cx W e') := fun e e' q => (ih c W X G e e' q).1
  have nofresh : ∀ {e' : E}, PE X (.Call (.Name x p) es kws pos) (tE T cx W e') → isFresh e' = false → PE X (.Call (.Name x p) es kws pos) (tE T cx W e') ∧ (isFresh e' = true → PE X (.Call (.Name x p) es kws pos) (tF T cx W e')) := fun a b => ⟨a, (fun z => by rw [b] at z; cases z)⟩
  unfold cCallN at h
  split at h
  · rename_i f ps hl
    split at hl
    · rename_i hg
      rw [Bool.and_eq_true] at hg
      have hbn : badName x = false := by simpa using hg.2
      split at h
      · split at h
        · rename_i hlen
          obtain ⟨es', h1, rfl⟩ := map_some h
          exact nofresh (pe_callX G hg.1 hbn hl hlen h1 (pa_X hf h1)) rfl
        · cases h
      · split at h
        · rename_i ks es' h1 h2
          split at h
          · rename_i perm hp
            split at h
            · rename_i hc
              rw [Bool.and_eq_true, decide_eq_true_eq, List.any_eq_true] at hc
              obtain ⟨⟨q, hq, eq⟩, hpl⟩ := hc
              have eq : q = _ := of_decide_eq_true eq
              rw [eq] at hq
              cases Option.some.inj h
              exact nofresh (pe_callKX G hf hg.1 hbn hl h1 h2 hq hpl) rfl
            · cases h
          · cases h
        · cases h
    · cases hl
  · split at h
    · rename_i a
      cases hs : cSet c (cE n c) x a with
      | some es =>
        rw [hs] at h
        cases Option.some.inj h
        exact snd_set G hf hs
      | none =>
      rw [hs] at h
      simp only at h
      cases hv : cVals c (cE n c) x a with
      | some es =>
        rw [hv] at h
        cases Option.some.inj h
        unfold cVals at hv
        split at hv
        · rename_i o m apos cpos
          split at hv
          · rename_i hc
            rw [Bool.and_eq_true, Bool.and_eq_true, Bool.and_eq_true, Bool.and_eq_true, decide_eq_true_eq, decide_eq_true_eq] at hc
            obtain ⟨⟨⟨⟨rfl, rfl⟩, c3⟩, c4⟩, c5⟩ := hc
            obtain ⟨o', ho, rfl⟩ := map_some hv
            have g := pe_valsLX G (p := p) (pos := pos) c3 c5 c4 (hf o o' ho)
            exact ⟨g.ofF, fun _ => g⟩
          · cases hv
        · cases hv
      | none =>
      rw [hv] at h
      simp only at h
      unfold cCall1 at h
      split at h
      · rename_i hc
        rw [Bool.and_eq_true] at hc
        cases ha : cE n c a with
        | none => rw [ha] at h; cases h
        | some a' =>
          rw [ha] at h
          have he : cEx (cE n c) [a] = some (.cons a' .nil) := by
            unfold cEx
            rw [hc.2, ha]
            rfl
          cases hb : blt1Of x with
          | some b =>
            rw [hb] at h
            cases Option.some.inj h
            exact nofresh (pe_bltX G hc.1 (boot_blt1Of hb) he (pa_X hf he)) rfl
          | none =>
            rw [hb] at h
            cases hb2 : bltlOf x with
            | none => rw [hb2] at h; cases h
            | some b =>
              rw [hb2] at h
              cases Option.some.inj h
              have g := pe_bltlX G (p := p) (pos := pos) hc.1 (boot_bltlOf hb2).1 (boot_bltlOf hb2).2 he (pa_X hf he)
              exact ⟨g.ofF, fun _ => g⟩
      · cases h
    · rename_i a b
      unfold cCall2 at h
      split at h
      · rename_i hc
        rw [Bool.and_eq_true, Bool.and_eq_true] at hc
        split at h
        · rename_i ex
          subst ex
          cases ha : cE n c a with
          | none => rw [ha] at h; cases h
          | some a' =>
            rw [ha] at h
            have h : cIsi c a' b = some e' := h
            cases b with
            | Tuple es j p1 =>
              unfold cIsi at h
              simp only at h
              cases ht : cClss c es with
              | none => rw [ht] at h; cases h
              | some ts =>
                rw [ht] at h
                simp only at h
                split at h
                · rename_i hz
                  cases Option.some.inj h
                  exact nofresh (pe_isiN G hc.1.1 hc.1.2 ht hz (hf a a' ha)) rfl
                · cases h
            | Name y py =>
              unfold cIsi at h
              simp only at h
              obtain ⟨ts, ht, rfl⟩ := map_some h
              exact nofresh (pe_isi1 G hc.1.1 hc.1.2 ht (hf a a' ha)) rfl
            | _ => simp [cIsi] at h
        · cases ha : cE n c a with
          | none => rw [ha] at h; cases h
          | some a' =>
            rw [ha] at h
            cases hb : cE n c b with
            | none => rw [hb] at h; cases h
            | some b' =>
              rw [hb] at h
              cases hk : blt2Of x with
              | none => rw [hk] at h; cases h
              | some kk =>
                rw [hk] at h
                cases Option.some.inj h
                have he : cEx (cE n c) [a, b] = some (.cons a' (.cons b' .nil)) := by
                  unfold cEx cEx
                  rw [hc.1.2, hc.2, ha, hb]
                  rfl
                exact nofresh (pe_bltX G hc.1.1 (boot_blt2Of hk) he (pa_X hf he)) rfl
      · cases h
    · cases h
theorem snd_E : ∀ n, SndE T cx k n
  | 0 => fun c W X G e e' h => by simp [cE] at h
  | n + 1 => fun c W X G e e' h => by
    have ih := snd_E n
    have hf : ∀ e e', cE n c e = some e' → PE X e (tE T cx W e') := fun e e' q => (ih c W X G e e' q).1
    cases e with
    | Name x p =>
      have h : cName c x = some e' := h
      refine ofPE (pe_cName G h) ?_ (fun _ => rfl)
      unfold cName at h
      split at h
      · cases Option.some.inj h; rfl
      · split at h
        · obtain ⟨g, _, rfl⟩ := map_some h
          rfl
        · cases h
    | Constant kk j p =>
      have h : cConst kk = some e' := h
      refine ofPE (pe_cConst h) ?_ (fun _ => rfl)
      cases kk <;> first | (cases Option.some.inj h; rfl) | (simp [cConst] at h)
    | BinOp a op b p =>
      unfold cE at h
      simp only at h
      split at h
      · rename_i a' b' h1 h2
        cases Option.some.inj h
        exact ofPF (pe_binX G op (hf a a' h1) (hf b b' h2)) (fun _ => rfl)
      · cases h
    | UnaryOp op a p =>
      have h : cUn (cE n c) op a = some e' := h
      unfold cUn at h
      split at h
      · obtain ⟨a', h1, rfl⟩ := map_some h
        obtain ⟨i1, i2, i3⟩ := ih c W X G a a' h1
        exact ⟨pe_notX i1, (fun z => nomatch z), fun ht => pt_notX (i3 ht)⟩
      · obtain ⟨a', h1, rfl⟩ := map_some h
        exact ofPE (pe_negX (hf a a' h1)) rfl (fun _ => rfl)
      · cases h
    | BoolOp op es p =>
      have main : cBo (cE n c) op es = some e' → PE X (.BoolOp op es p) (tE T cx W e') ∧ (isFresh e' = true → PE X (.BoolOp op es p) (tF T cx W e')) ∧ (tstOk e' = true → PT X (.BoolOp op es p) (tT T cx W e')) := fun h => by
        obtain ⟨i1, i2⟩ := snd_Bo G (f := cE n c) (fun e e' q => ⟨(ih c W X G e e' q).1, (ih c W X G e e' q).2.2⟩) op (pos := p) h
        refine ⟨i1, fun hz => ?_, fun ht => (i2 ht).pt⟩
        match es, h with
        | [a], h =>
          obtain ⟨_, j2, _⟩ := ih c W X G a e' h
          exact pe_one (j2 hz)
        | a :: b :: r, h =>
          unfold cBo at h
          split at h
          · cases op <;> (cases Option.some.inj h; cases hz)
          · cases h
      have h : cBool (cE n c) op es = some e' := h
      unfold cBool at h
      split at h
      · split at h
        · split at h
          · rename_i a' b' h1 h2
            split at h
            · rename_i hz
              rw [Bool.and_eq_true] at hz
              cases Option.some.inj h
              have g := pe_orLX (pos := p) ((ih c W X G _ a' h1).2.1 hz.1) ((ih c W X G _ b' h2).2.1 hz.2)
              exact ⟨g.ofF, fun _ => g, fun z => nomatch z⟩
            · cases h
          · cases h
        · exact main h
      · exact main h
    | Compare a ops bs p =>
      have h : cCompare (cE n c) a ops bs = some e' := h
      unfold cCompare at h
      split at h
      · split at h
        · cases h
        · rename_i hm
          split at h
          · rename_i a' b' h1 h2
            cases Option.some.inj h
            have hm := (Bool.not_eq_true _).mp hm
            exact ⟨pe_cmpX G _ hm (hf _ a' h1) (hf _ b' h2), (fun z => nomatch z), fun _ => pt_cmpX G _ hm (hf _ a' h1) (hf _ b' h2)⟩
          · cases h
      · split at h
        · cases h
        · rename_i hm
          split at h
          · rename_i a' b' d' h1 h2 h3
            cases Option.some.inj h
            have hm := (Bool.not_eq_true _).mp hm
            exact ⟨pe_chainX G _ _ hm (hf _ a' h1) (hf _ b' h2) (hf _ d' h3), (fun z => nomatch z), fun _ => pt_chainX G _ _ hm (hf _ a' h1) (hf _ b' h2) (hf _ d' h3)⟩
          · cases h
      · cases h
    | IfExp t a b p =>
      unfold cE at h
      simp only at h
      split at h
      · rename_i t' a' b' h1 h2 h3
        cases Option.some.inj h
        obtain ⟨q1, q2⟩ := tst_of h1
        exact ⟨pe_iteX ((ih c W X G t t' q1).2.2 q2) (hf a a' h2) (hf b b' h3), (fun z => nomatch z), fun z => nomatch z⟩
      · cases h
    | Tuple es j p =>
      obtain ⟨es', h1, rfl⟩ := map_some (show (cEs (cE n c) es).map E.tup = some e' from h)
      exact ofPE (pe_tupX (pa_D G hf h1)) rfl (fun _ => rfl)
    | List es p =>
      obtain ⟨es', h1, rfl⟩ := map_some (show (cEs (cE n c) es).map E.lst = some e' from h)
      exact ofPF (pe_lstX (pa_D G hf h1)) (fun _ => rfl)
    | Subscript a i p =>
      have h : cSub (cE n c) a i = some e' := h
      unfold cSub at h
      split at h
      · split at h
        · rename_i a' lo' hi' h1 h2 h3
          cases Option.some.inj h
          exact ofPF (pe_sliceX G hf h2 h3 (hf a a' h1)) (fun _ => rfl)
        · cases h
      · split at h
        · rename_i hr
          obtain ⟨a', h1, rfl⟩ := map_some h
          exact ofPF (pe_revX G.K hr (hf a a' h1)) (fun _ => rfl)
        · split at h
          · rename_i hp
            split at h
            · rename_i a' i' h1 h2
              cases Option.some.inj h
              exact ofPE (pe_subX G hp (hf a a' h1) (hf _ i' h2)) rfl (fun _ => rfl)
            · cases h
          · cases h
    | ListComp elt gens scope p =>
      have h : cComp c (cE n c) (cE n (inComp c scope)) elt gens scope = some e' := h
      obtain ⟨q1, q2, _⟩ := snd_comp ih G (pos := p) h
      exact ofPF q2 (fun _ => rfl)
    | Call fn es kws p =>
      have h : cCall c (cE n c) fn es kws p = some e' := h
      unfold cCall at h
      split at h
      · obtain ⟨q1, q2⟩ := snd_call ih G (pos := p) h
        exact ⟨q1, q2, fun _ => pt_val q1 (fun _ => rfl)⟩
      · rename_i o m apos
        split at h
        · rename_i em
          subst em
          unfold cGet at h
          split at h
          · rename_i hc
            rw [Bool.and_eq_true] at hc
            split at h
            · rename_i a
              split at h
              · rename_i hn
                split at h
                · rename_i o' a' h1 h2
                  cases Option.some.inj h
                  exact ofPE (pe_get1X G hc.2 hn hc.1 (hf _ o' h1) (hf a a' h2)) rfl (fun _ => rfl)
                · cases h
              · cases h
            · rename_i a b
              split at h
              · rename_i hn
                rw [Bool.and_eq_true] at hn
                split at h
                · rename_i o' a' b' h1 h2 h3
                  cases Option.some.inj h
                  exact ofPE (pe_get2X G hc.2 hn.1 hn.2 hc.1 (hf _ o' h1) (hf a a' h2) (hf b b' h3)) rfl (fun _ => rfl)
                · cases h
              · cases h
            · cases h
          · cases h
        unfold cMeth at h
        split at h
        · rename_i y py
          split at h
          · rename_i kk o' h1 h2
            split at h
            · rename_i hc
              rw [Bool.and_eq_true, decide_eq_true_eq] at hc
              obtain ⟨hl, rfl⟩ := hc
              cases Option.some.inj h
              have hk : kk = .pop := by
                have : methOf "pop" = some M.pop := by decide +kernel
                rw [this] at h1
                exact (Option.some.inj h1).symm
              subst hk
              exact ofPE (pe_methX0 G hl (hf _ o' h2)) rfl (fun _ => rfl)
            · cases h
          · cases h
        · rename_i y py a
          split at h
          · rename_i kk o' a' h1 h2 h3
            split at h
            · rename_i hc
              rw [Bool.and_eq_true] at hc
              cases Option.some.inj h
              exact ofPE (pe_methX1 G h1 hc.1 hc.2 (hf _ o' h2) (hf a a' h3)) rfl (fun _ => rfl)
            · cases h
          · cases h
        · cases h
      · cases h
    | _ => cases h
end
end Mi
end

section
set_option maxRecDepth 100000
/-! MiCmpS: statements turned into the small language. -/
namespace Mi
open PySem
def isCompE : Expr → Bool
  | .ListComp _ _ _ _ => true
  | .SetComp _ _ _ _ => true
  | .DictComp _ _ _ _ _ => true
  | _ => false
def isListComp : Expr → Bool
  | .ListComp _ _ _ _ => true
  | _ => false
def isTupE : Expr → Bool
  | .Tuple _ _ _ => true
  | _ => false
def cX (c : Cc) (e : Expr) : Option E := cE 60 c e
def chgd (c : Cc) (x : Str) : Bool := c.chg.any fun y => decide (x = y)
def isFun (sc : Scope) : Bool := match sc.kind with
  | .function => true
  | _ => false
/-- name = [..]: does the store come ahead of the swap? -/
def swB (sc scope : Scope) (py pos : Pos) (y : Str) : Bool := sc.names.lookup y == some .local && py.line == pos.line && !(scope.names.any fun (n, k) => n == y && (k == .local || k == .cell))
/-- a, b = x, y by plain names -/
def cPar (c : Cc) : List Expr → List Expr → Option (List (Nat × Bool) × Es)
  | [], [] => some ([], .nil)
  | .Name x _ :: ts, e :: es => match cLoc c x, cX c e, cPar c ts es with
    | some i, some e', some (is, es') => if noStar e && (!chgd c x || isFresh e') then some ((i, chgd c x) :: is, .cons e' es') else none
    | _, _, _ => none
  | _, _ => none
def nodupN : List Nat → Bool
  | [] => true
  | i :: is => !is.contains i && nodupN is
/-- the names that count for a swap -/
def parNames (sc : Scope) (ts : List Expr) : List Str := ts.filterMap fun
      | .Name id pos => if sc.names.lookup id == some .local && pos.line == (ts.head?.map (·.pos.line)).getD 0 then some id else none
      | _ => none
/-- are the stores swapped? (two or three local names on one line) -/
def swapOk (sc : Scope) (ts vs : List Expr) : Option Bool :=
  if !(ts.length == 2 || ts.length == 3) || vs.length != ts.length then some false
  else if (parNames sc ts).length != ts.length || (parNames sc ts).eraseDups.length != (parNames sc ts).length then some false
  else if vs.all (foldedForSure 8) then some false
  else if vs.all (constantsAlone 8) then none
  else some true
def cAsgN (c : Cc) (x : Str) (e' : Option E) : Option S := match cLoc c x, e' with
    | some i, some e' => if chgd c x then (if isFresh e' then some (.new i e') else none) else some (.set (.one i) e')
    | _, _ => none
def cParS (c : Cc) (ts vs : List Expr) : Option S := match swapOk c.sc ts vs, cPar c ts vs with
      | some _, some (is, es') => if nodupN (is.map (·.1)) && isFun c.sc && decide (is.length ≤ 1000) then some (.par is es') else none
      | _, _ => none
def cTupS (c : Cc) (ts : List Expr) (e : Expr) : Option S := if isCompE e || isTupE e then none else match cTgs c ts, cX c e with
      | some is, some e' => some (.set (.tup is) e')
      | _, _ => none
def cAsg (c : Cc) (t e : Expr) : Option S :=
  match t with
  | .Name x _ => if isCompE e && !(isListComp e && isFun c.sc) then none else cAsgN c x (cX c e)
  | .Tuple ts _ _ => match e with
    | .Tuple vs _ _ => cParS c ts vs
    | e => cTupS c ts e
  | .Subscript (.Name y _) k _ => if isCompE e || !plainSl k then none else match cVar c y, cX c k, cX c e with
    | some i, some k', some e' => some (.setI i k' e')
    | _, _, _ => none
  | _ => none
/-- is the name one of a dict that is changed? -/
def dctd (c : Cc) (x : Str) : Bool := c.chg.any fun y => decide (y = ("{" : Str) ++ x)
def isDctE (c : Cc) : Expr → Bool
  | .Name x _ => dctd c x
  | _ => false
def cAsgA (c : Cc) (t e : Expr) : Option S :=
  match t, e with
  | .Name x _, .Dict [] [] _ => if dctd c x then (cLoc c x).map fun i => .newD i false else none
  | .Subscript (.Name y py) k p, e => if dctd c y then (if isCompE e || !plainSl k then none else match cVar c y, cX c k, cX c e with
    | some i, some k', some e' => some (.setK i k' e')
    | _, _, _ => none) else cAsg c (.Subscript (.Name y py) k p) e
  | t, e => cAsg c t e
/-! ### errors -/
def cXc (c : Cc) (x : Str) : Option (Option Str × Bool) := if isGlb (c.sc.names.lookup x) && !badName x then c.xc.lookup x else none
def cRaise (c : Cc) (e : Expr) : S := match e with
  | .Call (.Name x _) args [] _ => match cXc c x, args with
    | some (some _, _), [a] => if noStar a then (match cX c a with
      | some a' => .raise x (.cons a' .nil)
      | none => .stuck) else .stuck
    | some (none, _), [] => .raise x .nil
    | _, _ => .stuck
  | _ => .stuck
/-- the body of a try: x = e, or ifs of such -/
def cB : Nat → Cc → Stmt → Option S
  | 0, _, _ => none
  | n + 1, c, s => match s with
    | .Assign [.Name x px] e _ => match cAsg c (.Name x px) e with
      | some (.set (.one i) e') => some (.set (.one i) e')
      | _ => none
    | .If t [a] [b] _ => match tst (cX c t), cB n c a, cB n c b with
      | some t', some a', some b' => some (.ite t' (.cons a' .nil) (.cons b' .nil))
      | _, _, _ => none
    | _ => none
/-- an item of a clause's list -/
def cHIt (c : Cc) (n : Str) (fo : Option Str) (lk : Bool) (e : Expr) : Option HIt := match e with
  | .Constant (.str x) _ _ => some (.con (.str x))
  | .Attribute (.Name y _) f _ => if y = n && decide (fo = some f) then some .fld else none
  | .Call (.Name g _) [.Name y _, .Name b _] [] _ => if g = ("isinstance" : Str) && decide (y = n) && cBlt c "isinstance" && cBlt c b then
      (if b = ("LookupError" : Str) then some (.isa lk) else if b = ("ValueError" : Str) then some (.isa (!lk)) else none) else none
  | _ => none
def cHIts (c : Cc) (n : Str) (fo : Option Str) (lk : Bool) : List Expr → Option (List HIt)
  | [] => some []
  | e :: r => match cHIt c n fo lk e, cHIts c n fo lk r with
    | some a, some l => some (a :: l)
    | _, _ => none
def cHd (c : Cc) (h : ExceptHandler) : Option Hd := match h with
  | .ExceptHandler (some (.Name x _)) (some n) [.Assign [.Name t _] (.List es _) _] _ => match cXc c x, cLoc c n, cLoc c t with
    | some (fo, lk), some i, some j => if decide (c.sc.names.lookup n = some .local) && decide (i ≠ j) && decide (es.length ≤ 100) then (cHIts c n fo lk es).map fun l => ⟨x, i, j, l⟩ else none
    | _, _, _ => none
  | _ => none
def cHds (c : Cc) : List ExceptHandler → Option (List Hd)
  | [] => some []
  | h :: r => match cHd c h, cHds c r with
    | some a, some l => some (a :: l)
    | _, _ => none
def cSs (f : Stmt → Option S) : List Stmt → Option Ss
  | [] => some .nil
  | s :: r => match f s, cSs f r with
    | some s', some r' => some (.cons s' r')
    | _, _ => none
def cS : Nat → Cc → Stmt → Option S
  | 0, _, _ => none
  | n + 1, c, s => match s with
    | .Expr e _ => if isCompE e then none else (cX c e).map .ex
    | .Assign ts e _ => match ts with
      | [t] => cAsgA c t e
      | _ => none
    | .Return o _ => match o with
      | some e => if c.kp then match cX c e with
        | some e' => if isFresh e' then some (.retC e') else none
        | none => none
        else if isDctE c e then (cX c e).map .retD else (cX c e).map .ret
      | none => some .retN
    | .If t a b _ => match tst (cX c t), cSs (cS n c) a, cSs (cS n c) b with
      | some t', some a', some b' => some (.ite t' a' b')
      | _, _, _ => none
    | .For tg it b els _ => match els with
      | [] => if notSet it then match cTg c tg, cIt c (cX c) tg it, cSs (cS n c) b with
        | some t', some i', some b' => some (.for_ t' i' b')
        | _, _, _ => none else none
      | _ => none
    | .While t b els _ => match els with
      | [] => match tst (cX c t), cSs (cS n c) b with
        | some t', some b' => some (.while_ t' b')
        | _, _ => none
      | _ => none
    | .Pass _ => some .pass
    | .Break _ => some .brk
    | .Continue _ => some .cont
    | .Raise o f _ => match o, f with
      | some e, none => some (cRaise c e)
      | _, _ => some .stuck
    | .Try b hs els fin _ => match b, hs, els, fin with
      | [s], h :: r, [], [] => match cB 10 c s, cHds c (h :: r) with
        | some b', some l => some (.try_ (.cons b' .nil) l)
        | _, _ => none
      | _, _, _, _ => none
    | _ => none
/-- the names of a def by slot: as its scope tells the fast ones, or its own ones -/
def fastOf : List (Str × Const) → List Str
  | [] => []
  | (k, .str x) :: r => if k == ("fast" : Str) then x :: fastOf r else fastOf r
  | _ :: r => fastOf r
def slotsOf (sc : Scope) : List Str := match fastOf sc.more with
  | [] => ownNames sc.names
  | l => l
structure Env1 where
  fid : List (Str × (Nat × List Str))
  gid : List (Str × Nat)
  free : List Str
  kwt : List (Nat × Nat × List Str × List Nat)
  xc : List (Str × (Option Str × Bool)) := []
def ccOf (E : Env1) (sc : Scope) (chg : List Str) (kp : Bool) : Cc := { kp := kp, N := slotsOf sc, sc := sc, fid := E.fid, gid := E.gid, free := E.free, chg := chg, asg := slotsOf sc, kwt := E.kwt, xc := E.xc }
def cFn (E : Env1) (st : Stmt) (ps chg : List Str) (keep : Bool) : Option Fn :=
  match cSs (cS 40 (ccOf E (L2.defScope st) chg keep)) (L2.defBody st) with
  | some b => some { params := ps.length, slots := (slotsOf (L2.defScope st)).length, keep := keep, body := b }
  | none => none
end Mi
end

section
set_option maxRecDepth 100000
/-! MiStm: statements. -/
namespace Mi
open PySem PySem.Spec PyProof.Rows L2
theorem _root_.L2.PS.imp {X : Cx} {s : Stmt} {t t' : TS} (h : PS X s t) (k : ∀ D σ H, t' D σ H → t D σ H) : PS X s t' := ⟨fun pins s σ H D I q => h.run pins s σ H D I (k D σ H q)⟩
theorem _root_.L2.PSs.imp {X : Cx} {s : List Stmt} {t t' : TS} (h : PSs X s t) (k : ∀ D σ H, t' D σ H → t D σ H) : PSs X s t' := ⟨fun pins s σ H D I q => h.run pins s σ H D I (k D σ H q)⟩
abbrev WE0 (E : XK) : WX := fun cls d _ H => E cls d H
/-- an answer of a statement, and what is wanted behind it -/
def Ps (T : Tb) (E : XK) (Z μ : List Addr) (s : Sto) (H : Hp) (r : R Fl) (D : Ends) : Prop :=
  match r with
  | .ok (.nx ρ) s' => ∀ μ' H' σ', Nx μ s H μ' s' H' → StOk T.K Z μ' s' H' → RhoOk T.K Z μ' s' H' ρ σ' → D.nx σ' H'
  | .ok (.rt x) s' => ∀ μ' H' u, Nx μ s H μ' s' H' → StOk T.K Z μ' s' H' → XvOk T.K Z μ' s' H' u x → D.rt u H'
  | .ok (.bk ρ) s' => ∀ μ' H' σ', Nx μ s H μ' s' H' → StOk T.K Z μ' s' H' → RhoOk T.K Z μ' s' H' ρ σ' → D.bk σ' H'
  | .ok (.ct ρ) s' => ∀ μ' H' σ', Nx μ s H μ' s' H' → StOk T.K Z μ' s' H' → RhoOk T.K Z μ' s' H' ρ σ' → D.ct σ' H'
  | .exc c as s' => ∀ μ' H' cls d, Nx μ s H μ' s' H' → StOk T.K Z μ' s' H' → ExOk T Z μ' s' H' c as cls d → E cls d H'
  | .err => False
def tS (T : Tb) (cx : Ctx) (E : XK) (st : S) : TS := fun D σ H => ∃ Z μ s ρ, StOk T.K Z μ s H ∧ RhoOk T.K Z μ s H ρ σ ∧ Ps T E Z μ s H (ex cx st ρ s) D
/-- .. where the wish of errors knows the slots ahead of it -/
def tS1 (T : Tb) (cx : Ctx) (W : WX) (st : S) : TS := fun D σ H => ∃ Z μ s ρ, StOk T.K Z μ s H ∧ RhoOk T.K Z μ s H ρ σ ∧ Ps T (fun cls d H => W cls d σ H) Z μ s H (ex cx st ρ s) D
def tSs (T : Tb) (cx : Ctx) (E : XK) (st : Ss) : TS := fun D σ H => ∃ Z μ s ρ, StOk T.K Z μ s H ∧ RhoOk T.K Z μ s H ρ σ ∧ Ps T E Z μ s H (exs cx st ρ s) D
section
variable {T : Tb} {cx : Ctx} {E : XK} {k : Nat} {c : Cc} {X : Cx}
theorem Ps.nx {Z μ μ1 : List Addr} {s s1 : Sto} {H H1 : Hp} {r : R Fl} {D : Ends} (h : Ps T E Z μ s H r D) (nx : Nx μ s H μ1 s1 H1) : Ps T E Z μ1 s1 H1 r D := by
  cases r with
  | ok f s2 => cases f <;> exact fun μ2 H2 b nx2 => h μ2 H2 b (nx.trans nx2)
  | exc c as s2 => exact fun μ2 H2 cls d nx2 => h μ2 H2 cls d (nx.trans nx2)
  | err => exact h
theorem Ps.bind {σ : L2.St} {Z μ : List Addr} {s : Sto} {H : Hp} {α α' : Type} {r : R α} {f : α → Sto → R Fl} {Ok1 : List Addr → Sto → Hp → α' → α → Prop} {D : Ends} {P : α' → Hp → Prop} (h : Ps T E Z μ s H (r.bind f) D)
    (k : ∀ a s1 μ1 H1 b, r = .ok a s1 → Nx μ s H μ1 s1 H1 → StOk T.K Z μ1 s1 H1 → Ok1 μ1 s1 H1 b a → Ps T E Z μ1 s1 H1 (f a s1) D → P b H1) : Po T (WE0 E) σ Z μ s H r Ok1 P := by
  cases r with
  | ok a s1 => exact fun μ1 H1 b nx st ok => k a s1 μ1 H1 b rfl nx st ok (Ps.nx (r := f a s1) h nx)
  | exc c as s1 => exact h
  | err => exact h
/-- .. of an expression that may make a list -/
theorem Ps.bindF {σ : L2.St} {Z μ : List Addr} {s : Sto} {H : Hp} {r : R Xv} {f : Xv → Sto → R Fl} {D : Ends} {P : VK} (st0 : StOk T.K Z μ s H) (h : Ps T E Z μ s H (r.bind f) D)
    (k : ∀ a s1 μ1 H1 b, Nx μ s H μ1 s1 H1 → StOk T.K Z μ1 s1 H1 → XvOk T.K Z μ1 s1 H1 b a → Ps T E Z μ1 s1 H1 (f a s1) D → P b H1) : Pf T (WE0 E) σ Z μ s H r P :=
  (Ps.bind (σ := σ) (Ok1 := XOk T Z) h fun a s1 μ1 H1 b _ nx st ok ps => k a s1 μ1 H1 b nx st ok ps).pf st0
/-- a new list becomes a cell -/
theorem new_cell {Z μ μ1 : List Addr} {s s1 : Sto} {H H1 : Hp} {p : Addr} {vs : List V} {ds : List PyData} (st0 : StOk T.K Z μ s H) (nx : Nx μ s H μ1 s1 H1) (st : StOk T.K (p :: Z) μ1 s1 H1) (hp : H p = none) (hl : H1 p = some (.lst vs)) (rv : RvAll T.K H1 (Bz μ1 s1 (p :: Z)) vs ds) :
    Nx μ s H (μ1 ++ [p]) (s1 ++ [.lst ds]) H1 ∧ StOk T.K Z (μ1 ++ [p]) (s1 ++ [.lst ds]) H1 ∧ XvOk T.K Z (μ1 ++ [p]) (s1 ++ [.lst ds]) H1 (.ref p) (.c s1.length) := by
  have nz : p ∉ Z := fun z => by
    obtain ⟨o, e⟩ := st0.zin p z
    rw [hp] at e
    cases e
  obtain ⟨st2, hb⟩ := app_step (c := .lst ds) st nz rfl fun B' hB => ⟨vs, hl, rv.mv (Mv.less hB)⟩
  refine ⟨⟨nx.pre.trans (List.prefix_append _ _), nx.ext, fun a h => ?_, nx.dom⟩, st2, p, ?_, rfl⟩
  · rcases hb a h with h | rfl
    · exact nx.bm a h
    · exact .inr hp
  · rw [List.getElem?_append_right (by have := st.len; omega)]
    rw [show s1.length - μ1.length = 0 by have := st.len; omega]
    rfl

/-! ### plain statements -/
variable {e : Expr} {e' : Mi.E} {pos : Pos}
theorem ps_exX (hc : isCompE e = false) (he : PE X e (tE T cx (WE0 E) e')) : PS X (.Expr e pos) (tS T cx E (.ex e')) := by
  refine (ps_expr he ?_).imp fun D σ H q => ?_
  · cases e <;> first | rfl | (simp [isCompE] at hc)
  · obtain ⟨Z, μ, s, ρ, st, rh, po⟩ := q
    unfold ex at po
    exact ⟨Z, μ, s, ρ, st, rh, po.bind fun x s1 μ1 H1 u e1 nx1 st1 xo po1 => po1 μ1 H1 σ (Nx.refl _ _ _) st1 (rh.nx nx1)⟩
/-- handed back, something being locked from now on -/
theorem ps_retL {te : TE} (he : PE X e te) : PS X (.Return (some e) pos) (fun D σ H => te σ H fun v H1 => D.rt v H1 ∨ ∃ d u, H1 d = some u ∧ Mut (some u) ∧ ∀ od, D.rt v (upd H1 d (.frz od u))) := by
  refine ⟨fun pins s σ H D I hw => ?_⟩
  refine thn ((ps_ret (pos := pos) he).run pins s σ H ⟨D.nx, fun v H1 => D.rt v H1 ∨ ∃ d u, H1 d = some u ∧ Mut (some u) ∧ ∀ od, D.rt v (upd H1 d (.frz od u)), D.bk, D.ct⟩ I hw) fun f s1 q => ?_
  cases f with
  | next => exact q
  | brk => exact q
  | cont => exact q
  | ret v =>
    obtain ⟨x, σ', H', I2, r, q⟩ := q
    rcases q with q | ⟨d, u, hd, mu, q⟩
    · exact ⟨x, σ', H', I2, r, q⟩
    · obtain ⟨od, I3⟩ := I2.lock hd mu
      exact ⟨x, σ', _, I3, r, q od⟩
theorem lock_step {K : PySem.W.Frag} {Z μ : List Addr} {s : Sto} {H : Hp} {n : Nat} {a : Addr} {kvs : List (PyData × PyData)} {ks : List (Key × V)} {od : Obj} (st : StOk K Z μ s H) (e1 : μ[n]? = some a) (e2 : s[n]? = some (.dic false kvs)) (hk : H a = some (.dK ks)) (rk : RvKv K H (Bz μ s Z) ks kvs) :
    Nx μ s H μ (s.set n (.frz (.dict kvs))) (upd H a (.frz od (.dK ks))) ∧ StOk K Z μ (s.set n (.frz (.dict kvs))) (upd H a (.frz od (.dK ks))) ∧ Rv K (upd H a (.frz od (.dK ks))) (Bz μ (s.set n (.frz (.dict kvs))) Z) (.ref a) (.dict kvs) := by
  have hba : Bm μ s a := ⟨n, _, e1, e2, rfl⟩
  have hna : ¬ Bz μ (s.set n (.frz (.dict kvs))) Z a := fun z => by
    rcases z with z | z
    · exact (bm_frz z).2 a st.nd e1 rfl
    · exact st.off a z hba
  have mv : Mv H (upd H a (.frz od (.dK ks))) (Bz μ s Z) (Bz μ (s.set n (.frz (.dict kvs))) Z) :=
    ⟨fun b o e hn => by rw [upd_ne (fun (z : b = a) => hn (.inl (by rw [z]; exact hba)))]; exact e, fun b o e hn z => hn (bz_frz b z)⟩
  have hrv : Rv K (upd H a (.frz od (.dK ks))) (Bz μ (s.set n (.frz (.dict kvs))) Z) (.ref a) (.dict kvs) := .dK ⟨od, upd_same⟩ hna (rk.mv mv)
  refine ⟨⟨List.prefix_refl _, fun b o e hn => by rw [upd_ne (fun (z : b = a) => hn (by rw [z]; exact hba))]; exact e, fun b h => .inl (bm_frz h).1, fun b h => ?_⟩, ⟨by rw [List.length_set]; exact st.len, st.nd, fun b hb h => st.off b hb (bm_frz h).1, fun b hb => ?_, fun m b c' q1 q2 => ?_⟩, hrv⟩
  · by_cases eb : b = a
    · rw [eb, upd_same]; exact fun z => nomatch z
    · rw [upd_ne eb]; exact h
  · obtain ⟨u, e⟩ := st.zin b hb
    by_cases eb : b = a
    · rw [eb]; exact ⟨_, upd_same⟩
    · exact ⟨u, by rw [upd_ne eb]; exact e⟩
  · by_cases hm : n = m
    · subst hm
      rw [e1] at q1
      cases q1
      rw [sset_self e2] at q2
      cases Option.some.inj q2
      exact ⟨hrv, ⟨_, upd_same⟩, hna⟩
    · rw [List.getElem?_set_ne hm] at q2
      refine (st.cell m b c' q1 q2).mv mv fun _ o e => ?_
      rw [upd_ne (fun (z : b = a) => hm (nodup_at st.nd e1 (z ▸ q1)))]
      exact e
theorem ps_retX (he : PE X e (tE T cx (WE0 E) e')) : PS X (.Return (some e) pos) (tS T cx E (.ret e')) := by
  refine (ps_ret he).imp fun D σ H q => ?_
  obtain ⟨Z, μ, s, ρ, st, rh, po⟩ := q
  unfold ex at po
  exact ⟨Z, μ, s, ρ, st, rh, po.bind fun x s1 μ1 H1 u e1 nx1 st1 xo po1 => po1 μ1 H1 u (Nx.refl _ _ _) st1 xo⟩
theorem ps_retDX (he : PE X e (tE T cx (WE0 E) e')) : PS X (.Return (some e) pos) (tS T cx E (.retD e')) := by
  refine (ps_retL he).imp fun D σ H q => ?_
  obtain ⟨Z, μ, s, ρ, st, rh, po⟩ := q
  unfold ex at po
  refine ⟨Z, μ, s, ρ, st, rh, po.bind fun x s1 μ1 H1 u e1 nx1 st1 xo po1 => ?_⟩
  unfold retX at po1
  split at po1
  · rename_i n
    split at po1
    · rename_i t kvs ec
      split at po1
      · exact absurd po1 fun z => z
      · obtain ⟨a, ha, rfl⟩ := xo
        have hc := st1.cell n a _ ha ec
        cases t with
        | true => exact absurd hc fun z => z
        | false =>
          obtain ⟨ks, hk, rk⟩ := hc
          refine .inr ⟨a, .dK ks, hk, trivial, fun od => ?_⟩
          obtain ⟨nx2, st2, rv2⟩ := lock_step (od := od) st1 ha ec hk rk
          exact po1 μ1 _ _ nx2 st2 rv2
    · exact .inl (po1 μ1 H1 u (Nx.refl _ _ _) st1 xo)
  · exact .inl (po1 μ1 H1 u (Nx.refl _ _ _) st1 xo)
theorem ps_retNX : PS X (.Return none pos) (tS T cx E .retN) := by
  refine ps_retN.imp fun D σ H q => ?_
  obtain ⟨Z, μ, s, ρ, st, rh, po⟩ := q
  unfold ex at po
  exact po μ H _ (Nx.refl _ _ _) st .non
theorem ps_retCX (he : PE X e (tF T cx (WE0 E) e')) : PS X (.Return (some e) pos) (tS T cx E (.retC e')) := by
  refine (ps_ret he).imp fun D σ H q => ?_
  obtain ⟨Z, μ, s, ρ, st, rh, po⟩ := q
  unfold ex at po
  refine ⟨Z, μ, s, ρ, st, rh, ?_⟩
  cases hr : ev cx e' ρ s with
  | err => rw [hr] at po; exact po
  | exc c as s1 => rw [hr] at po; exact po
  | ok x s1 =>
    rw [hr] at po
    cases x with
    | c n => exact absurd po fun z => z
    | w ns => exact absurd po fun z => z
    | v d =>
      cases d with
      | list ds =>
        intro μ1 H1 p vs nx st1 hp hl rv
        obtain ⟨a, b, d⟩ := new_cell st nx st1 hp hl rv
        exact po _ _ _ a b d
      | _ => exact absurd po fun z => z
theorem ps_passX : PS X (.Pass pos) (tS T cx E .pass) := by
  refine ps_pass.imp fun D σ H q => ?_
  obtain ⟨Z, μ, s, ρ, st, rh, po⟩ := q
  unfold ex at po
  exact po μ H σ (Nx.refl _ _ _) st rh
theorem ps_stuckX {st : Stmt} : PS X st (tS T cx E .stuck) := by
  refine ⟨fun pins s σ H D I q => ?_⟩
  obtain ⟨Z, μ, s, ρ, st, rh, po⟩ := q
  unfold ex at po
  exact absurd po fun z => z
theorem ps_brkX : PS X (.Break pos) (tS T cx E .brk) := by
  refine ps_break.imp fun D σ H q => ?_
  obtain ⟨Z, μ, s, ρ, st, rh, po⟩ := q
  unfold ex at po
  exact po μ H σ (Nx.refl _ _ _) st rh
theorem ps_contX : PS X (.Continue pos) (tS T cx E .cont) := by
  refine ps_continue.imp fun D σ H q => ?_
  obtain ⟨Z, μ, s, ρ, st, rh, po⟩ := q
  unfold ex at po
  exact po μ H σ (Nx.refl _ _ _) st rh
theorem pss_X {f : Stmt → Option S} (hf : ∀ s s', f s = some s' → PS X s (tS T cx E s')) : ∀ {ss : List Stmt} {ss' : Ss}, cSs f ss = some ss' → PSs X ss (tSs T cx E ss')
  | [], ss', h => by
    cases Option.some.inj h
    refine pss_nil.imp fun D σ H q => ?_
    obtain ⟨Z, μ, s, ρ, st, rh, po⟩ := q
    unfold exs at po
    exact po μ H σ (Nx.refl _ _ _) st rh
  | a :: r, ss', h => by
    unfold cSs at h
    split at h
    · rename_i a' r' h1 h2
      cases Option.some.inj h
      refine (pss_cons (hf a a' h1) (pss_X hf h2)).imp fun D σ H q => ?_
      obtain ⟨Z, μ, s, ρ, st, rh, po⟩ := q
      refine ⟨Z, μ, s, ρ, st, rh, ?_⟩
      unfold exs at po
      cases q : ex cx a' ρ s with
      | err => rw [q] at po; exact po
      | exc c as s1 => rw [q] at po; exact po
      | ok fl s1 =>
        rw [q] at po
        cases fl with
        | nx ρ1 => exact fun μ1 H1 σ1 nx1 st1 rh1 => ⟨Z, μ1, s1, ρ1, st1, rh1, Ps.nx (r := exs cx r' ρ1 s1) po nx1⟩
        | rt x => exact po
        | bk ρ1 => exact po
        | ct ρ1 => exact po
    · cases h
theorem ps_ifX {t : Expr} {a b : List Stmt} {t' : Mi.E} {a' b' : Ss} (ht : PT X t (tT T cx (WE0 E) t')) (ha : PSs X a (tSs T cx E a')) (hb : PSs X b (tSs T cx E b')) : PS X (.If t a b pos) (tS T cx E (.ite t' a' b')) := by
  refine (ps_if ht ha hb).imp fun D σ H q => ?_
  obtain ⟨Z, μ, s, ρ, st, rh, po⟩ := q
  unfold ex at po
  refine ⟨Z, μ, s, ρ, st, rh, po.bind fun x s1 μ1 H1 u e1 nx1 st1 xo po1 => ?_⟩
  split at po1
  · exact ⟨true, bl_of xo, iteT ⟨Z, μ1, s1, ρ, st1, rh.nx nx1, po1⟩⟩
  · exact ⟨false, bl_of xo, iteF ⟨Z, μ1, s1, ρ, st1, rh.nx nx1, po1⟩⟩
  · exact absurd po1 fun z => z

/-! ### loops -/
theorem ps_forX (G : Good T cx (WE0 E) k c X) (hp : PassesOwn (model X.prog X.w) X.A X.env X.xe) {tg iter : Expr} {b : List Stmt} {t' : Tg} {i' : It} {b' : Ss} (hs : notSet iter = true) (hg : cTg c tg = some t') (hi : PI X tg iter (tI T cx (WE0 E) i')) (hU : isU i' = true → tgT t' = true) (hb : PSs X b (tSs T cx E b')) :
    PS X (.For tg iter b [] pos) (tS T cx E (.for_ t' i' b')) := by
  refine (ps_for hp G.calm hi (pg_X G.N G.sc G.nd G.calm G.fnk hg) hb (fun x => notSet_of hs _ x)).imp fun D σ H q => ?_
  obtain ⟨Z, μ, s, ρ, st, rh, po⟩ := q
  unfold ex at po
  refine ⟨Z, μ, s, ρ, st, rh, po.bind fun src s1 μ1 H1 J e1 nx1 st1 so po1 => ?_⟩
  rw [forW_eq] at po1
  generalize hB : (fun (d : PyData) (ρ : Rho) (s : Sto) => match bindT t' d ρ with
      | some ρ => exs cx b' ρ s
      | none => .err) = body at po1
  refine ⟨fun i m σ H => ∃ μ s ρ, Nx μ1 s1 H1 μ s H ∧ StOk T.K Z μ s H ∧ RhoOk T.K Z μ s H ρ σ ∧ Ps T E Z μ s H (forC body (srcAt src) m i ρ s) D, ⟨fuelOf src, μ1, s1, ρ, Nx.refl _ _ _, st1, rh.nx nx1, po1⟩, fun i m σ H hW => ?_⟩
  obtain ⟨μ2, s2, ρ2, nx, st2, rh2, pf⟩ := hW
  obtain ⟨hstop, hgo⟩ := so i μ2 s2 H Z (nx.nz _) (fun a h => .inl h) st2
  cases m with
  | zero => exact absurd pf fun z => z
  | succ m =>
    unfold forC at pf
    cases es : srcAt src s2 i with
    | none => rw [es] at pf; exact absurd pf fun z => z
    | some o =>
      cases o with
      | none =>
        rw [es] at pf
        exact .inl ⟨hstop es, pf μ2 H σ (Nx.refl _ _ _) st2 rh2⟩
      | some d =>
        rw [es] at pf
        simp only at pf
        obtain ⟨g1, g2⟩ := hgo d es
        refine .inr ⟨g1, fun σ' H' => ∃ μ s ρ, Nx μ1 s1 H1 μ s H' ∧ StOk T.K Z μ s H' ∧ RhoOk T.K Z μ s H' ρ σ' ∧ Ps T E Z μ s H' (forC body (srcAt src) m (i + 1) ρ s) D, fun σ' H' h => ⟨m, Nat.lt_succ_self _, h⟩, fun x H' hy => ?_⟩
        obtain ⟨nxy, sty, rvx⟩ := g2 x H' hy
        cases eb : bindT t' d ρ2 with
        | none =>
          rw [← hB] at pf
          simp only [eb] at pf
          exact absurd pf fun z => z
        | some ρ3 =>
          refine bind_ok (X := X) G.K hU (rh2.nx nxy) rvx eb fun σ3 rh3 _ => ?_
          have hbd : body d ρ2 s2 = exs cx b' ρ3 s2 := by
            rw [← hB]
            simp only [eb]
          rw [hbd] at pf
          refine ⟨Z, μ2, s2, ρ3, sty, rh3, ?_⟩
          cases q : exs cx b' ρ3 s2 with
          | err => rw [q] at pf; exact pf
          | exc c as s4 =>
            rw [q] at pf
            exact fun μ4 H4 cls d nx4 st4 x4 => pf μ4 H4 cls d (nxy.trans nx4) st4 x4
          | ok fl s4 =>
            rw [q] at pf
            cases fl with
            | nx ρ4 => exact fun μ4 H4 σ4 nx4 st4 rh4 => ⟨μ4, s4, ρ4, (nx.trans nxy).trans nx4, st4, rh4, Ps.nx (r := forC body (srcAt src) m (i + 1) ρ4 s4) pf (nxy.trans nx4)⟩
            | ct ρ4 => exact fun μ4 H4 σ4 nx4 st4 rh4 => ⟨μ4, s4, ρ4, (nx.trans nxy).trans nx4, st4, rh4, Ps.nx (r := forC body (srcAt src) m (i + 1) ρ4 s4) pf (nxy.trans nx4)⟩
            | bk ρ4 => exact fun μ4 H4 σ4 nx4 st4 rh4 => pf μ4 H4 σ4 (nxy.trans nx4) st4 rh4
            | rt x => exact fun μ4 H4 u nx4 st4 xo4 => pf μ4 H4 u (nxy.trans nx4) st4 xo4
theorem ps_whileX (hp : PassesOwn (model X.prog X.w) X.A X.env X.xe) {t : Expr} {b : List Stmt} {t' : Mi.E} {b' : Ss} (ht : PT X t (tT T cx (WE0 E) t')) (hb : PSs X b (tSs T cx E b')) : PS X (.While t b [] pos) (tS T cx E (.while_ t' b')) := by
  refine (ps_while hp ht hb).imp fun D σ H q => ?_
  obtain ⟨Z, μ, s, ρ, st, rh, po⟩ := q
  unfold ex at po
  refine ⟨fun m σ H => ∃ μ s ρ, StOk T.K Z μ s H ∧ RhoOk T.K Z μ s H ρ σ ∧ Ps T E Z μ s H (whileW (fun ρ s => ev cx t' ρ s) (fun ρ s => exs cx b' ρ s) m ρ s) D, ⟨fuel, μ, s, ρ, st, rh, po⟩, fun m σ H hW => ?_⟩
  obtain ⟨μ2, s2, ρ2, st2, rh2, pf⟩ := hW
  cases m with
  | zero => exact absurd pf fun z => z
  | succ m =>
    unfold whileW at pf
    refine ⟨Z, μ2, s2, ρ2, st2, rh2, pf.bind fun x s3 μ3 H3 u e3 nx3 st3 xo3 pf3 => ?_⟩
    split at pf3
    · refine ⟨true, bl_of xo3, iteT ⟨fun σ' H' => ∃ μ s ρ, StOk T.K Z μ s H' ∧ RhoOk T.K Z μ s H' ρ σ' ∧ Ps T E Z μ s H' (whileW (fun ρ s => ev cx t' ρ s) (fun ρ s => exs cx b' ρ s) m ρ s) D, fun σ' H' h => ⟨m, Nat.lt_succ_self _, h⟩, ?_⟩⟩
      refine ⟨Z, μ3, s3, ρ2, st3, rh2.nx nx3, ?_⟩
      cases q : exs cx b' ρ2 s3 with
      | err => rw [q] at pf3; exact pf3
      | exc c as s4 => rw [q] at pf3; exact pf3
      | ok fl s4 =>
        rw [q] at pf3
        cases fl with
        | nx ρ4 => exact fun μ4 H4 σ4 nx4 st4 rh4 => ⟨μ4, s4, ρ4, st4, rh4, Ps.nx (r := whileW _ _ m ρ4 s4) pf3 nx4⟩
        | ct ρ4 => exact fun μ4 H4 σ4 nx4 st4 rh4 => ⟨μ4, s4, ρ4, st4, rh4, Ps.nx (r := whileW _ _ m ρ4 s4) pf3 nx4⟩
        | bk ρ4 => exact pf3
        | rt x => exact pf3
    · exact ⟨false, bl_of xo3, iteF (pf3 μ3 H3 σ (Nx.refl _ _ _) st3 (rh2.nx nx3))⟩
    · exact absurd pf3 fun z => z
end
end Mi
end

section
set_option maxRecDepth 100000
set_option maxHeartbeats 4000000
/-! MiStm2: assignments. -/
namespace Mi
open PySem PySem.Spec PyProof.Rows L2
section
variable {T : Tb} {cx : Ctx} {E : XK} {k : Nat} {c : Cc} {X : Cx}
theorem sw_no {e : Expr} (h : isCompE e = false) (t : Option Expr) (l : Nat) (env : Env) : swapsWith e t l env = pure false := by
  cases e <;> first | rfl | (simp [isCompE] at h)
theorem sw_sole {e : Expr} (h : isCompE e = false) (t : Expr) (l : Nat) (env : Env) : swapsWithSole [t] e l env = pure false := by
  unfold swapsWithSole
  exact sw_no h _ _ _
theorem isFun_of {sc : Scope} (h : isFun sc = true) : sc.kind = .function := by
  unfold isFun at h
  split at h
  · assumption
  · cases h
theorem blockKind_fun {env : Env} (hk : env.scope.kind = .function) : env.blockKind = .function := by
  unfold Env.blockKind; rw [hk]; rfl
theorem sw_eq {elt : Expr} {gs : List Comprehension} {scope : Scope} {pos py : Pos} {y : Str} {l : Nat} {env : Env} (hk : env.scope.kind = .function) : swapsWith (.ListComp elt gs scope pos) (some (.Name y py)) l env = pure (swB env.scope scope py pos y) := by
  have hb := blockKind_fun hk
  unfold swapsWith swB
  simp only [hb, Expr.pos, Env.kindOf]
  rfl
/-- x = e -/
theorem conv_one {W : WX} {e' : Mi.E} {i : Nat} (D : Ends) (σ : L2.St) (H : Hp) (q : tS1 T cx W (.set (.one i) e') D σ H) : tAsg (tE T cx W e') (gName i) D σ H := by
  obtain ⟨Z, μ, s, ρ, st, rh, po⟩ := q
  unfold ex at po
  refine ⟨Z, μ, s, ρ, st, rh, po.bind (σ := σ) fun x s1 μ1 H1 u e1 nx1 st1 xo po1 => ?_⟩
  exact po1 μ1 H1 _ (Nx.refl _ _ _) st1 ((rh.nx nx1).set i xo)
theorem conv_new {W : WX} {e' : Mi.E} {i : Nat} (D : Ends) (σ : L2.St) (H : Hp) (q : tS1 T cx W (.new i e') D σ H) : tAsg (tF T cx W e') (gName i) D σ H := by
  obtain ⟨Z, μ, s, ρ, st, rh, po⟩ := q
  unfold ex at po
  refine ⟨Z, μ, s, ρ, st, rh, ?_⟩
  cases hr : ev cx e' ρ s with
  | err => rw [hr] at po; exact po
  | exc c as s1 => rw [hr] at po; exact po
  | ok x s1 =>
    rw [hr] at po
    cases x with
    | c n => exact absurd po fun z => z
    | w ns => exact absurd po fun z => z
    | v d =>
      cases d with
      | list ds =>
        intro μ1 H1 p vs nx st1 hp hl rv
        obtain ⟨a, b, d⟩ := new_cell st nx st1 hp hl rv
        exact po _ _ _ a b ((rh.nx a).set i d)
      | _ => exact absurd po fun z => z
theorem ps_asgW {W : WX} (G : Good T cx W k c X) {x : Str} {px pos : Pos} {e : Expr} {s' : S} (h : cAsg c (.Name x px) e = some s') : PS X (.Assign [.Name x px] e pos) (tS1 T cx W s') := by
  unfold cAsg at h
  simp only at h
  split at h
  · cases h
  · rename_i hb
    unfold cAsgN at h
    split at h
    · rename_i i e' h1 h2
      obtain ⟨a1, a2, a3⟩ := cLoc_of G.N G.sc G.fnk h1
      have sE := snd_E 60 c W X G e e' h2
      -- one road for all that has a reading by tF or tE
      have key : ∀ {te : TE}, PE X e te → (∀ (hl : isListComp e = true), PS X (.Assign [.Name x px] e pos) (tAsg te (gName i))) → PS X (.Assign [.Name x px] e pos) (tAsg te (gName i)) := by
        intro te he hl
        cases hcm : isCompE e with
        | false => exact ps_set G.nd a1 a2 he (sw_no hcm _ _ _) a3
        | true =>
          rw [hcm] at hb
          have : isListComp e = true := by
            cases hq : isListComp e with
            | true => rfl
            | false => rw [hq] at hb; simp at hb
          exact hl this
      have hlc : isListComp e = true → isFresh e' = true ∧ PS X (.Assign [.Name x px] e pos) (tAsg (tF T cx W e') (gName i)) := by
        intro hl
        have hfu : isFun c.sc = true := by
          cases hq : isFun c.sc with
          | true => rfl
          | false =>
            rw [hq] at hb
            cases e <;> simp [isListComp, isCompE] at hl hb
        have hk : X.env.scope.kind = .function := by rw [G.sc]; exact isFun_of hfu
        cases e with
        | ListComp elt gens scope lpos =>
          have h2' := h2
          unfold cX cE at h2'
          simp only at h2'
          obtain ⟨f1, f2, f3⟩ := snd_comp (pos := lpos) (snd_E 59) G h2'
          refine ⟨f1, ?_⟩
          have hsw := sw_eq (elt := elt) (gs := gens) (scope := scope) (pos := lpos) (py := px) (y := x) (l := pos.line) hk
          cases hB : swB X.env.scope scope px lpos x with
          | true =>
            rw [hB] at hsw
            have hyl : X.env.scope.names.lookup x = some .local := by
              unfold swB at hB
              rw [Bool.and_eq_true, Bool.and_eq_true] at hB
              exact eq_of_beq hB.1.1
            exact f3 x px pos i a1 hyl hsw
          | false =>
            rw [hB] at hsw
            exact ps_set G.nd a1 a2 f2 hsw a3
        | _ => simp [isListComp] at hl
      split at h
      · split at h
        · rename_i hf
          cases Option.some.inj h
          exact (key (sE.2.1 hf) fun hl => (hlc hl).2).imp conv_new
        · cases h
      · cases Option.some.inj h
        cases hl : isListComp e with
        | false => exact (key sE.1 fun hl' => by rw [hl] at hl'; cases hl').imp conv_one
        | true => exact ((hlc hl).2).imp fun D σ H q => tE_tF _ _ _ (conv_one D σ H q)
    · cases h
theorem ps_asgN (G : Good T cx (WE0 E) k c X) {x : Str} {px pos : Pos} {e : Expr} {s' : S} (h : cAsg c (.Name x px) e = some s') : PS X (.Assign [.Name x px] e pos) (tS T cx E s') := ps_asgW G h
theorem ps_asgT (G : Good T cx (WE0 E) k c X) {ts : List Expr} {j : Nat} {pt pos : Pos} {e : Expr} {s' : S} (h : cTupS c ts e = some s') : PS X (.Assign [.Tuple ts j pt] e pos) (tS T cx E s') := by
  unfold cTupS at h
  split at h
  · cases h
  · rename_i hb
    have hb1 : isCompE e = false := by
      cases hq : isCompE e with
      | false => rfl
      | true => rw [hq] at hb; simp at hb
    have hb2 : isTupE e = false := by
      cases hq : isTupE e with
      | false => rfl
      | true => rw [hq] at hb; simp at hb
    split at h
    · rename_i is e' h1 h2
      cases Option.some.inj h
      have hg : PG X (.Tuple ts j pt) (gX X.K (.tup is)) := pg_X G.N G.sc G.nd G.calm G.fnk (show (cTgs c ts).map Tg.tup = some (.tup is) by rw [h1]; rfl)
      have hw : swappedStores [.Tuple ts j pt] e X.env = pure none := by
        cases e <;> first | rfl | (simp [isTupE] at hb2)
      refine (ps_asg (pos := pos) (snd_E 60 c (WE0 E) X G e e' h2).1 hg (sw_sole hb1 _ _ _) hw).imp fun D σ H q => ?_
      obtain ⟨Z, μ, s, ρ, st, rh, po⟩ := q
      unfold ex at po
      refine ⟨Z, μ, s, ρ, st, rh, po.bind fun x s1 μ1 H1 u e1 nx1 st1 xo po1 => ?_⟩
      cases x with
      | c n => exact absurd po1 fun z => z
      | w ns => exact absurd po1 fun z => z
      | v d =>
        unfold setX at po1
        simp only at po1
        cases eb : bindT (.tup is) d ρ with
        | none => rw [eb] at po1; exact absurd po1 fun z => z
        | some ρ1 =>
          rw [eb] at po1
          exact bind_ok (X := X) (un := false) G.K (fun z => nomatch z) (rh.nx nx1) (.inl xo) eb fun σ1 rh1 _ => po1 μ1 H1 σ1 (Nx.refl _ _ _) st1 rh1
    · cases h
theorem ps_asgI (G : Good T cx (WE0 E) k c X) {y : Str} {py pt pos : Pos} {kk e : Expr} {s' : S} (h : cAsg c (.Subscript (.Name y py) kk pt) e = some s') : PS X (.Assign [.Subscript (.Name y py) kk pt] e pos) (tS T cx E s') := by
  unfold cAsg at h
  simp only at h
  split at h
  · cases h
  · rename_i hb
    have hb1 : isCompE e = false := by
      cases hq : isCompE e with
      | false => rfl
      | true => rw [hq] at hb; simp at hb
    have hb2 : plainSl kk = true := by
      cases hq : plainSl kk with
      | true => rfl
      | false => rw [hq] at hb; simp at hb
    split at h
    · rename_i i k' e' h1 h2 h3
      cases Option.some.inj h
      have hw : swappedStores [.Subscript (.Name y py) kk pt] e X.env = pure none := by
        cases e <;> rfl
      have hg : PG X (.Subscript (.Name y py) kk pt) (gSub (tE T cx (WE0 E) (.var i)) (tE T cx (WE0 E) k') rSetL) := pg_sub (pe_varX G h1) (snd_E 60 c (WE0 E) X G kk k' h2).1 set_list (by cases kk <;> first | (intro _; rfl) | (simp [plainSl] at hb2))
      refine (ps_asg (pos := pos) (snd_E 60 c (WE0 E) X G e e' h3).1 hg (sw_sole hb1 _ _ _) hw).imp fun D σ H q => ?_
      obtain ⟨Z, μ, s, ρ, st, rh, po⟩ := q
      unfold ex at po
      refine ⟨Z, μ, s, ρ, st, rh, po.bind fun x s1 μ1 H1 u e1 nx1 st1 xo po1 => ?_⟩
      split at po1
      · rename_i d s2 n hf hr
        obtain ⟨nx2, st2, rv2⟩ := fz_ok st1 xo hf
        have nx12 := nx1.trans nx2
        have po2 := Ps.nx po1 nx2
        refine ⟨Z, μ1, s2, ρ, st2, rh.nx nx12, ?_⟩
        unfold ev
        rw [hr]
        intro μ3 H3 o nx3 st3 oo
        have po3 := Ps.nx po2 nx3
        refine ⟨Z, μ3, s2, ρ, st3, rh.nx (nx12.trans nx3), po3.bind fun yv s4 μ4 H4 iv e4 nx4 st4 yo po4 => ?_⟩
        have oo4 := XvOk.nx nx4 oo
        obtain ⟨a, ha, rfl⟩ := oo4
        unfold setIX at po4
        split at po4
        · split at po4
          · rename_i xs hx
            split at po4
            · rename_i m hm
              cases yo
              obtain ⟨vs, hv, rvs⟩ := st4.cell n a _ ha hx
              refine ⟨a, vs, _, m, rfl, rfl, hv, by rw [rvs.length]; exact hm, ?_⟩
              have rvu := (rv2.mv (nx3.mv Z)).mv (nx4.mv Z)
              obtain ⟨nx5, st5⟩ := chg_step (c' := .lst (xs.set m d)) (o := .lst (vs.set m u)) st4 ha hx rfl rfl fun mv => ⟨_, upd_same, (rvs.set m rvu).mv mv⟩
              exact po4 _ _ σ nx5 st5 (rh.nx (((nx12.trans nx3).trans nx4).trans nx5))
            · exact absurd po4 fun z => z
          · exact absurd po4 fun z => z
        · exact absurd po4 fun z => z
      · exact absurd po1 fun z => z
    · cases h
/-! ### a, b = x, y -/
def tPr (T : Tb) (cx : Ctx) (W : WX) (is : List (Nat × Bool)) (es : Es) : TA := fun σ H Q => ∃ Z μ s ρ, StOk T.K Z μ s H ∧ RhoOk T.K Z μ s H ρ σ ∧ Po T W σ Z μ s H (evp cx is es ρ s) (XsOk T Z) Q
theorem pa_P (G : Good T cx (WE0 E) k c X) : ∀ {ts es : List Expr} {is : List (Nat × Bool)} {es' : Es}, cPar c ts es = some (is, es') →
    PA X es (tPr T cx (WE0 E) is es') ∧ cTgs c ts = some (is.map (·.1)) ∧ es.any (fun | .Starred .. => true | _ => false) = false ∧ es.length = ts.length ∧ is.length = ts.length
  | [], [], is, es', h => by
    cases Option.some.inj h
    refine ⟨pa_nil.imp fun σ H Q q => ?_, rfl, rfl, rfl, rfl⟩
    obtain ⟨Z, μ, s, ρ, st, rh, po⟩ := q
    exact po μ H [] (Nx.refl _ _ _) st .nil
  | .Name x px :: ts, e :: es, is, es', h => by
    unfold cPar at h
    split at h
    · rename_i i e1 is1 es1 h1 h2 h3
      split at h
      · rename_i hb
        rw [Bool.and_eq_true] at hb
        cases Option.some.inj h
        obtain ⟨r1, r2, r3, r4, r5⟩ := pa_P G h3
        have sE := snd_E 60 c (WE0 E) X G e e1 h2
        refine ⟨?_, ?_, ?_, by simp [r4], by simp [r5]⟩
        · cases hx : chgd c x with
          | false =>
            refine (pa_cons sE.1 r1 (star_no hb.1)).imp fun σ H Q q => ?_
            obtain ⟨Z, μ, s, ρ, st, rh, po⟩ := q
            unfold evp at po
            refine ⟨Z, μ, s, ρ, st, rh, po.bind fun x s1 μ1 H1 u e1 nx1 st1 xo po1 => ?_⟩
            refine ⟨Z, μ1, s1, ρ, st1, rh.nx nx1, po1.bind fun xs s2 μ2 H2 us e2 nx2 st2 xso po2 => ?_⟩
            exact po2 μ2 H2 (u :: us) (Nx.refl _ _ _) st2 (.cons (XvOk.nx nx2 xo) xso)
          | true =>
            have hf : isFresh e1 = true := by
              have := hb.2
              rw [hx] at this
              simpa using this
            refine (pa_cons (sE.2.1 hf) r1 (star_no hb.1)).imp fun σ H Q q => ?_
            obtain ⟨Z, μ, s, ρ, st, rh, po⟩ := q
            unfold evp at po
            refine ⟨Z, μ, s, ρ, st, rh, ?_⟩
            cases hr : ev cx e1 ρ s with
            | err => rw [hr] at po; exact po
            | exc c as s1 => rw [hr] at po; exact po
            | ok x s1 =>
              rw [hr] at po
              cases x with
              | c n => exact absurd po fun z => z
              | w ns => exact absurd po fun z => z
              | v d =>
                cases d with
                | list ds =>
                  intro μ1 H1 p vs nx st1 hp hl rv
                  obtain ⟨a, b, d⟩ := new_cell st nx st1 hp hl rv
                  have po' : Po T (WE0 E) σ Z μ s H ((evp cx is1 es1 ρ (s1 ++ [.lst ds])).bind fun ys s => .ok (.c s1.length :: ys) s) (XsOk T Z) Q := po
                  refine ⟨Z, _, _, ρ, b, rh.nx a, (Po.nx po' a).bind fun xs s2 μ2 H2 us e2 nx2 st2 xso po2 => ?_⟩
                  exact po2 μ2 H2 (.ref p :: us) (Nx.refl _ _ _) st2 (.cons (XvOk.nx nx2 d) xso)
                | _ => exact absurd po fun z => z
        · unfold cTgs
          rw [h1, r2]
          rfl
        · rw [List.any_cons, r3]
          have := hb.1
          cases e <;> first | rfl | (simp [noStar] at this)
      · cases h
    · cases h
theorem setAll_ok {Z μ : List Addr} {s : Sto} {H : Hp} {Q : L2.St → Hp → Prop} : ∀ {is : List (Nat × Bool)} {us : List V} {xs : List Xv} {ρ : Rho} {σ : L2.St}, RhoOk T.K Z μ s H ρ σ → XvsOk T.K Z μ s H us xs → us.length = is.length →
    (∀ σ', RhoOk T.K Z μ s H (setAll is xs ρ) σ' → Q σ' H) → gNames (is.map (·.1)) us σ H Q
  | [], us, xs, ρ, σ, rh, xo, hl, hq => by
    cases us with
    | nil => cases xo; exact ⟨rfl, hq σ rh⟩
    | cons u us => simp at hl
  | t :: is, us, xs, ρ, σ, rh, xo, hl, hq => by
    cases xo with
    | nil => simp at hl
    | cons a r =>
      refine ⟨_, _, rfl, ?_⟩
      exact setAll_ok (rh.set t.1 a) r (by simpa using hl) hq
theorem swS_eq {ts vs : List Expr} {j j2 : Nat} {pt pt2 : Pos} {env : Env} {b : Bool} (hk : env.scope.kind = .function) (hst : vs.any (fun | .Starred .. => true | _ => false) = false) (h : swapOk env.scope ts vs = some b) :
    swappedStores [.Tuple ts j pt] (.Tuple vs j2 pt2) env = pure (if b then some (parNames env.scope ts) else none) := by
  have hb := blockKind_fun hk
  unfold swapOk at h
  unfold swappedStores
  simp only [hb, hst]
  have hbk : (ScopeKind.function != ScopeKind.function) = false := by decide
  rw [hbk, Bool.or_false]
  split at h
  · rename_i h1
    cases Option.some.inj h
    rw [if_pos h1]
    rfl
  · rename_i h1
    rw [if_neg h1]
    refine (if_neg (fun z => Bool.noConfusion (hst.symm.trans z))).trans ?_
    split at h
    · rename_i h2
      cases Option.some.inj h
      exact (if_pos h2).trans rfl
    · rename_i h2
      refine (if_neg h2).trans ?_
      split at h
      · rename_i h3
        cases Option.some.inj h
        exact (if_pos h3).trans rfl
      · rename_i h3
        refine (if_neg h3).trans ?_
        split at h
        · cases h
        · rename_i h4
          cases Option.some.inj h
          exact (if_neg h4).trans rfl
theorem evp_len : ∀ {is : List (Nat × Bool)} {es : Es} {ρ : Rho} {s s1 : Sto} {xs : List Xv}, evp cx is es ρ s = .ok xs s1 → xs.length = is.length
  | [], .nil, ρ, s, s1, xs, h => by
    unfold evp at h
    cases h
    rfl
  | [], .cons e es, ρ, s, s1, xs, h => by
    unfold evp at h
    cases h
  | [], .star e es, ρ, s, s1, xs, h => by
    unfold evp at h
    cases h
  | t :: is, .nil, ρ, s, s1, xs, h => by
    unfold evp at h
    cases h
  | t :: is, .star e es, ρ, s, s1, xs, h => by
    unfold evp at h
    cases h
  | (t, b) :: is, .cons e es, ρ, s, s1, xs, h => by
    unfold evp at h
    obtain ⟨x, s2, h1, h⟩ := bind_ok_of h
    split at h
    · split at h
      · obtain ⟨ys, s3, h2, h⟩ := bind_ok_of h
        cases h
        simp [evp_len h2]
      · cases h
    · obtain ⟨ys, s3, h2, h⟩ := bind_ok_of h
      cases h
      simp [evp_len h2]
theorem parN_len (sc : Scope) (l : Nat) : ∀ {ts : List Expr}, (ts.filterMap fun | .Name id pos => if sc.names.lookup id == some .local && pos.line == l then some id else none | _ => none).length = ts.length →
    (∀ x p, .Name x p ∈ ts → sc.names.lookup x = some .local) ∧ (∀ x p r, ts = .Name x p :: r → (ts.filterMap fun | .Name id pos => if sc.names.lookup id == some .local && pos.line == l then some id else none | _ => none) = x :: (r.filterMap fun | .Name id pos => if sc.names.lookup id == some .local && pos.line == l then some id else none | _ => none))
  | [], h => ⟨fun x p z => (nomatch z), fun x p r z => (nomatch z)⟩
  | t :: r, h => by
    have hle := List.length_filterMap_le (fun | .Name id pos => if sc.names.lookup id == some .local && pos.line == l then some id else none | _ => none : Expr → Option Str) r
    rw [List.filterMap_cons] at h
    split at h
    · simp only [List.length_cons] at h
      omega
    · rename_i b hb
      have h' : (r.filterMap fun | .Name id pos => if sc.names.lookup id == some .local && pos.line == l then some id else none | _ => none).length = r.length := by simpa using h
      obtain ⟨i1, i2⟩ := parN_len sc l h'
      refine ⟨fun x p hm => ?_, fun x p r' e => ?_⟩
      · rcases List.mem_cons.mp hm with rfl | hm
        · simp only at hb
          split at hb
          · rename_i hc
            rw [Bool.and_eq_true] at hc
            exact eq_of_beq hc.1
          · cases hb
        · exact i1 x p hm
      · cases e
        simp only at hb
        split at hb
        · rename_i hc
          rw [List.filterMap_cons]
          simp only [hc, if_true]
        · cases hb
theorem swapOk_true {sc : Scope} {ts vs : List Expr} (h : swapOk sc ts vs = some true) : (ts.length = 2 ∨ ts.length = 3) ∧ (parNames sc ts).length = ts.length := by
  unfold swapOk at h
  split at h
  · cases h
  · rename_i h1
    split at h
    · cases h
    · rename_i h2
      simp only [Bool.or_eq_true, bne_iff_ne, ne_eq, not_or, Decidable.not_not, Bool.not_eq_true', Bool.or_eq_false_iff, beq_eq_false_iff_ne, not_and] at h1 h2
      refine ⟨?_, h2.1⟩
      have := h1.1
      omega
theorem cTgs_cons {t : Expr} {r : List Expr} {is : List Nat} (h : cTgs c (t :: r) = some is) : ∃ x p i is', t = .Name x p ∧ is = i :: is' ∧ cLoc c x = some i ∧ cTgs c r = some is' := by
  unfold cTgs at h
  split at h
  · rename_i e; cases e
  · rename_i x p r' e
    cases e
    split at h
    · rename_i i is' h1 h2
      cases Option.some.inj h
      exact ⟨_, _, _, _, rfl, rfl, h1, h2⟩
    · cases h
  · cases h
theorem nodupN_of : ∀ {is : List Nat}, nodupN is = true → is.Nodup
  | [], _ => .nil
  | i :: is, h => by
    unfold nodupN at h
    rw [Bool.and_eq_true] at h
    refine List.nodup_cons.mpr ⟨fun z => ?_, nodupN_of h.2⟩
    have := h.1
    simp [z] at this
theorem XvsOk.c1 {Z μ : List Addr} {s : Sto} {H : Hp} {us : List V} {x : Xv} {xs : List Xv} (h : XvsOk T.K Z μ s H us (x :: xs)) : ∃ u r, us = u :: r ∧ XvOk T.K Z μ s H u x ∧ XvsOk T.K Z μ s H r xs := by
  cases h with
  | cons a b => exact ⟨_, _, rfl, a, b⟩
theorem len2 {α : Type} {l : List α} (h : l.length = 2) : ∃ a b, l = [a, b] := by
  match l, h with
  | [a, b], _ => exact ⟨a, b, rfl⟩
theorem len3 {α : Type} {l : List α} (h : l.length = 3) : ∃ a b d, l = [a, b, d] := by
  match l, h with
  | [a, b, d], _ => exact ⟨a, b, d, rfl⟩
theorem ps_asgP (G : Good T cx (WE0 E) k c X) {ts vs : List Expr} {j j2 : Nat} {pt pt2 pos : Pos} {s' : S} (h : cParS c ts vs = some s') : PS X (.Assign [.Tuple ts j pt] (.Tuple vs j2 pt2) pos) (tS T cx E s') := by
  unfold cParS at h
  split at h
  · rename_i b is es' h1 h2
    split at h
    · rename_i hb
      rw [Bool.and_eq_true, Bool.and_eq_true] at hb
      cases Option.some.inj h
      obtain ⟨r1, r2, r3, r4, r5⟩ := pa_P G h2
      have hk : X.env.scope.kind = .function := by rw [G.sc]; exact isFun_of hb.1.2
      have hsw := swS_eq (j := j) (j2 := j2) (pt := pt) (pt2 := pt2) (env := X.env) hk r3 (by rw [G.sc]; exact h1)
      cases b with
      | false =>
        have hg : PG X (.Tuple ts j pt) (gX X.K (.tup (is.map (·.1)))) := pg_X G.N G.sc G.nd G.calm G.fnk (show (cTgs c ts).map Tg.tup = some (.tup (is.map (·.1))) by rw [r2]; rfl)
        refine (ps_asg (pos := pos) (pe_tup r1) hg rfl hsw).imp fun D σ H q => ?_
        obtain ⟨Z, μ, s, ρ, st, rh, po⟩ := q
        unfold ex at po
        refine ⟨Z, μ, s, ρ, st, rh, po.bind fun xs s1 μ1 H1 us e1 nx1 st1 xo po1 => ?_⟩
        have hul : us.length = is.length := by rw [xo.length, evp_len e1]
        refine ⟨?_, fun p hp => ?_⟩
        · rw [hul]
          have := of_decide_eq_true hb.2
          exact Nat.le_trans this (by decide)
        · refine ⟨p, us, rfl, .inl (.inl upd_same), by simpa using hul, ?_⟩
          exact setAll_ok (rh.nx (nx1.trans (Nx.new hp))) (XvsOk.nx (Nx.new hp) xo) hul fun σ' rh' => po1 μ1 _ σ' (Nx.new hp) (st1.new hp) rh'
      | true =>
        obtain ⟨hl, hpn⟩ := swapOk_true h1
        rw [← G.sc] at hpn
        rcases hl with hl | hl
        · obtain ⟨t1, t2, rfl⟩ := len2 hl
          obtain ⟨a, b, rfl⟩ := len2 (r4.trans hl)
          obtain ⟨i1, i2, rfl⟩ := len2 (r5.trans hl)
          obtain ⟨x, px, i, is1, rfl, ei, l1, r2⟩ := cTgs_cons r2
          cases ei
          obtain ⟨y, py, i', is2, rfl, ei', l2, r2⟩ := cTgs_cons r2
          cases ei'
          obtain ⟨a1, a2, a3⟩ := cLoc_of G.N G.sc G.fnk l1
          obtain ⟨b1, b2, b3⟩ := cLoc_of G.N G.sc G.fnk l2
          obtain ⟨p1, p2⟩ := parN_len X.env.scope px.line (ts := [.Name x px, .Name y py]) hpn
          have e1 := p2 x px [.Name y py] rfl
          have p3 : ([Expr.Name y py].filterMap fun | .Name id pos => if X.env.scope.names.lookup id == some .local && pos.line == px.line then some id else none | _ => none).length = 1 := by
            have h' : ([Expr.Name x px, Expr.Name y py].filterMap fun | .Name id pos => if X.env.scope.names.lookup id == some .local && pos.line == px.line then some id else none | _ => none).length = 2 := hpn
            rw [e1] at h'
            simpa using h'
          have e2 := (parN_len X.env.scope px.line (ts := [.Name y py]) p3).2 y py [] rfl
          have epn : parNames X.env.scope [.Name x px, .Name y py] = [x, y] := by
            show ([Expr.Name x px, Expr.Name y py].filterMap fun | .Name id pos => if X.env.scope.names.lookup id == some .local && pos.line == px.line then some id else none | _ => none) = _
            rw [e1, e2]
            rfl
          rw [epn] at hsw
          have nd := nodupN_of hb.1.1
          have hij : i1.1 ≠ i2.1 := fun z => by simp [z] at nd
          refine (ps_par (pos := pos) G.calm G.nd a1 b1 hij (p1 x px (by simp)) (p1 y py (by simp)) r1 hsw rfl).imp fun D σ H q => ?_
          obtain ⟨Z, μ, s, ρ, st, rh, po⟩ := q
          unfold ex at po
          refine ⟨Z, μ, s, ρ, st, rh, po.bind fun xs s1 μ1 H1 us e1 nx1 st1 xo po1 => ?_⟩
          obtain ⟨x1, x2, rfl⟩ := len2 (evp_len e1)
          obtain ⟨u1, us, rfl, o1, xo⟩ := XvsOk.c1 xo
          obtain ⟨u2, us, rfl, o2, xo⟩ := XvsOk.c1 xo
          cases xo
          exact ⟨u1, u2, rfl, po1 μ1 H1 _ (Nx.refl _ _ _) st1 (((rh.nx nx1).set _ o1).set _ o2)⟩
        · obtain ⟨t1, t2, t3, rfl⟩ := len3 hl
          obtain ⟨a, b, d, rfl⟩ := len3 (r4.trans hl)
          obtain ⟨i1, i2, i3, rfl⟩ := len3 (r5.trans hl)
          obtain ⟨x, px, i, is1, rfl, ei, l1, r2⟩ := cTgs_cons r2
          cases ei
          obtain ⟨y, py, i', is2, rfl, ei', l2, r2⟩ := cTgs_cons r2
          cases ei'
          obtain ⟨z, pz, i'', is3, rfl, ei'', l3, r2⟩ := cTgs_cons r2
          cases ei''
          obtain ⟨a1, a2, a3⟩ := cLoc_of G.N G.sc G.fnk l1
          obtain ⟨b1, b2, b3⟩ := cLoc_of G.N G.sc G.fnk l2
          obtain ⟨c1, c2, c3⟩ := cLoc_of G.N G.sc G.fnk l3
          obtain ⟨p1, p2⟩ := parN_len X.env.scope px.line (ts := [.Name x px, .Name y py, .Name z pz]) hpn
          have e1 := p2 x px [.Name y py, .Name z pz] rfl
          have p3 : ([Expr.Name y py, Expr.Name z pz].filterMap fun | .Name id pos => if X.env.scope.names.lookup id == some .local && pos.line == px.line then some id else none | _ => none).length = 2 := by
            have h' : ([Expr.Name x px, Expr.Name y py, Expr.Name z pz].filterMap fun | .Name id pos => if X.env.scope.names.lookup id == some .local && pos.line == px.line then some id else none | _ => none).length = 3 := hpn
            rw [e1] at h'
            simpa using h'
          have e2 := (parN_len X.env.scope px.line (ts := [.Name y py, .Name z pz]) p3).2 y py [.Name z pz] rfl
          have p4 : ([Expr.Name z pz].filterMap fun | .Name id pos => if X.env.scope.names.lookup id == some .local && pos.line == px.line then some id else none | _ => none).length = 1 := by
            rw [e2] at p3
            simpa using p3
          have e3 := (parN_len X.env.scope px.line (ts := [.Name z pz]) p4).2 z pz [] rfl
          have epn : parNames X.env.scope [.Name x px, .Name y py, .Name z pz] = [x, y, z] := by
            show ([Expr.Name x px, Expr.Name y py, Expr.Name z pz].filterMap fun | .Name id pos => if X.env.scope.names.lookup id == some .local && pos.line == px.line then some id else none | _ => none) = _
            rw [e1, e2, e3]
            rfl
          rw [epn] at hsw
          have nd := nodupN_of hb.1.1
          have h12 : i1.1 ≠ i2.1 := fun z => by simp [z] at nd
          have h13 : i1.1 ≠ i3.1 := fun z => by simp [z] at nd
          have h23 : i2.1 ≠ i3.1 := fun z => by simp [z] at nd
          refine (ps_par3 (pos := pos) G.calm G.nd a1 b1 c1 h12 h13 h23 (p1 x px (by simp)) (p1 y py (by simp)) (p1 z pz (by simp)) r1 hsw rfl).imp fun D σ H q => ?_
          obtain ⟨Z, μ, s, ρ, st, rh, po⟩ := q
          unfold ex at po
          refine ⟨Z, μ, s, ρ, st, rh, po.bind fun xs s1 μ1 H1 us e1 nx1 st1 xo po1 => ?_⟩
          obtain ⟨x1, x2, x3, rfl⟩ := len3 (evp_len e1)
          obtain ⟨u1, us, rfl, o1, xo⟩ := XvsOk.c1 xo
          obtain ⟨u2, us, rfl, o2, xo⟩ := XvsOk.c1 xo
          obtain ⟨u3, us, rfl, o3, xo⟩ := XvsOk.c1 xo
          cases xo
          exact ⟨u1, u2, u3, rfl, po1 μ1 H1 _ (Nx.refl _ _ _) st1 ((((rh.nx nx1).set _ o1).set _ o2).set _ o3)⟩
    · cases h
  · cases h
end
end Mi
end

section
set_option maxRecDepth 100000
/-! MiDic5: x = {}, d[k] = e as compiled. -/
namespace Mi
open PySem PySem.Spec PyProof.Rows L2
section
variable {T : Tb} {cx : Ctx} {E : XK} {k : Nat} {c : Cc} {X : Cx}
theorem new_dic {K : PySem.W.Frag} {Z μ : List Addr} {s : Sto} {H : Hp} {p : Addr} (st : StOk K Z μ s H) (hp : H p = none) :
    Nx μ s H (μ ++ [p]) (s ++ [.dic false []]) (upd H p (.dK [])) ∧ StOk K Z (μ ++ [p]) (s ++ [.dic false []]) (upd H p (.dK [])) ∧ XvOk K Z (μ ++ [p]) (s ++ [.dic false []]) (upd H p (.dK [])) (.ref p) (.c s.length) := by
  have hb : ∀ b, Bm (μ ++ [p]) (s ++ [.dic false []]) b → Bm μ s b ∨ b = p := fun b h => bm_app st.len h
  have hnp : p ∉ μ := fun hm => by
    obtain ⟨n, hn⟩ := List.getElem?_of_mem hm
    have hl : n < s.length := by rw [← st.len]; exact (List.getElem?_eq_some_iff.mp hn).1
    have hc := st.cell n p _ hn (List.getElem?_eq_getElem hl)
    cases e : s[n] with
    | lst xs => rw [e] at hc; obtain ⟨vs, e1, _⟩ := hc; rw [hp] at e1; cases e1
    | dic t kvs =>
      rw [e] at hc
      cases t with
      | false => obtain ⟨vs, e1, _⟩ := hc; rw [hp] at e1; cases e1
      | true => exact absurd hc fun z => z
    | frz d => rw [e] at hc; obtain ⟨_, ⟨o, e1⟩, _⟩ := hc; rw [hp] at e1; cases e1
  have mv : Mv H (upd H p (.dK [])) (Bz μ s Z) (Bz (μ ++ [p]) (s ++ [.dic false []]) Z) :=
    ⟨fun b o e hn => by rw [upd_ne (ne_of_none e hp)]; exact e, fun b o e hn z => by
      rcases z with z | z
      · rcases hb b z with z | z
        · exact hn (.inl z)
        · rw [z] at e; rw [hp] at e; cases e
      · exact hn (.inr z)⟩
  refine ⟨⟨List.prefix_append _ _, fun b o e hn => by rw [upd_ne (ne_of_none e hp)]; exact e, fun b h => ?_, fun b h => ?_⟩, ⟨by simp [st.len], ?_, fun b hz h => ?_, fun b hz => ?_, fun n b cc q1 q2 => ?_⟩, p, ?_, rfl⟩
  · rcases hb b h with h | rfl
    · exact .inl h
    · exact .inr hp
  · by_cases e : b = p
    · rw [e, upd_same]; exact fun z => nomatch z
    · rw [upd_ne e]; exact h
  · rw [List.nodup_append]
    refine ⟨st.nd, by simp, fun b h d hd => ?_⟩
    cases List.mem_singleton.mp hd
    exact fun z => hnp (z ▸ h)
  · rcases hb b h with h | rfl
    · exact st.off b hz h
    · obtain ⟨o, e⟩ := st.zin b hz
      rw [hp] at e
      cases e
  · obtain ⟨o, e⟩ := st.zin b hz
    exact ⟨o, by rw [upd_ne (ne_of_none e hp)]; exact e⟩
  · by_cases hl : n < s.length
    · rw [List.getElem?_append_left (by rw [st.len]; exact hl)] at q1
      rw [List.getElem?_append_left hl] at q2
      refine (st.cell n b cc q1 q2).mv mv fun _ o e => ?_
      rw [upd_ne (ne_of_none e hp)]
      exact e
    · have hn : n = s.length := by
        have := (List.getElem?_eq_some_iff.mp q2).1
        simp at this
        omega
      subst hn
      rw [List.getElem?_append_right (by rw [st.len]; exact Nat.le_refl _), st.len] at q1
      rw [List.getElem?_append_right (Nat.le_refl _)] at q2
      simp at q1 q2
      subst q1
      subst q2
      exact ⟨[], upd_same, .nil⟩
  · rw [List.getElem?_append_right (by rw [st.len]; exact Nat.le_refl _), st.len]
    simp
theorem ps_newDX (G : Good T cx (WE0 E) k c X) {x : Str} {px pd pos : Pos} {i : Nat} (h : cLoc c x = some i) : PS X (.Assign [.Name x px] (.Dict [] [] pd) pos) (tS T cx E (.newD i false)) := by
  obtain ⟨a1, a2, a3⟩ := cLoc_of G.N G.sc G.fnk h
  refine (ps_asg (pos := pos) (pe_dnewK (X := X) (pos := pd)) (pg_name G.nd a1 a2 a3) (sw_sole rfl _ _ _) rfl).imp fun D σ H q => ?_
  obtain ⟨Z, μ, s, ρ, st, rh, po⟩ := q
  unfold ex at po
  intro p hp
  obtain ⟨nx, st', xo⟩ := new_dic st hp
  exact po _ _ _ nx st' ((rh.nx nx).set i xo)
theorem ps_asgK (G : Good T cx (WE0 E) k c X) {y : Str} {py pt pos : Pos} {kk e : Expr} {i : Nat} {k' e' : Mi.E} (hb : ¬ (isCompE e || !plainSl kk) = true) (h1 : cVar c y = some i) (h2 : cX c kk = some k') (h3 : cX c e = some e') : PS X (.Assign [.Subscript (.Name y py) kk pt] e pos) (tS T cx E (.setK i k' e')) := by
  have hb1 : isCompE e = false := by
    cases hq : isCompE e with
    | false => rfl
    | true => rw [hq] at hb; simp at hb
  have hb2 : plainSl kk = true := by
    cases hq : plainSl kk with
    | true => rfl
    | false => rw [hq] at hb; simp at hb
  have hw : swappedStores [.Subscript (.Name y py) kk pt] e X.env = pure none := by
    cases e <;> rfl
  have hg : PG X (.Subscript (.Name y py) kk pt) (gSub (tE T cx (WE0 E) (.var i)) (tE T cx (WE0 E) k') rSetD) := pg_sub (pe_varX G h1) (snd_E 60 c (WE0 E) X G kk k' h2).1 (set_dict (by have := G.u65; omega)) (by cases kk <;> first | (intro _; rfl) | (simp [plainSl] at hb2))
  refine (ps_asg (pos := pos) (snd_E 60 c (WE0 E) X G e e' h3).1 hg (sw_sole hb1 _ _ _) hw).imp fun D σ H q => ?_
  obtain ⟨Z, μ, s, ρ, st, rh, po⟩ := q
  unfold ex at po
  refine ⟨Z, μ, s, ρ, st, rh, po.bind fun x s1 μ1 H1 u e1 nx1 st1 xo po1 => ?_⟩
  split at po1
  · rename_i d s2 n hf hr
    obtain ⟨nx2, st2, rv2⟩ := fz_ok st1 xo hf
    have nx12 := nx1.trans nx2
    have po2 := Ps.nx po1 nx2
    refine ⟨Z, μ1, s2, ρ, st2, rh.nx nx12, ?_⟩
    unfold ev
    rw [hr]
    intro μ3 H3 o nx3 st3 oo
    have po3 := Ps.nx po2 nx3
    refine ⟨Z, μ3, s2, ρ, st3, rh.nx (nx12.trans nx3), po3.bind fun yv s4 μ4 H4 iv e4 nx4 st4 yo po4 => ?_⟩
    have oo4 := XvOk.nx nx4 oo
    obtain ⟨a, ha, rfl⟩ := oo4
    unfold setKX at po4
    split at po4
    · rename_i kd' t kvs hk hx
      split at po4
      · rename_i hz
        rw [Bool.and_eq_true, decide_eq_true_eq] at hz
        obtain ⟨hz1, hz2⟩ := hz
        unfold keyOk at hz1
        rw [Bool.and_eq_true, Bool.not_eq_true'] at hz1
        obtain ⟨rfl, hz3⟩ := hz1
        obtain ⟨ks, hv, rk⟩ := st4.cell n a _ ha hx
        obtain ⟨kk', rfl⟩ := keyD_kd hz3
        have ey := rq_kd (rd_rq st4 yo hk)
        subst ey
        refine ⟨a, _, rfl, DPut.k hv (by rw [rk.length]; have := sizeLine_eq; omega), ?_⟩
        have rvu := (rv2.mv (nx3.mv Z)).mv (nx4.mv Z)
        obtain ⟨nx5, st5⟩ := chg_step (c' := .dic false (putD kvs (kd kk') d)) (o := .dK (putK ks kk' u)) st4 ha hx rfl rfl fun mv => ⟨_, upd_same, (rk.put kk' rvu).mv mv⟩
        exact po4 _ _ σ nx5 st5 (rh.nx (((nx12.trans nx3).trans nx4).trans nx5))
      · exact absurd po4 fun z => z
    · exact absurd po4 fun z => z
  · exact absurd po1 fun z => z
end
end Mi
end

section
set_option maxRecDepth 100000
set_option maxHeartbeats 2000000
/-! MiExc2: several clauses 'except x as n'. -/
namespace Mi
open PySem PySem.Spec PyProof.Rows L2
/-- the ends of a suite whose name i goes -/
def endAs (D : Ends) (i : Nat) : Ends := { nx := fun σ' H' => D.nx (σ'.set i none) H', rt := D.rt, bk := fun σ' H' => D.bk (σ'.set i none) H', ct := fun σ' H' => D.ct (σ'.set i none) H' }
/-- what the clauses wish of an error of the body -/
def wAll (K : PySem.W.Frag) (Wout : WX) (D : Ends) : List (Value × Nat × (Addr → Value → Option Addr → TS)) → WX
  | [] => Wout
  | (c, i, ts) :: r => fun cls d σ H => ∃ b, PySem.W.exmOne K cls c = some b ∧ (b = true → i < σ.length → ∀ a, H a = none → ts a cls d (endAs D i) (σ.set i (some (.ref a))) H) ∧ (b = false → wAll K Wout D r cls d σ H)
inductive HdsAs (X : Cx) : List ExceptHandler → List (Value × Nat × (Addr → Value → Option Addr → TS)) → Prop
  | nil : HdsAs X [] []
  | cons {x n : Str} {c : Value} {i : Nat} {ts : Addr → Value → Option Addr → TS} {b₀ : Stmt} {suite : List Stmt} {np pos' : Pos} {hds : List ExceptHandler} {l : List (Value × Nat × (Addr → Value → Option Addr → TS))} (hc : Names X x c) (hi : X.N[i]? = some n) (hln : X.env.kindOf n = some .local)
      (hsu : ∀ (a : Addr) (oe : Obj) (cls : Value) (d : Option Addr) (pn : List (Addr × Obj)), Zc cls d oe → (∃ vs, oe.data = .fields vs) → PSs (X.suite a ((a, oe) :: pn)) (b₀ :: suite) (ts a cls d)) (r : HdsAs X hds l) :
      HdsAs X (.ExceptHandler (some (.Name x np)) (some n) (b₀ :: suite) pos' :: hds) ((c, i, ts) :: l)
section
variable {X : Cx} {body : List Stmt} {h₀ : ExceptHandler} {hds : List ExceptHandler} {l : List (Value × Nat × (Addr → Value → Option Addr → TS))} {pos : Pos} {tb : WX → TS} {Wout : WX}
theorem ps_try_all (hs : X.stack = X.env :: X.outer) (hf : X.env.frame = some X.env.locals) (hN : X.N.Nodup) (tk : Takes X Wout)
    (hb : ∀ (W : WX) (pn : List (Addr × Obj)) (xe : Value → Shared → Prop), Takes (X.tr pn xe) W → PassesOwn (model X.prog X.w) X.A X.env xe → PSs (X.tr pn xe) body (tb W))
    (hh : HdsAs X (h₀ :: hds) l) : PS X (.Try body (h₀ :: hds) [] [] pos) (fun D σ H => tb (wAll X.K Wout D l) D σ H) := by
  refine ⟨fun pins s σ H D I h => ?_⟩
  have ok := I.ok
  have hfr : X.A.frames = some (X.env :: X.outer) := by rw [ok.frames, hs]
  refine wpAny_Try_except ?_
  refine wpAny_mono ((hb (wAll X.K Wout D l) (X.pn ++ pins) (fun e s₁ => wpAny (model X.prog X.w) X.A (noteFrame e X.env) (fun _ s₂ => wpAny (model X.prog X.w) X.A (setFlight e none) (fun _ s₃ =>
    wpAny (model X.prog X.w) X.A (handleBy e X.env (h₀ :: hds)) (SP X pins D) X.xe s₃) X.xe s₂) X.xe s₁) (fun u s' xx => ?_) PassesOwn.looking).run [] s σ H D (I.toTry _) h) (fun f s1 hsp => ?_) (fun e s1 he => he)
  · obtain ⟨a, B, sI, pins', σ', H', cls, d, rfl, J', nb, up, sky, na, os, ag, w⟩ := xx
    have J : Inv X pins σ' H' sI := J'.ofTry ok
    have sky' : Sky B (X.env :: X.outer) a (Zc cls d) X.env.locals s'.heap := by rw [← hs]; exact sky
    show wpAny (model X.prog X.w) X.A (noteFrame (.ref a) X.env) _ _ _
    refine Sky.land Zc.steady hfr hf sky' fun h3 fl3 up3 => ?_
    have J3 : Inv X pins σ' H' { s' with heap := h3 } := J.landed nb fl3.1 (up.trans up3) os ag
    obtain ⟨oe3, vs3, he3, hz3, hd3⟩ := fl3.there
    have nfr : a ∉ frs (X.env :: X.outer) := fun hm => by
      obtain ⟨_, o', e', hnf⟩ := fl3.2.2.1.mem hm
      rw [he3] at e'; cases e'
      exact hnf _ hd3
    have nL : a ≠ X.env.locals := fun z => nfr (List.mem_filterMap.mpr ⟨X.env, List.mem_cons_self, by rw [hf, z]⟩)
    have nF : a ∉ X.fs := fun hm => by
      obtain ⟨e, he, q⟩ := List.mem_filterMap.mp hm
      exact nfr (List.mem_filterMap.mpr ⟨e, List.mem_cons_of_mem _ he, q⟩)
    have S3 := J3.suite he3 hd3 na nL nF
    have go : ∀ {hds' : List ExceptHandler} {l' : List (Value × Nat × (Addr → Value → Option Addr → TS))}, HdsAs X hds' l' → wAll X.K Wout D l' cls d σ' H' →
        wpAny (model X.prog X.w) X.A (handleBy (.ref a) X.env hds') (SP X pins D) X.xe { s' with heap := h3 } := by
      intro hds' l' hk
      induction hk with
      | nil =>
        intro w
        refine wpAny_handleBy_nil ?_
        obtain ⟨k1, k2, k3, oe, vs, T, oT, ts', he, hz, hd, h1, hr⟩ := id fl3
        unfold PySem.passOn
        refine wpAny_bind (wpAny_field he hd h1 ?_)
        rw [if_neg (show ¬ ((Value.ref T == Value.none) = true) from by simp)]
        have fin : wpAny (model X.prog X.w) X.A (setFlight (.ref a) X.env.frame) (fun _ s4 => wpAny (model X.prog X.w) X.A (throw (.ref a) : Sem Flow) (SP X pins D) X.xe s4) X.xe { s' with heap := h3 } := by
          rw [hf]
          refine HandSPX.setFlight_upZ fl3 fun h4 hh4 up4 => wpAny_throw (tk _ _ ?_)
          exact ⟨a, B, sI, pins, σ', H', cls, d, rfl, J, nb, (up.trans up3).trans up4, .inr (.inr (by rw [hs]; exact hh4)), na, os, ag, w⟩
        first
          | exact wpAny_bind (wpAny_pure (wpAny_bind fin))
          | exact wpAny_bind fin
      | @cons x n c i ts b₀ suite np pos' hds2 l2 hc hi hln hsu r ih =>
        intro w
        obtain ⟨b, hb1, hyes, hno⟩ := w
        refine wpAny_handleBy_cons (codeAny_handlers_test ?_) (by intro q; cases q)
        have LT : PySem.W.Looks (model X.prog X.w) h3 (typeOf (.ref a)) cls := fun A Q E s k q => wpAny_typeOf_ref (k _ _ he3) (by rw [hz3.1]; exact q)
        have LM := PySem.W.exm_one (M := model X.prog X.w) (J3.kIn) LT hb1
        have test : ∀ {Q : Value → Shared → Prop} {E : Value → Shared → Prop}, Q c { s' with heap := h3 } → wpAny (model X.prog X.w) (X.A.mark (some (.ref a))) (eval (.Name x np) X.env) Q E { s' with heap := h3 } := fun {Q E} q => by
          obtain ⟨hg, hdbg, hm | ⟨hm, hv, hnn⟩⟩ := hc
          · exact ld_glob (X := X.suite a ((a, oe3) :: (X.pn ++ pins))) S3 hg hm q hdbg
          · exact ld_blt (X := X.suite a ((a, oe3) :: (X.pn ++ pins))) S3 hg hm hv q hnn hdbg
        refine test (LM.here ?_)
        cases b with
        | true =>
          refine codeAny_handlers_suite_as ?_
          refine HandSPX.lands_againZ fl3 fun h4 fl4 up4 => ?_
          have J4 : Inv X pins σ' H' { s' with heap := h4 } := J.landed nb fl4.1 ((up.trans up3).trans up4) os ag
          obtain ⟨oe4, vs4, he4, hz4, hd4⟩ := fl4.there
          have S4 := J4.suite he4 hd4 na nL nF
          refine store_ok (X := X.suite a ((a, oe4) :: (X.pn ++ pins))) (v := .ref a) S4 hN hi (.inl hln) rfl (fun s5 S5 => ?_) (.inr hln)
          refine wpAny_mono ((hsu a oe4 cls d (X.pn ++ pins) hz4 ⟨_, hd4⟩).run [] s5 _ H' _ S5 (hyes rfl (by rw [J.len]; exact (List.getElem?_eq_some_iff.mp hi).1) a na)) (fun f s6 hsp => ?_) (fun _ _ z => False.elim z)
          have end_ : ∀ {σ6 : L2.St} {H6 : Hp} {Q : Shared → Prop}, Inv (X.suite a ((a, oe4) :: (X.pn ++ pins))) [] σ6 H6 s6 → (∀ s7, Inv X pins (σ6.set i none) H6 s7 → Q s7) →
              wpAny (model X.prog X.w) X.A (do bindName X.env n .none; unbindBehindTheSuite X.env n pos') (fun _ s7 => Q s7) X.xe s6 := fun {σ6 H6 Q} S6 hq => gone_ok (S6.unsuite ok) hN hi hln hq
          cases f with
          | next =>
            obtain ⟨σ6, H6, S6, q6⟩ := hsp
            exact end_ S6 fun s7 J7 => ⟨_, _, J7, q6⟩
          | brk =>
            obtain ⟨σ6, H6, S6, q6⟩ := hsp
            exact end_ S6 fun s7 J7 => ⟨_, _, J7, q6⟩
          | cont =>
            obtain ⟨σ6, H6, S6, q6⟩ := hsp
            exact end_ S6 fun s7 J7 => ⟨_, _, J7, q6⟩
          | ret u =>
            obtain ⟨v6, σ6, H6, S6, r6, q6⟩ := hsp
            exact end_ S6 fun s7 J7 => ⟨_, _, _, J7, r6, q6⟩
        | false =>
          show wpAny _ X.A (handleBy (.ref a) X.env hds2) _ _ _
          exact ih (hno rfl)
    exact go hh w
  · cases f with
    | next =>
      obtain ⟨σ', H', J', q⟩ := hsp
      exact wpAny_execs_nil ⟨σ', H', J'.ofTry ok, q⟩
    | brk =>
      obtain ⟨σ', H', J', q⟩ := hsp
      exact ⟨σ', H', J'.ofTry ok, q⟩
    | cont =>
      obtain ⟨σ', H', J', q⟩ := hsp
      exact ⟨σ', H', J'.ofTry ok, q⟩
    | ret u =>
      obtain ⟨v, σ', H', J', r, q⟩ := hsp
      exact ⟨v, σ', H', J'.ofTry ok, r, q⟩
end
end Mi
end

section
set_option maxRecDepth 100000
set_option maxHeartbeats 2000000
/-! MiTry: raise, try. -/
namespace Mi
open PySem PySem.Spec PyProof.Rows L2
section
variable {X : Cx} {C : Addr} {bmB : List Value} {B newId initId : String}
/-- C() of a class without own __init__ -/
theorem pmk_bare {x : Str} {p pos : Pos} (F : ExcBaseFacts B newId initId bmB) (q : PySem.W.excIn X.K C bmB newId = true) (gC : X.mg x = some (.ref C)) (kC : PySem.W.keepIn X.K (.ref C) = true) (r : Raises X (.ref C)) (hg : Gl X x)
    (hdb : (x == ("__debug__" : Str)) = false) : PMk X (.Call (.Name x p) [] [] pos) (fun _ H Q => Q (.ref C) none H) := by
  intro pins s σ H Q I h
  refine wpAny_Call_Name_kw (ld_glob I hg gC ?_ hdb)
  refine PySem.W.callWith_K0 I.kIn kC ?_
  show wpAny _ _ (call (.ref C) []) _ _ _
  obtain ⟨bm, N, nm, qn, bs, hdct, sn, sub, ab, col, dd, k0, k1, k2, k3, k5, mN, hC, hN, hni, T⟩ := exc_obj I.kIn q
  refine wpAny_call_exc_subT F T hC hN hni (fun h' e hm => ?_) (by show 0 ≤ sizeLine; omega)
  exact mk_of I hm r h (I.hok.gone hm.new)
end
section
variable {T : Tb} {cx : Ctx} {E : XK} {W : WX} {k : Nat} {c : Cc} {X : Cx}
theorem cXc_of (G : Good T cx W k c X) {x : Str} {fo : Option Str} {lk : Bool} (h : cXc c x = some (fo, lk)) : Gl X x ∧ (x == ("__debug__" : Str)) = false ∧ ∃ C, X.mg x = some (.ref C) ∧ T.xc x = some (C, fo) ∧ XcOk X.prog X.K C fo lk := by
  unfold cXc at h
  split at h
  · rename_i hc
    rw [Bool.and_eq_true] at hc
    have h2' : badName x = false := by simpa using hc.2
    exact ⟨isGlb_of G hc.1, (badName_of h2').1, G.xcs x fo lk h⟩
  · cases h
theorem XcOk.raises {C : Addr} {fo : Option Str} {lk : Bool} (h : XcOk X.prog X.K C fo lk) : Raises X (.ref C) := raises_own h.exc.hs h.tyC
theorem ps_raiseX (G : Good T cx (WE0 E) k c X) {e : Expr} {pos : Pos} : PS X (.Raise (some e) none pos) (tS T cx E (cRaise c e)) := by
  unfold cRaise
  split
  · rename_i x p args pos'
    split
    · rename_i f lk a hx
      split
      · rename_i hn
        split
        · rename_i a' ha
          obtain ⟨hg, hdb, C, hm, hT, ok⟩ := cXc_of G hx
          obtain ⟨hno, B, newId, initId, bmB, fI, d, D, df, S, KF, FB, SF⟩ := ok.made f rfl
          have hE := (snd_E 60 c (WE0 E) X G _ _ ha).1
          refine (ps_raise G.calm G.takes (pmk_sup D S KF FB SF G.room hg hm (pa_cons hE pa_nil (star_no hn)) hdb (star_no hn))).imp fun Dn σ H q => ?_
          obtain ⟨Z, μ, s, ρ, st, rh, po⟩ := q
          unfold ex evs at po
          rw [bind_assoc3] at po
          refine ⟨Z, μ, s, ρ, st, rh, po.bind fun x1 s1 μ1 H1 u e1 nx1 st1 xo po1 => ?_⟩
          cases ef : fz s1 x1 with
          | none => rw [ef] at po1; exact absurd po1 fun z => z
          | some pr =>
            obtain ⟨dd, s1'⟩ := pr
            rw [ef] at po1
            obtain ⟨nxf, stf, rf⟩ := fz_ok st1 xo ef
            have po2 : Ps T E Z μ1 s1 H1 (.exc x [dd] s1') Dn := by
              simp only [evs] at po1
              exact po1
            refine ⟨u, rfl, fun dx hdx => ?_⟩
            have n2 : Nx μ1 s1 H1 μ1 s1' (upd H1 dx (.xd [(d.f, u)])) := nxf.trans (Nx.new hdx)
            exact po2 μ1 _ (.ref C) (some dx) n2 (stf.new hdx) ⟨C, some f, hT, rfl, .inr ⟨f, dd, dx, u, rfl, rfl, rfl, by rw [df]; exact upd_same .., (Nx.new hdx : Nx μ1 s1' H1 μ1 s1' _).rv rf⟩⟩
        · exact ps_stuckX
      · exact ps_stuckX
    · rename_i lk hx
      obtain ⟨hg, hdb, C, hm, hT, ok⟩ := cXc_of G hx
      obtain ⟨B, newId, initId, bmB, FB, q0⟩ := ok.bare rfl
      refine (ps_raise G.calm G.takes (pmk_bare FB q0 hm ok.kC ok.raises hg hdb)).imp fun Dn σ H q => ?_
      obtain ⟨Z, μ, s, ρ, st, rh, po⟩ := q
      unfold ex evs at po
      exact po μ H (.ref C) none (Nx.refl _ _ _) st ⟨C, none, hT, rfl, .inl ⟨rfl, rfl, rfl⟩⟩
    · exact ps_stuckX
  · exact ps_stuckX
/-! ### the body of a try -/
theorem snd_B {c : Cc} {X : Cx} (G : Good T cx W k c X) : ∀ (n : Nat) (st : Stmt) (st' : S), cB n c st = some st' → PS X st (tS1 T cx W st')
  | 0, st, st', h => by
    unfold cB at h
    cases h
  | n + 1, st, st', h => by
    unfold cB at h
    split at h
    · split at h
      · rename_i h1
        cases Option.some.inj h
        exact ps_asgW G h1
      · cases h
    · split at h
      · rename_i t' a' b' h1 h2 h3
        cases Option.some.inj h
        have hT := (snd_E 60 c W X G _ _ (tst_of h1).1).2.2 (tst_of h1).2
        refine (ps_if hT (pss_cons (snd_B G n _ _ h2) pss_nil) (pss_cons (snd_B G n _ _ h3) pss_nil)).imp fun D σ H q => ?_
        obtain ⟨Z, μ, s, ρ, st, rh, po⟩ := q
        unfold ex at po
        refine ⟨Z, μ, s, ρ, st, rh, ?_⟩
        have key : ∀ {x' : S} {s1 : Sto} {μ1 : List Addr} {H1 : Hp}, StOk T.K Z μ1 s1 H1 → Nx μ s H μ1 s1 H1 → Ps T (fun cls d H => W cls d σ H) Z μ1 s1 H1 (exs cx (.cons x' .nil) ρ s1) D → tSeq (tS1 T cx W x') tNext D σ H1 := by
          intro x' s1 μ1 H1 st1 nx1 po1
          refine ⟨Z, μ1, s1, ρ, st1, rh.nx nx1, ?_⟩
          unfold exs at po1
          cases hr : ex cx x' ρ s1 with
          | ok f s2 =>
            rw [hr] at po1
            cases f <;> exact po1
          | exc c as s2 => rw [hr] at po1; exact po1
          | err => rw [hr] at po1; exact po1
        refine po.bind (σ := σ) (Ok1 := XOk T Z) fun x s1 μ1 H1 u e1 nx1 st1 xo po1 => ?_
        split at po1
        · exact ⟨true, bl_of xo, iteT (key st1 nx1 po1)⟩
        · exact ⟨false, bl_of xo, iteF (key st1 nx1 po1)⟩
        · exact absurd po1 fun z => z
      · cases h
    · cases h
end
end Mi
end

section
set_option maxRecDepth 100000
set_option maxHeartbeats 2000000
/-! MiTry2: the clauses of a try. -/
namespace Mi
open PySem PySem.Spec PyProof.Rows L2
def itV (v : V) : HIt → V
  | .con (.str x) => .str x
  | .con _ => .non
  | .fld => v
  | .isa b => .bl b
/-- a clause's items -/
def tIts (a : Addr) (i : Nat) (d : Option Addr) (fo : Option Str) (its : List HIt) : TA := fun σ H Q => ∃ v : V, σ[i]? = some (some (.ref a)) ∧ (∀ f, fo = some f → ∃ dx, d = some dx ∧ H dx = some (.xd [(f, v)])) ∧ (fo = none → d = none) ∧ Q (its.map (itV v)) H
section
variable {T : Tb} {cx : Ctx} {E : XK} {W : WX} {k : Nat} {c : Cc} {X : Cx} {a C : Addr} {oe : Obj} {d : Option Addr} {pn : List (Addr × Obj)} {fo : Option Str} {lk : Bool} {n : Str} {i : Nat}
theorem boot_LE : bootBuiltins "LookupError" = some (.type "LookupError") := by first | (decide +kernel) | kernel_rfl
theorem boot_VE : bootBuiltins "ValueError" = some (.type "ValueError") := by first | (decide +kernel) | kernel_rfl
theorem pa_its (G : Good T cx W k c X) (ok : XcOk X.prog X.K C fo lk) (hz : Zc (.ref C) d oe) (hf : ∃ vs, oe.data = .fields vs) (hn : cLoc c n = some i) (hv : cVar c n = some i) :
    ∀ {es : List Expr} {its : List HIt}, cHIts c n fo lk es = some its → PA (X.suite a ((a, oe) :: pn)) es (tIts a i d fo its)
  | [], its, h => by
    cases Option.some.inj h
    exact pa_nil.imp fun σ H Q q => by
      obtain ⟨v, _, _, _, q⟩ := q
      exact q
  | e :: r, its, h => by
    unfold cHIts at h
    split at h
    · rename_i it l h1 h2
      cases Option.some.inj h
      have ih := pa_its G ok hz hf hn hv h2
      obtain ⟨n1, n2, n3, n4⟩ := cVar_of G hv
      have name : ∀ {p : Pos}, PE (X.suite a ((a, oe) :: pn)) (.Name n p) (tVar i) := fun {p} => pe_var (X := X.suite a ((a, oe) :: pn)) n1 n2 n3 n4
      have go : ∀ {te : TE}, PE (X.suite a ((a, oe) :: pn)) e te → noStar e = true → (∀ σ H Q v, σ[i]? = some (some (.ref a)) → (∀ f, fo = some f → ∃ dx, d = some dx ∧ H dx = some (.xd [(f, v)])) → (fo = none → d = none) → Q (itV v it) H → te σ H Q) → PA (X.suite a ((a, oe) :: pn)) (e :: r) (tIts a i d fo (it :: l)) := by
        intro te he hs hq
        refine (pa_cons he ih (star_no hs)).imp fun σ H Q q => ?_
        obtain ⟨v, q1, q2, q3, q4⟩ := q
        exact hq σ H _ v q1 q2 q3 ⟨v, q1, q2, q3, q4⟩
      unfold cHIt at h1
      split at h1
      · cases Option.some.inj h1
        exact go pe_str rfl fun σ H Q v _ _ _ q => q
      · split at h1
        · rename_i y _ f _ hc
          rw [Bool.and_eq_true] at hc
          have ey : y = n := of_decide_eq_true hc.1
          have ef : fo = some f := of_decide_eq_true hc.2
          cases Option.some.inj h1
          subst ey
          obtain ⟨hno, _⟩ := ok.made f ef
          refine go (pe_xf (cls := .ref C) (d := d) ok.xf hno hz hf name) rfl fun σ H Q v q1 q2 q3 q4 => ?_
          obtain ⟨dx, ed, eh⟩ := q2 f ef
          exact ⟨_, q1, rfl, rfl, dx, _, v, ed, eh, by simp [List.lookup], q4⟩
        · cases h1
      · split at h1
        · rename_i g pg y py b pb pc hc
          simp only [Bool.and_eq_true] at hc
          obtain ⟨⟨⟨c1, c2⟩, c3⟩, c4⟩ := hc
          have eg : g = ("isinstance" : Str) := of_decide_eq_true c1
          have ey : y = n := of_decide_eq_true c2
          subst eg
          subst ey
          obtain ⟨h1', h2', h3', h4'⟩ := cBlt_of G c3
          obtain ⟨g1, g2, g3, g4⟩ := cBlt_of G c4
          have fin : ∀ {bb : Bool} {t : String}, bootBuiltins b = some (.type t) → PySem.W.kitOne X.K (.ref C) (.type t) = some bb → it = .isa bb → PA (X.suite a ((a, oe) :: pn)) (.Call (.Name "isinstance" pg) [.Name y py, .Name b pb] [] pc :: r) (tIts a i d fo (it :: l)) := by
            intro bb t hb hk hi
            subst hi
            refine go (pe_callB (X := X.suite a ((a, oe) :: pn)) (call_isX ok.exc hz hf) h1' h2' (by first | (decide +kernel) | kernel_rfl) (pa_cons name (pa_cons (pe_bltn (v := V.ty t) g1 g2 hb rfl g4 g3) pa_nil) (star_no rfl)) h4' h3' (star_no rfl) rfl) rfl fun σ H Q v q1 q2 q3 q4 => ?_
            refine ⟨_, q1, .ty t, .type t, bb, rfl, fun u hu => hu, hk, fun dd hd => ?_, q4⟩
            cases ef : fo with
            | none => rw [q3 ef] at hd; cases hd
            | some f =>
              obtain ⟨dx, ed, eh⟩ := q2 f ef
              rw [ed] at hd
              cases hd
              exact ⟨_, eh⟩
          split at h1
          · rename_i eb
            cases Option.some.inj h1
            exact fin (by rw [eb]; exact boot_LE) ok.isL rfl
          · split at h1
            · rename_i eb
              cases Option.some.inj h1
              exact fin (by rw [eb]; exact boot_VE) ok.isV rfl
            · cases h1
        · cases h1
      · cases h1
    · cases h
end
end Mi
end

section
set_option maxRecDepth 100000
set_option maxHeartbeats 2000000
/-! MiTry3: try. -/
namespace Mi
open PySem PySem.Spec PyProof.Rows L2
section
variable {T : Tb} {cx : Ctx} {E : XK} {W : WX} {k : Nat} {c : Cc} {X : Cx}
theorem its_rv {K : PySem.W.Frag} {H : Hp} {B : Addr → Prop} {v : V} {ds : List PyData} (hv : ∀ a, ds = [a] → Rv K H B v a) {n : Str} {fo : Option Str} {lk : Bool} : ∀ {es : List Expr} {its : List HIt} {vs : List PyData}, cHIts c n fo lk es = some its → hdVs ds its = some vs → RvAll K H B (its.map (itV v)) vs
  | [], its, vs, h, h2 => by
    cases Option.some.inj h
    cases Option.some.inj h2
    exact .nil
  | e :: r, its, vs, h, h2 => by
    unfold cHIts at h
    split at h
    · rename_i it l h3 h4
      cases Option.some.inj h
      cases it with
      | con d =>
        obtain ⟨l', e1, rfl⟩ := map_some (show (hdVs ds l).map (fun z => d :: z) = some vs from h2)
        have hd : ∃ x, d = .str x := by
          unfold cHIt at h3
          split at h3
          · cases Option.some.inj h3
            exact ⟨_, rfl⟩
          · split at h3 <;> cases h3
          · split at h3
            · split at h3
              · cases h3
              · split at h3 <;> cases h3
            · cases h3
          · cases h3
        obtain ⟨x, rfl⟩ := hd
        exact .cons (.str x) (its_rv hv h4 e1)
      | fld =>
        match ds, hv, h2 with
        | [], _, h2 => cases h2
        | [a], hv, h2 =>
          obtain ⟨l', e1, rfl⟩ := map_some (show (hdVs [a] l).map (fun z => a :: z) = some vs from h2)
          exact .cons (hv a rfl) (its_rv hv h4 e1)
        | _ :: _ :: _, _, h2 => cases h2
      | isa b =>
        obtain ⟨l', e1, rfl⟩ := map_some (show (hdVs ds l).map (fun z => .bool b :: z) = some vs from h2)
        exact .cons (.bl b) (its_rv hv h4 e1)
    · cases h
theorem its_len {n : Str} {fo : Option Str} {lk : Bool} : ∀ {es : List Expr} {its : List HIt}, cHIts c n fo lk es = some its → its.length = es.length
  | [], its, h => by cases Option.some.inj h; rfl
  | e :: r, its, h => by
    unfold cHIts at h
    split at h
    · rename_i it l h3 h4
      cases Option.some.inj h
      rw [List.length_cons, List.length_cons, its_len h4]
    · cases h
theorem hds_ok (G : Good T cx (WE0 E) k c X) : ∀ {hs : List ExceptHandler} {l : List Hd}, cHds c hs = some l → ∃ L, HdsAs X hs L ∧ ∀ (D : Ends) (cls : Value) (d : Option Addr) (σ : L2.St) (H : Hp) (Z μ : List Addr) (s : Sto) (ρ : Rho) (c0 : Str) (ds : List PyData), StOk T.K Z μ s H → RhoOk T.K Z μ s H ρ σ → ExOk T Z μ s H c0 ds cls d →
    Ps T E Z μ s H (kTry l ρ (.exc c0 ds s)) D → wAll X.K (WE0 E) D L cls d σ H
  | [], l, h => by
    cases Option.some.inj h
    exact ⟨[], .nil, fun D cls d σ H Z μ s ρ c0 ds st rh ex po => po μ H cls d (Nx.refl _ _ _) st ex⟩
  | h0 :: hs, l, h => by
    unfold cHds at h
    split at h
    · rename_i hd l' h1 h2
      cases Option.some.inj h
      obtain ⟨L, hL, wL⟩ := hds_ok G h2
      unfold cHd at h1
      split at h1
      · rename_i x px n t pt es pl pa ph
        split at h1
        · rename_i fo lk i j hx hi hj
          split at h1
          · rename_i hc
            simp only [Bool.and_eq_true, decide_eq_true_eq] at hc
            obtain ⟨⟨hln, hij⟩, hes⟩ := hc
            obtain ⟨its, h3, rfl⟩ := map_some h1
            obtain ⟨hg, hdb, C, hm, hT, ok⟩ := cXc_of G hx
            obtain ⟨a1, a2, a3⟩ := cLoc_of G.N G.sc G.fnk hi
            obtain ⟨b1, b2, b3⟩ := cLoc_of G.N G.sc G.fnk hj
            have hv : cVar c n = some i := by
              unfold cLoc at hi
              split at hi
              · rename_i hq
                rw [Bool.and_eq_true, Bool.and_eq_true] at hq
                unfold cVar
                rw [hln, if_pos (by rw [Bool.and_eq_true]; exact ⟨rfl, hq.1.2⟩)]
                exact hi
              · cases hi
            refine ⟨(.ref C, i, fun a cls d D σ H => cls = .ref C ∧ tSeq (tAsg (tLst (tIts a i d fo its)) (gName j)) tNext D σ H) :: L, .cons ⟨hg, hdb, .inl hm⟩ a1 (by show X.env.scope.names.lookup n = some .local; rw [G.sc]; exact hln) (fun a oe cls d pn hz hf => ?_) hL, ?_⟩
            · by_cases hcl : cls = .ref C
              · subst hcl
                exact (pss_cons (ps_set (X := X.suite a ((a, oe) :: pn)) G.nd b1 b2 (pe_lst (pa_its G ok hz hf hi hv h3)) (sw_no rfl _ _ _) b3) pss_nil).imp fun D σ H q => q.2
              · exact ⟨fun pins s σ H D I q => absurd q.1 hcl⟩
            · intro D cls d σ H Z μ s ρ c0 ds st rh ex po
              have ex0 := ex
              obtain ⟨C0, fo0, e1, rfl, e3⟩ := ex
              refine ⟨decide (c0 = x), G.exm c0 x C0 C fo0 fo e1 hT, fun hb hlt a ha => ?_, fun hb => ?_⟩
              · have ec : c0 = x := of_decide_eq_true hb
                subst ec
                rw [hT] at e1
                cases Option.some.inj e1
                simp only [kTry, hdOf, if_true] at po
                cases hvs : hdVs ds its with
                | none => rw [hvs] at po; exact absurd po fun z => z
                | some vs =>
                  rw [hvs] at po
                  have hq : ∃ v : V, (∀ f, fo = some f → ∃ dx, d = some dx ∧ H dx = some (.xd [(f, v)])) ∧ (fo = none → d = none) ∧ ∀ a, ds = [a] → Rv T.K H (Bz μ s Z) v a := by
                    rcases e3 with ⟨z1, z2, z3⟩ | ⟨f, a', dx, v, z1, z2, z3, z4, z5⟩
                    · refine ⟨.non, fun f hf => ?_, fun _ => z3, fun a hs => ?_⟩
                      · rw [z1] at hf; cases hf
                      · rw [z2] at hs; cases hs
                    · refine ⟨v, fun f' hf => ?_, fun hf => ?_, fun b hs => ?_⟩
                      · rw [z1] at hf
                        cases hf
                        exact ⟨dx, z3, z4⟩
                      · rw [z1] at hf; cases hf
                      · rw [z2] at hs
                        cases hs
                        exact z5
                  obtain ⟨v, q1, q2, q3⟩ := hq
                  refine ⟨rfl, v, List.getElem?_set_self hlt, q1, q2, by rw [List.length_map, its_len h3, sizeLine_eq]; omega, fun p hp => ?_⟩
                  show D.nx (((σ.set i (some (.ref a))).set j (some (.ref p))).set i none) (upd H p (.lst (its.map (itV v))))
                  have eσ : ((σ.set i (some (V.ref a))).set j (some (.ref p))).set i none = (σ.set j (some (.ref p))).set i none := by
                    rw [List.set_comm _ _ hij, List.set_set]
                  rw [eσ]
                  have n2 : Nx μ s H μ s (upd H p (.lst (its.map (itV v)))) := Nx.new hp
                  have st2 : StOk T.K Z μ s (upd H p (.lst (its.map (itV v)))) := st.new hp
                  refine po μ _ _ n2 st2 (((rh.nx n2).set j (u := .ref p) (x := .v (.list vs)) ?_).unset i)
                  exact Rv.newL st hp (its_rv q3 h3 hvs)
              · have ec : c0 ≠ x := of_decide_eq_false hb
                refine wL D (.ref C0) d σ H Z μ s ρ c0 ds st rh ex0 ?_
                have e4 : kTry (⟨x, i, j, its⟩ :: l') ρ (.exc c0 ds s) = kTry l' ρ (.exc c0 ds s) := by
                  simp only [kTry, hdOf, if_neg (Ne.symm ec)]
                rw [e4] at po
                exact po
          · cases h1
        · cases h1
      · cases h1
    · cases h
theorem ps_tryX (G : Good T cx (WE0 E) k c X) (hst : X.stack = X.env :: X.outer) (hfr : X.env.frame = some X.env.locals) {s : Stmt} {b' : S} {h0 : ExceptHandler} {r : List ExceptHandler} {l : List Hd} {pos : Pos} (hb : cB 10 c s = some b') (hh : cHds c (h0 :: r) = some l) :
    PS X (.Try [s] (h0 :: r) [] [] pos) (tS T cx E (.try_ (.cons b' .nil) l)) := by
  obtain ⟨L, hL, wL⟩ := hds_ok G hh
  refine (ps_try_all (tb := fun W => tSeq (tS1 T cx W b') tNext) hst hfr G.nd G.takes (fun W pn xe tk po => ?_) hL).imp fun D σ H q => ?_
  · have G' : Good T cx W k c (X.tr pn xe) := ⟨G.K, G.N, G.sc, G.nd, G.calm, G.room, G.fnk, G.free, tk, G.glob, G.fns, G.xcs, G.exm⟩
    exact pss_cons (snd_B G' 10 s b' hb) pss_nil
  · obtain ⟨Z, μ, s, ρ, st, rh, po⟩ := q
    unfold ex at po
    refine ⟨Z, μ, s, ρ, st, rh, ?_⟩
    unfold exs at po
    cases hr : ex cx b' ρ s with
    | ok f s2 =>
      rw [hr] at po
      cases f <;> exact po
    | err => rw [hr] at po; exact po
    | exc c0 ds s2 =>
      rw [hr] at po
      intro μ' H' cls d nx st' xo
      exact wL D cls d σ H' Z μ' s2 ρ c0 ds st' (rh.nx nx) xo (Ps.nx (r := kTry l ρ (.exc c0 ds s2)) po nx)
end
end Mi
end

section
set_option maxRecDepth 100000
set_option maxHeartbeats 4000000
/-! MiStm3: the theorem of statements. -/
namespace Mi
open PySem PySem.Spec PyProof.Rows L2
section
variable {T : Tb} {cx : Ctx} {E : XK} {k : Nat} {c : Cc} {X : Cx}
theorem snd_S (G : Good T cx (WE0 E) k c X) (hp : PassesOwn (model X.prog X.w) X.A X.env X.xe) (hst : X.stack = X.env :: X.outer ∧ X.env.frame = some X.env.locals) : ∀ (n : Nat) (st : Stmt) (st' : S), cS n c st = some st' → PS X st (tS T cx E st')
  | 0, st, st', h => by
    unfold cS at h
    cases h
  | n + 1, st, st', h => by
    have ih := snd_S G hp hst n
    have hE : ∀ {e : Expr} {e' : Mi.E}, cX c e = some e' → PE X e (tE T cx (WE0 E) e') := fun q => (snd_E 60 c (WE0 E) X G _ _ q).1
    have hT : ∀ {e : Expr} {e' : Mi.E}, tst (cX c e) = some e' → PT X e (tT T cx (WE0 E) e') := fun q => (snd_E 60 c (WE0 E) X G _ _ (tst_of q).1).2.2 (tst_of q).2
    unfold cS at h
    split at h
    · split at h
      · cases h
      · rename_i hc
        obtain ⟨e', h1, rfl⟩ := map_some h
        exact ps_exX (by simpa using hc) (hE h1)
    · split at h
      · rename_i t
        have main : ∀ {t e : Expr} {st' : S} {p : Pos}, cAsg c t e = some st' → PS X (.Assign [t] e p) (tS T cx E st') := fun {t e st' p} h => by
          unfold cAsg at h
          split at h
          · exact ps_asgN G (by unfold cAsg; exact h)
          · split at h
            · exact ps_asgP G h
            · exact ps_asgT G h
          · exact ps_asgI G (by unfold cAsg; exact h)
          · cases h
        unfold cAsgA at h
        split at h
        · split at h
          · obtain ⟨i, h1, rfl⟩ := map_some h
            exact ps_newDX G h1
          · cases h
        · split at h
          · split at h
            · cases h
            · rename_i hb
              split at h
              · rename_i i k' e' h1 h2 h3
                cases Option.some.inj h
                exact ps_asgK G hb h1 h2 h3
              · cases h
          · exact main h
        · exact main h
      · cases h
    · split at h
      · split at h
        · split at h
          · rename_i h1
            split at h
            · rename_i hf
              cases Option.some.inj h
              exact ps_retCX ((snd_E 60 c (WE0 E) X G _ _ h1).2.1 hf)
            · cases h
          · cases h
        · split at h
          · obtain ⟨e', h1, rfl⟩ := map_some h
            exact ps_retDX (hE h1)
          · obtain ⟨e', h1, rfl⟩ := map_some h
            exact ps_retX (hE h1)
      · cases Option.some.inj h
        exact ps_retNX
    · split at h
      · rename_i h1 h2 h3
        cases Option.some.inj h
        exact ps_ifX (hT h1) (pss_X ih h2) (pss_X ih h3)
      · cases h
    · split at h
      · split at h
        · rename_i hs
          split at h
          · rename_i h1 h2 h3
            cases Option.some.inj h
            exact ps_forX G hp hs h1 (pi_X G (fun e e' q => hE q) h2) (fun hu => cTg_T h1 (cIt_U h2 hu)) (pss_X ih h3)
          · cases h
        · cases h
      · cases h
    · split at h
      · split at h
        · rename_i h1 h2
          cases Option.some.inj h
          exact ps_whileX hp (hT h1) (pss_X ih h2)
        · cases h
      · cases h
    · cases Option.some.inj h
      exact ps_passX
    · cases Option.some.inj h
      exact ps_brkX
    · cases Option.some.inj h
      exact ps_contX
    · split at h
      · cases Option.some.inj h
        exact ps_raiseX G
      · cases Option.some.inj h
        exact ps_stuckX
    · split at h
      · split at h
        · rename_i h1 h2
          cases Option.some.inj h
          exact ps_tryX G hst.1 hst.2 h1 h2
        · cases h
      · cases h
    · cases h
theorem snd_Ss (G : Good T cx (WE0 E) k c X) (hp : PassesOwn (model X.prog X.w) X.A X.env X.xe) (hst : X.stack = X.env :: X.outer ∧ X.env.frame = some X.env.locals) {n : Nat} {ss : List Stmt} {ss' : Ss} (h : cSs (cS n c) ss = some ss') : PSs X ss (tSs T cx E ss') := pss_X (snd_S G hp hst n) h
end
end Mi
end

section
set_option maxRecDepth 100000
set_option maxHeartbeats 4000000
/-! MiFn: the theorem of defs. -/
namespace Mi
open PySem PySem.Spec PyProof.Rows L2
section
variable {T : Tb} {Z μ μ' : List Addr} {s s' : Sto} {H H' : Hp}
theorem pre_take {μ μ' : List Addr} (h : μ <+: μ') : μ'.take μ.length = μ := by
  obtain ⟨t, rfl⟩ := h
  simp
theorem bm_take (pre : μ <+: μ') (n : Nat) {a : Addr} (h : Bm μ (s'.take n) a) : Bm μ' s' a := by
  obtain ⟨m, c, e1, e2, e3⟩ := h
  refine ⟨m, c, pre_get pre e1, ?_, e3⟩
  rw [List.getElem?_take] at e2
  split at e2
  · exact e2
  · cases e2
/-- the cells of a def's own go -/
theorem trunc {K : PySem.W.Frag} (st : StOk K Z μ s H) (nx : Nx μ s H μ' s' H') (st' : StOk K Z μ' s' H') : Nx μ s H μ (s'.take s.length) H' ∧ StOk K Z μ (s'.take s.length) H' := by
  have hl : s.length ≤ s'.length := by
    rw [← st.len, ← st'.len]
    obtain ⟨t, rfl⟩ := nx.pre
    simp
  refine ⟨⟨List.prefix_refl _, nx.ext, fun a h => nx.bm a (bm_take nx.pre _ h), nx.dom⟩, ⟨?_, st.nd, fun a ha h => st'.off a ha (bm_take nx.pre _ h), st'.zin, fun n a c e1 e2 => ?_⟩⟩
  · rw [List.length_take, st.len]
    omega
  · have e2' : s'[n]? = some c := by
      rw [List.getElem?_take] at e2
      split at e2
      · exact e2
      · cases e2
    refine (st'.cell n a c (pre_get nx.pre e1) e2').mv (Mv.less fun b h => ?_) fun _ _ e => e
    rcases h with h | h
    · exact .inl (bm_take nx.pre _ h)
    · exact .inr h
theorem bz_take (pre : μ <+: μ') (n : Nat) : ∀ a, Bz μ (s'.take n) Z a → Bz μ' s' Z a := fun a h => by
  rcases h with h | h
  · exact .inl (bm_take pre _ h)
  · exact .inr h
/-- an own cell's address is new -/
theorem own_new {K : PySem.W.Frag} (st : StOk K Z μ s H) (nx : Nx μ s H μ' s' H') (st' : StOk K Z μ' s' H') {m : Nat} {a : Addr} (hm : s.length ≤ m) (e : μ'[m]? = some a) : a ∉ μ := fun hi => by
  obtain ⟨j, hj⟩ := List.getElem?_of_mem hi
  have h1 := pre_get nx.pre hj
  have h2 := nodup_at st'.nd h1 e
  have h3 := (List.getElem?_eq_some_iff.mp hj).1
  have := st.len
  omega
theorem back_ok {E : XK} {σ : L2.St} {keep : Bool} {x : Xv} {u : V} {Q : VK} (st : StOk T.K Z μ s H) (nx : Nx μ s H μ' s' H') (st' : StOk T.K Z μ' s' H') (xo : XvOk T.K Z μ' s' H' u x)
    (po : Po T (WE0 E) σ Z μ s H (back keep s.length x s') (XOk T Z) Q) : Q u H' := by
  obtain ⟨nt, stt⟩ := trunc st nx st'
  unfold back at po
  split at po
  · split at po
    · rename_i m
      split at po
      · rename_i hm
        split at po
        · rename_i xs hx
          obtain ⟨a, ha, rfl⟩ := xo
          have hn := own_new st nx st' hm ha
          have hb : Bm μ' s' a := ⟨m, _, ha, hx, rfl⟩
          have hz : a ∉ Z := fun z => st'.off a z hb
          obtain ⟨vs, hv, rvs⟩ := st'.cell m a _ ha hx
          have hl : (s'.take s.length).length = s.length := by
            rw [← stt.len, st.len]
          have bm' : ∀ b, Bm (μ ++ [a]) (s'.take s.length ++ [.lst xs]) b → Bm μ' s' b := fun b h => by
            rcases bm_app (by rw [hl, st.len]) h with h | rfl
            · exact bm_take nx.pre _ h
            · exact hb
          have bz' : ∀ b, Bz (μ ++ [a]) (s'.take s.length ++ [.lst xs]) Z b → Bz μ' s' Z b := fun b h => by
            rcases h with h | h
            · exact .inl (bm' b h)
            · exact .inr h
          refine po (μ ++ [a]) H' (.ref a) ⟨List.prefix_append _ _, nx.ext, fun b h => nx.bm b (bm' b h), nx.dom⟩ ⟨?_, ?_, fun b z h => st'.off b z (bm' b h), st'.zin, fun n b c e1 e2 => ?_⟩ ⟨a, ?_, rfl⟩
          · simp only [List.length_append, hl, st.len, List.length_singleton]
          · rw [List.nodup_append]
            refine ⟨st.nd, by simp, fun b h d hd => ?_⟩
            cases List.mem_singleton.mp hd
            exact fun z => hn (z ▸ h)
          · by_cases hlt : n < s.length
            · rw [List.getElem?_append_left (by rw [st.len]; exact hlt)] at e1
              rw [List.getElem?_append_left (by rw [hl]; exact hlt)] at e2
              have e2' : s'[n]? = some c := by
                rw [List.getElem?_take_of_lt hlt] at e2
                exact e2
              exact (st'.cell n b c (pre_get nx.pre e1) e2').mv (Mv.less bz') fun _ _ e => e
            · have hlen : n = s.length := by
                have := (List.getElem?_eq_some_iff.mp e2).1
                simp only [List.length_append, hl, List.length_singleton] at this
                omega
              subst hlen
              rw [List.getElem?_append_right (by rw [st.len]; exact Nat.le_refl _), st.len] at e1
              rw [List.getElem?_append_right (by rw [hl]; exact Nat.le_refl _), hl] at e2
              simp at e1 e2
              subst e1
              subst e2
              exact ⟨vs, hv, rvs.mv (Mv.less bz')⟩
          · rw [List.getElem?_append_right (by rw [st.len]; exact Nat.le_refl _), st.len]
            simp
        · exact absurd po fun z => z
      · exact absurd po fun z => z
    · exact absurd po fun z => z
  · split at po
    · exact po μ H' u nt stt (Rv.mv (Mv.less (bz_take nx.pre _)) xo)
    · rename_i m
      obtain ⟨a, ha, rfl⟩ := xo
      split at po
      · rename_i hm
        refine po μ H' _ nt stt ⟨a, ?_, rfl⟩
        rw [← pre_take nx.pre, List.getElem?_take, if_pos (by rw [st.len]; exact hm)]
        exact ha
      · rename_i hm
        split at po
        · rename_i d hd
          refine po μ H' _ nt stt ?_
          have hn := own_new st nx st' (Nat.le_of_not_lt hm) ha
          have nb : ¬ Bm μ (s'.take s.length) a := fun ⟨j, c, e1, _, _⟩ => hn (List.mem_of_getElem? e1)
          unfold rd at hd
          simp only at hd
          cases hc : s'[m]? with
          | none => rw [hc] at hd; cases hd
          | some c =>
            rw [hc] at hd
            have ck := st'.cell m a c ha hc
            cases c with
            | lst xs =>
              cases Option.some.inj hd
              obtain ⟨vs, hv, rvs⟩ := ck
              have hz : a ∉ Z := fun z => st'.off a z ⟨m, _, ha, hc, rfl⟩
              exact .lst hv (fun h => by rcases h with h | h; exact nb h; exact hz h) (rvs.mv (Mv.less (bz_take nx.pre _)))
            | dic t kvs => cases hd
            | frz d' =>
              cases Option.some.inj hd
              exact Rv.mv (Mv.less (bz_take nx.pre _)) ck.1
        · exact absurd po fun z => z
    · exact absurd po fun z => z
theorem ExOk.less {c : Str} {as : List PyData} {cls : Value} {d : Option Addr} {μ1 : List Addr} {s1 : Sto} (h : ExOk T Z μ' s' H' c as cls d) (k : ∀ a, Bz μ1 s1 Z a → Bz μ' s' Z a) : ExOk T Z μ1 s1 H' c as cls d := by
  obtain ⟨C, fo, e1, e2, h⟩ := h
  refine ⟨C, fo, e1, e2, ?_⟩
  rcases h with h | ⟨f, a, dx, v, h1, h2, h3, h4, h5⟩
  · exact .inl h
  · exact .inr ⟨f, a, dx, v, h1, h2, h3, h4, h5.mv (Mv.less k)⟩
theorem ExOk.lessZ {c : Str} {as : List PyData} {cls : Value} {d : Option Addr} {Z1 μ1 : List Addr} {s1 : Sto} (h : ExOk T Z μ' s' H' c as cls d) (k : ∀ a, Bz μ1 s1 Z1 a → Bz μ' s' Z a) : ExOk T Z1 μ1 s1 H' c as cls d := by
  obtain ⟨C, fo, e1, e2, h⟩ := h
  refine ⟨C, fo, e1, e2, ?_⟩
  rcases h with h | ⟨f, a, dx, v, h1, h2, h3, h4, h5⟩
  · exact .inl h
  · exact .inr ⟨f, a, dx, v, h1, h2, h3, h4, h5.mv (Mv.less k)⟩
theorem bm_nil {a : Addr} : ¬ Bm [] [] a := fun ⟨n, c, e, _⟩ => by simp at e
/-- the caller's cells are off limits -/
theorem fresh_st {K : PySem.W.Frag} (st : StOk K Z μ s H) : ∃ Z', (∀ a, a ∈ Z' ↔ Bz μ s Z a) ∧ StOk K Z' [] [] H := by
  have key : ∀ a, a ∈ Z ++ ((μ.zip s).filter fun p => p.2.chg).map (·.1) ↔ Bz μ s Z a := fun a => by
    rw [List.mem_append, List.mem_map]
    constructor
    · rintro (h | ⟨⟨b, c⟩, h, rfl⟩)
      · exact .inr h
      · rw [List.mem_filter] at h
        obtain ⟨n, hn⟩ := List.getElem?_of_mem h.1
        rw [List.getElem?_zip_eq_some] at hn
        exact .inl ⟨n, c, hn.1, hn.2, h.2⟩
    · rintro (⟨n, c, e1, e2, e3⟩ | h)
      · refine .inr ⟨(a, c), List.mem_filter.mpr ⟨?_, e3⟩, rfl⟩
        exact List.mem_of_getElem? (i := n) (List.getElem?_zip_eq_some.mpr ⟨e1, e2⟩)
      · exact .inl h
  refine ⟨_, key, ⟨rfl, .nil, fun a _ => bm_nil, fun a h => ?_, fun n a c e => by simp at e⟩⟩
  rcases (key a).mp h with h | h
  · exact st.bmSome h
  · exact st.zin a h
theorem fresh_nx (nx : Nx [] [] H μ' s' H') : Nx μ s H μ s H' := ⟨List.prefix_refl _, fun a o h _ => nx.ext a o h bm_nil, fun _ h => .inl h, nx.dom⟩
theorem fresh_back {K : PySem.W.Frag} (st : StOk K Z μ s H) (nx : Nx [] [] H μ' s' H') : StOk K Z μ s H' := by
  refine ⟨st.len, st.nd, st.off, fun a h => ?_, fun n a c e1 e2 => ?_⟩
  · obtain ⟨o, e⟩ := st.zin a h
    exact ⟨o, nx.ext a o e bm_nil⟩
  · exact (st.cell n a c e1 e2).mv ⟨fun a o h _ => nx.ext a o h bm_nil, fun _ _ _ h => h⟩ fun a o e => nx.ext _ _ e bm_nil
theorem fresh_args {K : PySem.W.Frag} {Z' : List Addr} (hz : ∀ a, a ∈ Z' ↔ Bz μ s Z a) : ∀ {vs : List V} {xs : List Xv}, allV xs = true → XvsOk K Z μ s H vs xs → XvsOk K Z' [] [] H vs xs
  | _, _, _, .nil => .nil
  | _, .v d :: r, h, .cons a t => .cons (Rv.mv (Mv.less fun a h => by
      rcases h with h | h
      · exact absurd h bm_nil
      · exact (hz a).mp h) a) (fresh_args hz (by exact h) t)
  | _, .c _ :: _, h, _ => by cases h
  | _, .w _ :: _, h, _ => by cases h
end
/-- every parameter is given -/
def BindsU (fd : FuncData) (ps : List Str) : Prop := ∀ (s : Shared) (us : List Value), us.length = ps.length → BindsTo s fd ⟨us, []⟩ (ps.zip us)
theorem BindsU.to {K : PySem.W.Frag} {fd : FuncData} {ps : List Str} (h : BindsU fd ps) : Binds K fd ps [] := fun s us _ hl => by
  rw [List.append_nil] at hl ⊢
  exact h s us hl
/-- the module as the evaluator takes it -/
structure ModOk (T : Tb) (P : Program) (w : World) (K : PySem.W.Frag) (mg : Str → Option Value) (Pm : Prog) (E1 : Env1) : Prop where
  hK : T.K = K
  free : ∀ x, E1.free.any (fun y => decide (x = y)) = true → mg x = none
  glob : ∀ x g d, E1.gid.lookup x = some g → Pm.glob.lookup g = some d → ∃ v u, mg x = some u ∧ RelV v u ∧ ∀ H B, Rv T.K H B v d
  fns : ∀ x f ps, E1.fid.lookup x = some (f, ps) → ∃ a fd st chg keep fn, mg x = some (.ref a) ∧ FunD K x x (defArgs st) (defBody st) (defScope st) [] [] a fd ∧ FnScope (slotsOf (defScope st)) ps (defScope st) ∧ cFn E1 st ps chg keep = some fn ∧ Pm.fn? f = some fn ∧ BindsU fd ps ∧
    ∀ (n : Nat) (ks : List Str) (perm : List Nat), (f, n, ks, perm) ∈ E1.kwt → ∀ (s : Shared) (us ws zs : List Value), us.length = n → ws.length = ks.length → pick (us ++ ws) perm = some zs → BindsTo s fd ⟨us, ks.zip ws⟩ (ps.zip zs)
  xcs : ∀ x fo lk, E1.xc.lookup x = some (fo, lk) → ∃ C, mg x = some (.ref C) ∧ T.xc x = some (C, fo) ∧ XcOk P K C fo lk
  exm : ∀ x y C C' fo fo', T.xc x = some (C, fo) → T.xc y = some (C', fo') → PySem.W.exmOne K (.ref C) (.ref C') = some (decide (x = y))
theorem spX_len {T : Tb} {cx : Ctx} {f : Nat} {ps : List Str} {vs : List V} {H : Hp} {Q : VK} {E : XK} (h : spX T cx f ps vs H Q E) : vs.length = ps.length := by
  obtain ⟨σ, Z, μ, s, xs, hl, st, xo, po⟩ := h
  rw [xo.length, hl]
theorem rho_start {T : Tb} {Z μ : List Addr} {s : Sto} {H : Hp} {N : List Str} {vs : List V} {xs : List Xv} (xo : XvsOk T.K Z μ s H vs xs) : RhoOk T.K Z μ s H (xs.map some ++ List.replicate (N.length - xs.length) none) (L2.start N vs) := by
  have hl := xo.length
  unfold L2.start
  refine ⟨by simp [hl], fun i x e => ?_⟩
  by_cases hi : i < xs.length
  · rw [List.getElem?_append_left (by simpa using hi), List.getElem?_map] at e
    cases hx : xs[i]? with
    | none => rw [hx] at e; cases e
    | some y =>
      rw [hx] at e
      cases Option.some.inj (Option.some.inj e)
      obtain ⟨u, hu, r⟩ := xo.get hx
      refine ⟨u, ?_, r⟩
      rw [List.getElem?_append_left (by simp [hl]; exact hi), List.getElem?_map, hu]
      rfl
  · rw [List.getElem?_append_right (by simpa using hi), List.getElem?_replicate] at e
    split at e <;> cases e
theorem fn_all {T : Tb} {P : Program} {w : World} {K : PySem.W.Frag} {mg : Str → Option Value} {Pm : Prog} {E1 : Env1} (M : ModOk T P w K mg Pm E1) : ∀ (k : Nat) (x : Str) (f : Nat) (ps : List Str), E1.fid.lookup x = some (f, ps) →
    ∃ a fd, mg x = some (.ref a) ∧ PySem.W.keepIn K (.ref a) = true ∧ (∀ base : Heap, FnOk P w K mg base (L2.CX P w) k a fd ps (spX T (cxAt Pm k) f ps)) ∧ BindsU fd ps ∧
    ∀ (n : Nat) (ks : List Str) (perm : List Nat), (f, n, ks, perm) ∈ E1.kwt → ∀ (s : Shared) (us ws zs : List Value), us.length = n → ws.length = ks.length → pick (us ++ ws) perm = some zs → BindsTo s fd ⟨us, ks.zip ws⟩ (ps.zip zs)
  | 0, x, f, ps, h => by
    obtain ⟨a, fd, st, chg, keep, fn, h1, F, S, h2, h3, hb, hk⟩ := M.fns x f ps h
    refine ⟨a, fd, h1, F.kp, fun base => ⟨fun vs H Q E => spX_len, fun A outer s H args us vs Q E hr e0 hbt hv hs => ?_⟩, hb, hk⟩
    obtain ⟨σ, Z, μ, s, xs, hl, st, xo, po⟩ := hs
    exact absurd po fun z => z
  | k + 1, x, f, ps, h => by
    have ih := fn_all M k
    obtain ⟨a, fd, st, chg, keep, fn, h1, F, S, h2, h3, hb, hk⟩ := M.fns x f ps h
    refine ⟨a, fd, h1, F.kp, fun base => F.ok S (fun vs H Q E => spX_len) fun cdv A outer s H vs Q E hr hs => ?_, hb, hk⟩
    unfold cFn at h2
    split at h2
    · rename_i body hbody
      cases Option.some.inj h2
      refine ⟨tSs T (cxAt Pm k) E body, snd_Ss (k := k) (c := ccOf E1 (defScope st) chg keep) ?_ (passes_of rfl) ⟨rfl, rfl⟩ hbody, ?_⟩
      · exact ⟨M.hK, rfl, rfl, S.nd, rfl, hr, fun _ _ => .inl rfl, M.free, takes_of rfl rfl rfl rfl, M.glob, fun x f ps hx => (ih x f ps hx).imp fun _ h => h.imp fun _ h => ⟨h.1, h.2.1, h.2.2.1 base, h.2.2.2.1.to, h.2.2.2.2⟩, M.xcs, M.exm⟩
      · obtain ⟨σ, Z, μ, s, xs, hl, sto, xo, po⟩ := hs
        change Po _ _ _ _ _ _ _ (callD Pm (k + 1) f xs s) _ _ at po
        unfold callD at po
        rw [h3] at po
        simp only at po
        unfold runAt at po
        split at po
        · rename_i hc
          rw [Bool.and_eq_true] at hc
          obtain ⟨Z', hz, st0⟩ := fresh_st sto
          have xo0 := fresh_args hz hc.1 xo
          have up : ∀ a, ∀ {μ' s'}, Bz μ s Z a → Bz μ' s' Z' a := fun a _ _ h => .inr ((hz a).mpr h)
          refine ⟨Z', [], [], _, st0, rho_start xo0, ?_⟩
          unfold runFn at po
          rw [if_pos hl] at po
          simp only at po
          generalize exs (cxAt Pm k) body (xs.map some ++ List.replicate ((slotsOf (defScope st)).length - xs.length) none) [] = r at po ⊢
          cases r with
          | err => exact po
          | exc c ds s' => exact fun μ' H' cls d nx st' xo' => po μ H' cls d (fresh_nx nx) (fresh_back sto nx) (xo'.lessZ fun a h => up a h)
          | ok fl s' =>
            cases fl with
            | rt x =>
              intro μ' H' u nx st' xo'
              refine back_ok (E := E) (σ := σ) (keep := keep) st0 nx st' xo' ?_
              simp only at po
              change Po _ _ _ _ _ _ _ (frame s (back keep [].length x s')) _ _ at po
              generalize back keep ([] : Sto).length x s' = q at po ⊢
              cases q with
              | err => exact po
              | exc c ds s2 => exact fun μ2 H2 cls d nx st' xo' => po μ H2 cls d (fresh_nx nx) (fresh_back sto nx) (xo'.lessZ fun a h => up a h)
              | ok y s2 =>
                cases y with
                | v d => exact fun μ2 H2 b nx2 st2 xo2 => po μ H2 b (fresh_nx nx2) (fresh_back sto nx2) (Rv.mv (Mv.less fun a h => up a h) xo2)
                | c n => exact absurd po fun z => z
                | w ns => exact absurd po fun z => z
            | nx ρ => exact fun μ' H' σ' nx st' rh' => po μ H' .non (fresh_nx nx) (fresh_back sto nx) .non
            | bk ρ => exact absurd po fun z => z
            | ct ρ => exact absurd po fun z => z
        · refine ⟨Z, μ, s, _, sto, rho_start xo, ?_⟩
          unfold runFn at po
          rw [if_pos hl] at po
          simp only at po
          generalize exs (cxAt Pm k) body (xs.map some ++ List.replicate ((slotsOf (defScope st)).length - xs.length) none) s = r at po ⊢
          cases r with
          | err => exact po
          | exc c ds s' => exact fun μ' H' cls d nx st' xo' => po μ H' cls d (trunc sto nx st').1 (trunc sto nx st').2 (xo'.less (bz_take nx.pre _))
          | ok fl s' =>
            cases fl with
            | rt x => exact fun μ' H' u nx st' xo' => back_ok (E := E) (σ := σ) sto nx st' xo' po
            | nx ρ => exact fun μ' H' σ' nx st' rh' => po μ H' .non (trunc sto nx st').1 (trunc sto nx st').2 .non
            | bk ρ => exact absurd po fun z => z
            | ct ρ => exact absurd po fun z => z
    · cases h2
end Mi
end

section
set_option maxRecDepth 100000
/-! MiHead: a law's end over the head. -/
namespace Mi
open PySem PySem.Spec PyProof.Rows L2
/-- one def of the module, as ModOk wants it -/
def EntOk (K : PySem.W.Frag) (mg : Str → Option Value) (Pm : Prog) (E1 : Env1) (x : Str) (f : Nat) (ps : List Str) : Prop :=
  ∃ a fd st chg keep fn, mg x = some (.ref a) ∧ FunD K x x (defArgs st) (defBody st) (defScope st) [] [] a fd ∧ FnScope (slotsOf (defScope st)) ps (defScope st) ∧ cFn E1 st ps chg keep = some fn ∧ Pm.fn? f = some fn ∧ BindsU fd ps ∧
    ∀ (n : Nat) (ks : List Str) (perm : List Nat), (f, n, ks, perm) ∈ E1.kwt → ∀ (s : Shared) (us ws zs : List Value), us.length = n → ws.length = ks.length → pick (us ++ ws) perm = some zs → BindsTo s fd ⟨us, ks.zip ws⟩ (ps.zip zs)
theorem look_mem {α : Type} {l : List (Str × α)} {x : Str} {v : α} (h : l.lookup x = some v) : (x, v) ∈ l := PySem.mem_of_lookup h
theorem kw_binds {K : PySem.W.Frag} {x qual : Str} {params : Arguments} {body : List Stmt} {scope : Scope} {kws : List (Str × V)} {f : Addr} {fd : FuncData} {args : Args} {bs : List (Str × Value)} (F : FunD K x qual params body scope [] kws f fd)
    (h : ∀ (kV doc pm : Value) (an : Option Addr) (cdv ct : Value), bindArgs (PySem.W.fnOf x qual params body scope .none kV doc pm an cdv ct) args = pure bs) (s : Shared) : BindsTo s fd args bs := by
  obtain ⟨oc, od, dV, kV, doc, pm, an, cdv, ct, osl, rfl, lk, hcd, hD, hK⟩ := F.ex
  rcases hD with ⟨_, rfl⟩ | ⟨e, _⟩
  · exact .of_eq (h kV doc pm an cdv ct)
  · exact absurd rfl e
theorem modOk_of {T : Tb} {P : Program} {w : World} {K : PySem.W.Frag} {mg : Str → Option Value} {Pm : Prog} {E1 : Env1} (hK : T.K = K) (hfree : ∀ x ∈ E1.free, mg x = none)
    (hglob : ∀ p ∈ E1.gid, ∀ d, Pm.glob.lookup p.2 = some d → ∃ v u, mg p.1 = some u ∧ RelV v u ∧ ∀ H B, Rv T.K H B v d) (hfns : ∀ p ∈ E1.fid, EntOk K mg Pm E1 p.1 p.2.1 p.2.2)
    (hxc : ∀ p ∈ E1.xc, ∃ C, mg p.1 = some (.ref C) ∧ T.xc p.1 = some (C, p.2.1) ∧ XcOk P K C p.2.1 p.2.2) (hexm : ∀ x y C C' fo fo', T.xc x = some (C, fo) → T.xc y = some (C', fo') → PySem.W.exmOne K (.ref C) (.ref C') = some (decide (x = y))) : ModOk T P w K mg Pm E1 where
  hK := hK
  free := fun x h => by
    rw [List.any_eq_true] at h
    obtain ⟨y, hy, e⟩ := h
    rw [of_decide_eq_true e]
    exact hfree y hy
  glob := fun x g d h1 h2 => hglob (x, g) (look_mem h1) d h2
  fns := fun x f ps h => hfns (x, (f, ps)) (look_mem h)
  xcs := fun x fo lk h => hxc (x, (fo, lk)) (look_mem h)
  exm := hexm
/-- the law's promise, from what the evaluator answers -/
theorem sp_law {T : Tb} {cx : Ctx} {f : Nat} {x : Str} {H : Hp} {a : Addr} {ns : List Int} (hS : SqL T.K H a (ns.map V.int)) (hev : cx.call f [.w ns] [] = .ok (.v (.bool true)) []) :
    spX T cx f [x] [.ref a] H (fun v _ => v = .bl true) fun _ _ _ => False := by
  have st : StOk T.K [] [] [] H := ⟨rfl, .nil, fun a h => (nomatch h), fun a h => (nomatch h), fun n a c e => by simp at e⟩
  have nb : ∀ b, ¬ Bz [] [] [] b := fun b h => by
    rcases h with ⟨n, c, e, _⟩ | h
    · simp at e
    · cases h
  have xo : XvOk T.K [] [] [] H (.ref a) (.w ns) := by
    rcases hS with h | h
    · exact ⟨a, rfl, .inl ⟨h, nb a⟩⟩
    · exact ⟨a, rfl, .inr h⟩
  refine ⟨[], [], [], [], [.w ns], rfl, st, .cons xo .nil, ?_⟩
  rw [hev]
  intro μ' H' u nx st' hu
  cases hu
  rfl
/-- a law's end: the errors' way out may know the world -/
theorem walk_W {l : PySem.W.OpenLaw} {n k : Nat} {q : Program} {loose : List Str} {XP : (Str → Option Value) → Heap → Prop} {YP : World → Heap → Prop} {d : DefRec} {CX : World → CXT} {x : Str}
    (hn : l.most = some n) (hz : n ≤ sizeLine) (hdf : d.params.defaults = []) (hr : Room k callerA)
    (F : ∀ (w : World) (mg : Str → Option Value) (fa : Addr) (h : Heap), YP w h → h.Ns mainGlobals mg → mg d.name = some (.ref fa) →
      ∃ (K : PySem.W.Frag) (fd : FuncData) (sp : Sp), K.In h ∧ (∀ (s : Shared) (u : Value), BindsTo s fd ⟨[u], []⟩ [(x, u)]) ∧
        (∀ (H : Hp) (a : Addr) (ns : List Int), ns.length ≤ n → SqL K H a (ns.map V.int) → sp [.ref a] H (fun v _ => v = .bl true) fun _ _ _ => False) ∧ ∀ base : Heap, K.In base → base.Ns mainGlobals mg → FnOk l.prog w K mg base (CX w) k fa fd [x] sp)
    (hCX : ∀ (w : World) (H : Hp) (s : Shared) (e : Value) (s' : Shared), CX w [] H s (fun _ _ _ => False) e s' → False) : PySem.W.WalkO q loose XP YP l.row.toRowW d [] (fun f vs => PySem.call f vs) := by
  refine Att.attach_call hn hdf fun w s0 s1 mg mb fa o pm cd doc a vs ns G Y ho hd hcd hmg hobj hints hlen hg => ?_
  obtain ⟨K, fd, sp, KX, hb, hsp, hF⟩ := F w mg fa _ Y G.T.g hmg
  exact law_call KX G.T.g G.T.b G.T.builtins G.T.nolimit hg hobj hints (Nat.le_trans hlen hz) hr hF hb (fun H _ hS => hsp H a ns hlen hS) fun H e s' => hCX w H s1 e s'
theorem cx_none {P : Program} {w : World} {o : List Env} {H : Hp} {s : Shared} {e : Value} {s' : Shared} (h : L2.CX P w o H s (fun _ _ _ => False) e s') : False := by
  obtain ⟨a, B, H', cls, d, _, _, _, _, _, _, _, z⟩ := h
  exact z
end Mi
end

section
set_option maxRecDepth 100000
set_option maxHeartbeats 2000000
/-! MiHook: the head's facts of error classes. -/
namespace Mi
open PySem PySem.Spec PyProof.Rows L2
/-- an error class: its name, its __init__ (or none), over LookupError? -/
structure XcD where
  x : Str
  d : Option InitD
  lk : Bool
def leBase : List Value := [.type "LookupError", .type "Exception", .type "BaseException", .type "object"]
def XcD.B (e : XcD) : String := if e.lk then "LookupError" else "ValueError"
def XcD.newId (e : XcD) : String := if e.lk then "LookupError.__new__" else "ValueError.__new__"
def XcD.initId (e : XcD) : String := if e.lk then "LookupError.__init__" else "ValueError.__init__"
def XcD.bmB (e : XcD) : List Value := if e.lk then leBase else He.veBase
abbrev FnI : Type := Option (Str × Str × Arguments × FuncBody × Scope × Addr × Addr)
def fnI (K : PySem.W.Frag) (x : Str) : FnI := match K.lookup (He.ma K (He.ga K x) "__init__") with
  | some ⟨_, _, .func fd, _⟩ => some (fd.name, fd.qualname, fd.params, fd.body, fd.scope, fd.globals, fd.builtins)
  | _ => none
def XcD.obs (K : PySem.W.Frag) (e : XcD) : FnI := match e.d with
  | some _ => fnI K e.x
  | none => none
def XcD.val (e : XcD) : FnI := match e.d with
  | some d => some (d.name, d.qual, d.params, .stmts d.body, d.scope, mainGlobals, builtinsNs)
  | none => none
def excCB (K : PySem.W.Frag) (D : Addr) : Bool := He.eqO (PySem.W.findIn K (.ref D) "__getattribute__") (some (some (.builtin "BaseException.__getattribute__"))) && (He.eqO (PySem.W.findIn K (.ref D) "__getattr__") (some none) && (decide (PySem.W.subIn K (.ref D) (.type "BaseException") = some true) &&
  (PySem.W.hasDictIn K D && (He.eqO (PySem.W.findIn K (.ref D) "__class__") (some (some (.builtin "object.__class__"))) && (He.eqO (PySem.W.specialIn K (.builtin "object.__class__") "__get__") (some (some (.builtin "getset_descriptor.__get__"))) &&
  (decide (PySem.W.takesIn K (.builtin "object.__class__") = some true) && decide (PySem.W.mroIn K D (.type "object") = some true)))))))
theorem excCB_ok {K : PySem.W.Frag} {D : Addr} (h : excCB K D = true) : ExcC K D := by
  simp only [excCB, Bool.and_eq_true, decide_eq_true_eq] at h
  obtain ⟨h1, h2, h3, h4, h5, h6, h7, h8⟩ := h
  exact ⟨He.eqO_ok h1, He.eqO_ok h2, h3, h4, He.eqO_ok h5, He.eqO_ok h6, h7, h8⟩
/-- the __init__ as it stands -/
def initB (P : Program) (K : PySem.W.Frag) (C fI : Addr) : Bool := match K.lookup fI with
  | some ⟨_, _, .func fd, _⟩ => (match fd.code, fd.closure with
    | .ref cda, [(nm, cc)] => decide (nm = ("__class__" : Str)) && (decide (fd.defaults = .none) && (PySem.W.codeIn K (.ref cda) fd.qualname && ((match K.lookup cda with
      | some ⟨_, _, .fields vs, _⟩ => (match (vs[2]? : Option Value) with
        | some (.str file _) => ((P.main.file : Str) == file)
        | _ => false)
      | _ => false) && (match K.lookup cc with
      | some ⟨_, _, .cell (some v), _⟩ => decide (v = .ref C)
      | _ => false))))
    | _, _ => false)
  | _ => false
def supB (P : Program) (K : PySem.W.Frag) (e : XcD) (C fI : Addr) (f : Str) : Bool :=
  PySem.W.excInitIn K C e.bmB e.newId && (He.eqO (PySem.W.findIn K (.ref C) "__init__") (some (some (.ref fI))) && (decide (PySem.W.typeIn K (.ref fI) = some (.type "function")) && (initB P K C fI && ((PySem.W.clsIn K C).isSome &&
  (decide (PySem.W.mroIn K C (.ref C) = some true) && (He.eqO (PySem.W.nsIn K mainGlobals "super") (some none) && (decide ((P.main.scope.names.lookup ("super" : Str)).isSome = false) && (He.eqO (PySem.W.nsIn K cStatics "thirdparty.any") (some none) &&
  (He.eqO (PySem.W.ks_superIn K C C "__init__") (some (some (.builtin e.initId))) && (decide (PySem.W.subIn K (.ref C) (.type e.B) = some true) && (He.eqO (PySem.W.findIn K (.ref C) "__setattr__") (some (some (.builtin "object.__setattr__"))) &&
  (PySem.W.excOver K C e.bmB && (He.eqO (PySem.W.takerIn K C f) (some none) && He.eqO (PySem.W.findIn K (.ref C) f) (some none))))))))))))))
def xcB (P : Program) (K : PySem.W.Frag) (e : XcD) : Bool :=
  excCB K (He.ga K e.x) && (decide (PySem.W.kitOne K (.ref (He.ga K e.x)) (.type "LookupError") = some e.lk) && (decide (PySem.W.kitOne K (.ref (He.ga K e.x)) (.type "ValueError") = some (!e.lk)) && (PySem.W.keepIn K (.ref (He.ga K e.x)) &&
  (decide (PySem.W.typeIn K (.ref (He.ga K e.x)) = some (.type "type")) && (match e.d with
    | some d => supB P K e (He.ga K e.x) (He.ma K (He.ga K e.x) "__init__") d.f
    | none => PySem.W.excIn K (He.ga K e.x) e.bmB e.newId)))))
theorem init_ok {P : Program} {K : PySem.W.Frag} {C fI : Addr} {d : InitD} (h : initB P K C fI = true) {x : Str} (hx : He.ma K (He.ga K x) "__init__" = fI) (hv : fnI K x = some (d.name, d.qual, d.params, .stmts d.body, d.scope, mainGlobals, builtinsNs)) :
    ∃ (oc : Value) (od : Option Addr) (osl : Array (Option Value)) (kV doc pm : Value) (an : Option Addr) (cda : Addr) (ct : Value) (cc : Addr) (ccl : Value) (cdd : Option Addr) (ccs : Array (Option Value)) (vs : Array Value) (file : Str) (tf : Tok) (cl : Value) (cld : Option Addr) (csl : Array (Option Value)),
    K.lookup fI = some ⟨oc, od, .func (PySem.W.ksFn d.name d.qual d.params d.body d.scope .none kV doc pm an (.ref cda) ct cc), osl⟩ ∧ PySem.W.codeIn K (.ref cda) d.qual = true ∧ K.lookup cda = some ⟨ccl, cdd, .fields vs, ccs⟩ ∧ vs[2]? = some (.str file tf) ∧
    ((P.main.file : Str) == file) = true ∧ K.lookup cc = some ⟨cl, cld, .cell (some (.ref C)), csl⟩ := by
  unfold initB at h
  unfold fnI at hv
  rw [hx] at hv
  split at h
  · rename_i oc od fd osl hl
    rw [hl] at hv
    obtain ⟨n1, n2, n3, n4, n5, n6, n7, n8, n9, n10, n11, n12, n13, n14, n15⟩ := fd
    have e2 : (some (n1, n2, n3, n4, n5, n6, n15) : FnI) = some (d.name, d.qual, d.params, .stmts d.body, d.scope, mainGlobals, builtinsNs) := hv
    simp only [Option.some.injEq, Prod.mk.injEq] at e2
    obtain ⟨h1, h2, h3, h4, h5, h6, h7⟩ := e2
    subst h1 h2 h3 h4 h5 h6 h7
    simp only at h
    split at h
    · rename_i cda nm cc
      simp only [Bool.and_eq_true, decide_eq_true_eq] at h
      obtain ⟨q1, q0, q2, q3, q4⟩ := h
      subst q1
      subst q0
      split at q3
      · rename_i ccl cdd vs ccs hcode
        split at q3
        · rename_i file tf hvs
          split at q4
          · rename_i cl cld v csl hcell
            have ev : v = .ref C := of_decide_eq_true q4
            subst ev
            exact ⟨oc, od, osl, n9, n10, n11, n12, cda, n14, cc, ccl, cdd, ccs, vs, file, tf, cl, cld, csl, hl, q2, hcode, hvs, q3, hcell⟩
          · cases q4
        · cases q3
      · cases q3
    · cases h
  · cases h
theorem xcB_ok {P : Program} {K : PySem.W.Frag} {e : XcD} (h : xcB P K e = true) (hv : e.obs K = e.val) (hd : ∀ d, e.d = some d → d.Ok) : XcOk P K (He.ga K e.x) (e.d.map (·.f)) e.lk := by
  simp only [xcB, Bool.and_eq_true, decide_eq_true_eq] at h
  obtain ⟨h1, h2, h3, h4, h5, h6⟩ := h
  have E := excCB_ok h1
  have FB : ExcBaseFacts e.B e.newId e.initId e.bmB := by
    unfold XcD.B XcD.newId XcD.initId XcD.bmB
    cases e.lk
    · exact PySem.F.excBase_ValueError
    · exact PySem.F.excBase_LookupError
  refine ⟨E, ⟨E.hg, E.hk, E.hs, E.hd⟩, h2, h3, h4, h5, fun f hf => ?_, fun hf => ?_⟩
  · cases q : e.d with
    | none => rw [q] at hf; cases hf
    | some d =>
      rw [q] at hf h6
      cases Option.some.inj hf
      have hv' : fnI K e.x = some (d.name, d.qual, d.params, .stmts d.body, d.scope, mainGlobals, builtinsNs) := by
        unfold XcD.obs XcD.val at hv
        rw [q] at hv
        exact hv
      simp only [supB, Bool.and_eq_true, decide_eq_true_eq] at h6
      obtain ⟨a1, a2, a3, a4, a5, a6, a7, a8, a9, a10, a11, a12, a13, a14, a15⟩ := h6
      refine ⟨He.eqO_ok a15, e.B, e.newId, e.initId, e.bmB, He.ma K (He.ga K e.x) "__init__", d, hd d q, rfl, ⟨a1, He.eqO_ok a2, a3, init_ok a4 rfl hv', Option.isSome_iff_exists.mp a5, a6, He.eqO_ok a7, a8, He.eqO_ok a9, He.eqO_ok a10, a11, He.eqO_ok a12, a13, He.eqO_ok a14, E.hd, E.hs, h5, h4⟩, ?_, FB, ?_⟩
      · unfold XcD.B XcD.initId
        cases e.lk
        · exact PySem.W.kxs_ValueError
        · exact PySem.W.kxs_LookupError
      · unfold XcD.B XcD.bmB
        cases e.lk
        · exact PySem.F.store_ValueError
        · exact PySem.F.store_LookupError
  · cases q : e.d with
    | some d => rw [q] at hf; cases hf
    | none =>
      rw [q] at h6
      exact ⟨_, _, _, _, FB, h6⟩
/-! ### an __init__ out of the text -/
def clsInit : Stmt → Stmt
  | .ClassDef _ _ _ (b :: _) _ _ _ _ _ _ _ => b
  | s => s
def initOf (q : Str) (st : Stmt) : InitD := match defBody st with
  | [.Expr (.Call (.Attribute (.Call (.Name _ p0) [] [] p1) _ p2) [.Name x p3] [] p4) p5, .Assign [.Attribute (.Name slf p6) f p7] (.Name _ p8) p9] => ⟨"__init__", q, defArgs st, defScope st, slf, x, f, p0, p1, p2, p3, p4, p5, p6, p7, p8, p9⟩
  | _ => ⟨"__init__", q, defArgs st, defScope st, "self", "x", "f", ⟨0, 0, 0, 0⟩, ⟨0, 0, 0, 0⟩, ⟨0, 0, 0, 0⟩, ⟨0, 0, 0, 0⟩, ⟨0, 0, 0, 0⟩, ⟨0, 0, 0, 0⟩, ⟨0, 0, 0, 0⟩, ⟨0, 0, 0, 0⟩, ⟨0, 0, 0, 0⟩, ⟨0, 0, 0, 0⟩⟩
/-! ### the Hook -/
abbrev AlX : Type := He.AlD × Bool × List FnI
def obsX (P : Program) (fa : List He.Fa) (fn : List He.DefD) (ex : List XcD) (K : PySem.W.Frag) : AlX := (He.obsD fa fn K, ex.all (fun e => xcB P K e), ex.map fun e => e.obs K)
def valX (fn : List He.DefD) (ex : List XcD) : AlX := (He.valD fn, true, ex.map XcD.val)
def obsXG (P : Program) (n : Nat) (fa : List He.Fa) (fn : List He.DefD) (ex : List XcD) (g : Addr → Option Obj) : AlX := obsX P fa fn ex (He.frG g (cStatics :: He.asD g n))
def SaysX (P : Program) (fa : List He.Fa) (fn : List He.DefD) (ex : List XcD) (K : PySem.W.Frag) : Prop := obsX P fa fn ex K = valX fn ex
def hookX (P : Program) (n : Nat) (fa : List He.Fa) (fn : List He.DefD) (ex : List XcD) : PySem.W.Hook where
  α := AlX
  obs := fun s => obsXG P n fa fn ex s.heap.get?
  val := fun _ => valX fn ex
  says := fun _ h => ∃ K : PySem.W.Frag, K.In h ∧ SaysX P fa fn ex K
  of := fun _ _ e => ⟨_, He.frG_in, e⟩
  keeps := fun _ _ _ ⟨K, hK, c⟩ k => ⟨K, PySem.W.Frag.In.keeps hK k, c⟩
theorem obsXG_eq {P : Program} {n : Nat} {fa : List He.Fa} {fn : List He.DefD} {ex : List XcD} {g : Addr → Option Obj} {s : Shared} (h : ∀ a, g a = s.heap.get? a) : obsXG P n fa fn ex g = (hookX P n fa fn ex).obs s := by
  have e : g = s.heap.get? := funext h
  rw [e] <;> rfl
theorem SaysX.d {P : Program} {fa : List He.Fa} {fn : List He.DefD} {ex : List XcD} {K : PySem.W.Frag} (c : SaysX P fa fn ex K) : He.SaysD fa fn K := congrArg (fun z : AlX => z.1) c
theorem SaysX.xc {P : Program} {fa : List He.Fa} {fn : List He.DefD} {ex : List XcD} {K : PySem.W.Frag} (c : SaysX P fa fn ex K) (i : Nat) {e : XcD} (h : ex[i]? = some e) (hd : ∀ d, e.d = some d → d.Ok) : XcOk P K (He.ga K e.x) (e.d.map (·.f)) e.lk := by
  have c1 : (ex.all fun e => xcB P K e) = true := congrArg (fun z : AlX => z.2.1) c
  have c2 : (ex.map fun e => e.obs K) = ex.map XcD.val := congrArg (fun z : AlX => z.2.2) c
  have e2 : (ex.map fun e => e.obs K)[i]? = (ex.map XcD.val)[i]? := by rw [c2]
  rw [List.getElem?_map, List.getElem?_map, h] at e2
  exact xcB_ok (List.all_eq_true.mp c1 e (List.mem_of_getElem? h)) (Option.some.inj e2) hd
end Mi
end

section
set_option maxRecDepth 100000
set_option maxHeartbeats 0
namespace K02
open PySem PySem.Spec PyProof.Rows L2 Mi
def top (i : Nat) : Stmt := PySem.Challenge.pw_orderrings_k02_who_is_in_which_group.main.body.getD i (.Pass ⟨0, 0, 0, 0⟩)
abbrev s_tupled : Stmt := top 4
abbrev s_set_of : Stmt := top 5
abbrev s_table_of : Stmt := top 7
abbrev s_groups : Stmt := top 8
abbrev s_people : Stmt := top 9
abbrev s_check_groups : Stmt := top 10
abbrev s_check_people : Stmt := top 11
abbrev s_members_of : Stmt := top 12
abbrev s_groups_of : Stmt := top 13
abbrev s_memberships : Stmt := top 14
abbrev s_in_both : Stmt := top 15
abbrev s__law_box : Stmt := top 17
abbrev s__law_take : Stmt := top 18
abbrev s__law_cells : Stmt := top 19
abbrev s__law_same : Stmt := top 20
abbrev s__law_lists : Stmt := top 21
abbrev s__law_pick : Stmt := top 22
abbrev s__law_book : Stmt := top 23
abbrev s__law_folk : Stmt := top 24
abbrev s__law_heard : Stmt := top 25
abbrev s__law_case_right : Stmt := top 26
abbrev s__law_by_hand_right : Stmt := top 27
abbrev s__law_right : Stmt := top 28
abbrev s_law : Stmt := top 29
/-- the defs: name, place -/
def ds : List (Str × Nat) := [(("tupled" : Str), 4), (("set_of" : Str), 5), (("table_of" : Str), 7), (("groups" : Str), 8), (("people" : Str), 9), (("check_groups" : Str), 10), (("check_people" : Str), 11), (("members_of" : Str), 12), (("groups_of" : Str), 13), (("memberships" : Str), 14), (("in_both" : Str), 15), (("_law_box" : Str), 17), (("_law_take" : Str), 18), (("_law_cells" : Str), 19), (("_law_same" : Str), 20), (("_law_lists" : Str), 21), (("_law_pick" : Str), 22), (("_law_book" : Str), 23), (("_law_folk" : Str), 24), (("_law_heard" : Str), 25), (("_law_case_right" : Str), 26), (("_law_by_hand_right" : Str), 27), (("_law_right" : Str), 28), (("law" : Str), 29)]
def dOf (x : Str) (i : Nat) : He.DefD := ⟨(x, none), x, x, defArgs (top i), defBody (top i), defScope (top i), [], []⟩
def fn : List He.DefD := ds.map fun p => dOf p.1 p.2
def fa : List He.Fa := [.glo "tupled", .glo "set_of", .glo "table_of", .glo "groups", .glo "people", .glo "check_groups", .glo "check_people", .glo "members_of", .glo "groups_of", .glo "memberships", .glo "in_both", .glo "_law_box", .glo "_law_take", .glo "_law_cells", .glo "_law_same", .glo "_law_lists", .glo "_law_pick", .glo "_law_book", .glo "_law_folk", .glo "_law_heard", .glo "_law_case_right", .glo "_law_by_hand_right", .glo "_law_right", .glo "law", .free "LookupError", .free "abs", .free "all", .free "bool", .free "dict", .free "enumerate", .free "int", .free "isinstance", .free "len", .free "list", .free "min", .free "range", .free "set", .free "sorted", .free "str", .free "super", .free "tuple", .free "zip", .glo "NoGroup", .glo "NoPerson", .exm "NoGroup" "NoGroup" true, .exm "NoGroup" "NoPerson" false, .exm "NoPerson" "NoGroup" false, .exm "NoPerson" "NoPerson" true]
abbrev R : PySem.W.OpenRow := PySem.W.OpenLaw.row PySem.Challenge.rw_orderrings_k02_who_is_in_which_group
def i_NoGroup : InitD := initOf "NoGroup.__init__" (clsInit (top 1))
def i_NoPerson : InitD := initOf "NoPerson.__init__" (clsInit (top 2))
def ex : List XcD := [⟨"NoGroup", some i_NoGroup, true⟩, ⟨"NoPerson", some i_NoPerson, true⟩]
abbrev hk : PySem.W.Hook := hookX R.prog 4 fa fn ex
def ob (s : PySem.W.SharedT) : AlX := obsXG R.prog 4 fa fn ex (HandSHeadRun.getT s)
theorem ob_eq (s : PySem.W.SharedT) : ob s = hk.obs s.abs := obsXG_eq (HandSHeadRun.getT_eq s)
def loose : List Str := ([("tupled" : Str), ("set_of" : Str), ("table_of" : Str), ("groups" : Str), ("people" : Str), ("check_groups" : Str), ("check_people" : Str), ("members_of" : Str), ("groups_of" : Str), ("memberships" : Str), ("in_both" : Str), ("_law_box" : Str), ("_law_take" : Str), ("_law_cells" : Str), ("_law_same" : Str), ("_law_lists" : Str), ("_law_pick" : Str), ("_law_book" : Str), ("_law_folk" : Str), ("_law_heard" : Str), ("_law_case_right" : Str), ("_law_by_hand_right" : Str), ("_law_right" : Str), ("NoGroup" : Str), ("NoPerson" : Str)] : List Str)
theorem run (w : World) : HandSHeadRun.RunEq R (PySem.W.view R.prog [29]) hk ob 6000 loose w := by
  intro os
  kernel_rfl
end K02
end

section
set_option maxRecDepth 100000
set_option maxHeartbeats 0
namespace K02
open PySem PySem.Spec PyProof.Rows L2 Mi
def E1 : Env1 where
  fid := [(("tupled" : Str), ((0 : Nat), (["thing"] : List Str))), (("set_of" : Str), ((1 : Nat), (["things"] : List Str))), (("table_of" : Str), ((387 : Nat), (["book"] : List Str))), (("groups" : Str), ((189 : Nat), (["book"] : List Str))), (("people" : Str), ((328 : Nat), (["book"] : List Str))), (("check_groups" : Str), ((148 : Nat), (["book", "some"] : List Str))), (("check_people" : Str), ((150 : Nat), (["book", "some"] : List Str))), (("members_of" : Str), ((297 : Nat), (["book", "group"] : List Str))), (("groups_of" : Str), ((190 : Nat), (["book", "person"] : List Str))), (("memberships" : Str), ((298 : Nat), (["book"] : List Str))), (("in_both" : Str), ((206 : Nat), (["book", "one", "other"] : List Str))), (("_law_box" : Str), ((7 : Nat), (["_law_script", "_law_k"] : List Str))), (("_law_take" : Str), ((8 : Nat), (["_law_box_here", "_law_wide_so"] : List Str))), (("_law_cells" : Str), ((9 : Nat), (["_law_script", "_law_top_so"] : List Str))), (("_law_same" : Str), ((11 : Nat), (["_law_got", "_law_due"] : List Str))), (("_law_lists" : Str), ((12 : Nat), (["_law_matter_so"] : List Str))), (("_law_pick" : Str), ((14 : Nat), (["_law_box_here", "_law_goods_so", "_law_size_so"] : List Str))), (("_law_book" : Str), ((600 : Nat), (["_law_box_here", "_law_high_so", "_law_folk_so"] : List Str))), (("_law_folk" : Str), ((601 : Nat), (["_law_book_so"] : List Str))), (("_law_heard" : Str), ((602 : Nat), (["_law_door", "_law_book_so", "_law_tag", "_law_far_so"] : List Str))), (("_law_case_right" : Str), ((603 : Nat), (["_law_book_so"] : List Str))), (("_law_by_hand_right" : Str), ((604 : Nat), ([] : List Str))), (("_law_right" : Str), ((605 : Nat), (["_law_box_here"] : List Str))), (("law" : Str), ((606 : Nat), (["_law_script"] : List Str)))]
  gid := []
  free := ["LookupError", "abs", "all", "bool", "dict", "enumerate", "int", "isinstance", "len", "list", "min", "range", "set", "sorted", "str", "super", "tuple", "zip"]
  kwt := [(190, 0, ["person", "book"], [1, 0]), (189, 0, ["book"], [0]), (328, 0, ["book"], [0]), (297, 0, ["group", "book"], [1, 0]), (206, 0, ["other", "one", "book"], [2, 1, 0]), (298, 0, ["book"], [0])]
  xc := [(("NoGroup" : Str), (some ("group" : Str), true)), (("NoPerson" : Str), (some ("person" : Str), true))]
def F_tupled : Fn :=
  ⟨1, 2, false, (.cons (.ret (.ite (.isi (.var 0) ["list", "tuple"]) (.blt .tup (.cons (.comp [1] (.call 0 (.cons (.var 1) .nil)) (.one 1) (.seq (.var 0)) .nil) .nil)) (.var 0))) .nil)⟩
def F_set_of : Fn :=
  ⟨1, 3, false, (.cons (.new 1 (.lst .nil)) (.cons (.for_ (.one 2) (.seq (.bltl .sorted (.cons (.var 0) .nil))) (.cons (.ite (.or (.cmp .Eq (.blt .len (.cons (.var 1) .nil)) (.cst (.int (0)))) (.cmp .NotEq (.sub (.var 1) (.neg (.cst (.int (1))))) (.var 2))) (.cons (.ex (.meth .append (.var 1) (.cons (.var 2) .nil))) .nil) .nil) .nil)) (.cons (.ret (.blt .tup (.cons (.var 1) .nil))) .nil)))⟩
def F_table_of : Fn :=
  ⟨1, 1, false, (.cons (.ret (.blt .dict (.cons (.call 0 (.cons (.var 0) .nil)) .nil))) .nil)⟩
def F_groups : Fn :=
  ⟨1, 1, false, (.cons (.ret (.blt .tup (.cons (.call 387 (.cons (.var 0) .nil)) .nil))) .nil)⟩
def F_people : Fn :=
  ⟨1, 3, false, (.cons (.ret (.call 1 (.cons (.comp2 [1, 2] [2] (.var 2) (.one 1) (.vals (.call 387 (.cons (.var 0) .nil))) .nil (.one 2) (.seq (.var 1)) .nil) .nil))) .nil)⟩
def F_check_groups : Fn :=
  ⟨2, 4, false, (.cons (.set (.one 2) (.call 189 (.cons (.var 0) .nil))) (.cons (.for_ (.one 3) (.seq (.var 1)) (.cons (.ite (.cmp .NotIn (.var 3) (.var 2)) (.cons (.raise "NoGroup" (.cons (.var 3) .nil)) .nil) .nil) .nil)) .nil))⟩
def F_check_people : Fn :=
  ⟨2, 4, false, (.cons (.set (.one 2) (.call 328 (.cons (.var 0) .nil))) (.cons (.for_ (.one 3) (.seq (.var 1)) (.cons (.ite (.cmp .NotIn (.var 3) (.var 2)) (.cons (.raise "NoPerson" (.cons (.var 3) .nil)) .nil) .nil) .nil)) .nil))⟩
def F_members_of : Fn :=
  ⟨2, 2, false, (.cons (.ex (.call 148 (.cons (.var 0) (.cons (.tup (.cons (.var 1) .nil)) .nil)))) (.cons (.ret (.sub (.call 387 (.cons (.var 0) .nil)) (.var 1))) .nil))⟩
def F_groups_of : Fn :=
  ⟨2, 4, false, (.cons (.ex (.call 150 (.cons (.var 0) (.cons (.tup (.cons (.var 1) .nil)) .nil)))) (.cons (.ret (.blt .tup (.cons (.comp [2, 3] (.var 2) (.tup [2, 3]) (.seq (.call 0 (.cons (.var 0) .nil))) (.cons (.cmp .In (.var 1) (.var 3)) .nil)) .nil))) .nil))⟩
def F_memberships : Fn :=
  ⟨1, 4, false, (.cons (.ret (.blt .tup (.cons (.comp2 [1, 2, 3] [3] (.tup (.cons (.var 1) (.cons (.var 3) .nil))) (.tup [1, 2]) (.seq (.call 0 (.cons (.var 0) .nil))) .nil (.one 3) (.seq (.var 2)) .nil) .nil))) .nil)⟩
def F_in_both : Fn :=
  ⟨3, 5, false, (.cons (.ex (.call 148 (.cons (.var 0) (.cons (.tup (.cons (.var 1) (.cons (.var 2) .nil))) .nil)))) (.cons (.set (.one 3) (.call 387 (.cons (.var 0) .nil))) (.cons (.ret (.blt .tup (.cons (.comp [4] (.var 4) (.one 4) (.seq (.sub (.var 3) (.var 1))) (.cons (.cmp .In (.var 4) (.sub (.var 3) (.var 2))) .nil)) .nil))) .nil)))⟩
def F__law_box : Fn :=
  ⟨2, 3, true, (.cons (.set (.one 2) (.ite (.cmp .Lt (.var 1) (.blt .len (.cons (.var 0) .nil))) (.sub (.var 0) (.var 1)) (.cst (.int (0))))) (.cons (.retC (.lst (.cons (.bin .Mult (.blt .abs (.cons (.var 2) .nil)) (.blt .int (.cons (.cmp .GtE (.blt .abs (.cons (.var 2) .nil)) (.bin .Pow (.cst (.int (10))) (.cst (.int (18))))) .nil))) (.cons (.bin .Add (.bin .Add (.bin .Mod (.blt .int (.cons (.var 2) .nil)) (.cst (.int (2305843009213693951)))) (.bin .Mult (.cst (.int (39373))) (.var 1))) (.cst (.int (1190202)))) (.cons (.cst (.int (0))) .nil))))) .nil))⟩
def F__law_take : Fn :=
  ⟨2, 6, false, (.cons (.ite (.cmp .Gt (.sub (.var 0) (.cst (.int (0)))) (.cst (.int (0)))) (.cons (.set (.one 2) (.bin .Mod (.blt .int (.cons (.sub (.var 0) (.cst (.int (0)))) .nil)) (.var 1))) (.cons (.setI 0 (.cst (.int (0))) (.bin .FloorDiv (.sub (.var 0) (.cst (.int (0)))) (.var 1))) (.cons (.ret (.var 2)) .nil))) .nil) (.cons (.setI 0 (.cst (.int (2))) (.bin .Add (.sub (.var 0) (.cst (.int (2)))) (.cst (.int (1))))) (.cons (.set (.one 3) (.bin .Mod (.blt .int (.cons (.bin .Mult (.bin .Add (.sub (.var 0) (.cst (.int (1)))) (.bin .Mult (.cst (.int (48271))) (.sub (.var 0) (.cst (.int (2)))))) (.bin .Add (.cst (.int (39373))) (.sub (.var 0) (.cst (.int (2)))))) .nil)) (.cst (.int (2147483647))))) (.cons (.set (.one 4) (.bin .Add (.bin .Mod (.blt .int (.cons (.var 3) .nil)) (.cst (.int (40009)))) (.cst (.int (7))))) (.cons (.set (.one 5) (.bin .Mod (.blt .int (.cons (.bin .Mult (.bin .Add (.bin .Add (.var 3) (.sub (.var 0) (.cst (.int (2))))) (.bin .FloorDiv (.sub (.var 0) (.cst (.int (1)))) (.cst (.int (1000003))))) (.var 4)) .nil)) (.cst (.int (2147483629))))) (.cons (.ret (.bin .Mod (.blt .int (.cons (.bin .FloorDiv (.bin .Mod (.blt .int (.cons (.bin .Add (.bin .Mult (.var 5) (.cst (.int (48271)))) (.var 3)) .nil)) (.cst (.int (2147483587)))) (.cst (.int (64)))) .nil)) (.var 1))) .nil))))))⟩
def F__law_cells : Fn :=
  ⟨2, 6, false, (.cons (.new 2 (.orL (.bltl .list (.cons (.slice (.var 0) false (.cst .none) true (.var 1)) .nil)) (.lst (.cons (.cst (.int (0))) .nil)))) (.cons (.for_ (.tup [3, 4]) (.enum (.slice (.var 0) true (.var 1) true (.cst (.int (63))))) (.cons (.set (.one 5) (.bin .Mod (.blt .int (.cons (.var 3) .nil)) (.var 1))) (.cons (.setI 2 (.var 5) (.bin .Add (.sub (.var 2) (.var 5)) (.bin .Mult (.var 4) (.bin .Add (.var 3) (.cst (.int (2))))))) .nil))) (.cons (.ret (.var 2)) .nil)))⟩
def F__law_same : Fn :=
  ⟨2, 4, false, (.cons (.ite (.isi (.var 1) ["list", "tuple"]) (.cons (.ite (.or (.cmp .NotEq (.isi (.var 0) ["list"]) (.isi (.var 1) ["list"])) (.cmp .NotEq (.isi (.var 0) ["tuple"]) (.isi (.var 1) ["tuple"]))) (.cons (.ret (.cst (.bool false))) .nil) .nil) (.cons (.ret (.and (.cmp .Eq (.blt .len (.cons (.var 0) .nil)) (.blt .len (.cons (.var 1) .nil))) (.blt .all (.cons (.comp [2, 3] (.call 11 (.cons (.var 2) (.cons (.var 3) .nil))) (.tup [2, 3]) (.zip (.var 0) (.var 1)) .nil) .nil)))) .nil)) .nil) (.cons (.ite (.or (.cmp .Is (.var 1) (.cst .none)) (.isi (.var 1) ["bool", "str"])) (.cons (.ret (.and (.cmp .Eq (.var 0) (.var 1)) (.and (.cmp .Eq (.isi (.var 0) ["bool"]) (.isi (.var 1) ["bool"])) (.cmp .Eq (.cmp .Is (.var 0) (.cst .none)) (.cmp .Is (.var 1) (.cst .none)))))) .nil) .nil) (.cons (.ret (.and (.isi (.var 0) ["int"]) (.and (.not (.isi (.var 0) ["bool"])) (.cmp .Eq (.var 0) (.var 1))))) .nil)))⟩
def F__law_lists : Fn :=
  ⟨1, 2, false, (.cons (.ret (.ite (.isi (.var 0) ["list", "tuple"]) (.comp [1] (.call 12 (.cons (.var 1) .nil)) (.one 1) (.seq (.var 0)) .nil) (.var 0))) .nil)⟩
def F__law_pick : Fn :=
  ⟨3, 6, false, (.cons (.par [(3, true), (4, true)] (.cons (.bltl .list (.cons (.var 1) .nil)) (.cons (.lst .nil) .nil))) (.cons (.for_ (.one 5) (.range1 (.blt .min2 (.cons (.var 2) (.cons (.blt .len (.cons (.var 3) .nil)) .nil)))) (.cons (.ex (.meth .append (.var 4) (.cons (.meth .pop (.var 3) (.cons (.call 8 (.cons (.var 0) (.cons (.blt .len (.cons (.var 3) .nil)) .nil))) .nil)) .nil))) .nil)) (.cons (.ret (.var 4)) .nil)))⟩
def F__law_book : Fn :=
  ⟨3, 6, false, (.cons (.set (.one 3) (.call 14 (.cons (.var 0) (.cons (.lst (.cons (.cst (.str "a")) (.cons (.cst (.str "b")) (.cons (.cst (.str "key")) (.cons (.cst (.str "m")) (.cons (.cst (.str "p")) (.cons (.cst (.str "q")) (.cons (.cst (.str "zz")) (.cons (.cst (.str "zzzzzzzz")) .nil))))))))) (.cons (.bin .Add (.cst (.int (1))) (.call 8 (.cons (.var 0) (.cons (.var 1) .nil)))) .nil))))) (.cons (.set (.one 4) (.slice (.lst (.cons (.cst (.str "ann")) (.cons (.cst (.str "b")) (.cons (.cst (.str "m")) (.cons (.cst (.str "o")) (.cons (.cst (.str "p")) (.cons (.cst (.str "q")) (.cons (.cst (.str "r")) (.cons (.cst (.str "zz")) .nil))))))))) false (.cst .none) true (.var 2))) (.cons (.ret (.blt .tup (.cons (.comp [5] (.tup (.cons (.var 5) (.cons (.blt .tup (.cons (.bltl .sorted (.cons (.call 14 (.cons (.var 0) (.cons (.var 4) (.cons (.bin .Add (.cst (.int (1))) (.call 8 (.cons (.var 0) (.cons (.cst (.int (3))) .nil)))) .nil)))) .nil)) .nil)) .nil))) (.one 5) (.seq (.bltl .sorted (.cons (.var 3) .nil))) .nil) .nil))) .nil)))⟩
def F__law_folk : Fn :=
  ⟨1, 4, false, (.cons (.set (.one 1) (.lst .nil)) (.cons (.for_ (.tup [2, 3]) (.seq (.var 0)) (.cons (.set (.one 1) (.bin .Add (.var 1) (.bltl .list (.cons (.var 3) .nil)))) .nil)) (.cons (.ret (.setF false (.var 1))) .nil)))⟩
def F__law_heard : Fn :=
  ⟨4, 8, false, (.cons (.par [(4, false), (5, false)] (.cons (.cst .none) (.cons (.cst .none) .nil))) (.cons (.try_ (.cons (.ite (.cmp .Eq (.var 0) (.cst (.int (0)))) (.cons (.set (.one 5) (.call 297 (.cons (.var 1) (.cons (.var 2) .nil)))) .nil) (.cons (.set (.one 5) (.ite (.cmp .Eq (.var 0) (.cst (.int (1)))) (.call 190 (.cons (.var 1) (.cons (.var 2) .nil))) (.call 206 (.cons (.var 1) (.cons (.var 2) (.cons (.var 3) .nil)))))) .nil)) .nil) [⟨"NoGroup", 6, 4, [(.con (.str "group")), .fld, (.isa true)]⟩, ⟨"NoPerson", 7, 4, [(.con (.str "person")), .fld, (.isa true)]⟩]) (.cons (.ret (.ite (.cmp .Is (.var 4) (.cst .none)) (.var 5) (.var 4))) .nil)))⟩
def F__law_case_right : Fn :=
  ⟨1, 11, false, (.cons (.par [(2, false), (3, false), (4, false)] (.cons (.comp [1] (.sub (.var 1) (.cst (.int (0)))) (.one 1) (.seq (.var 0)) .nil) (.cons (.call 601 (.cons (.var 0) .nil)) (.cons (.call 12 (.cons (.var 0) .nil)) .nil)))) (.cons (.set (.one 5) (.blt .dict (.cons (.var 0) .nil))) (.cons (.new 6 (.lst (.cons (.call 189 (.cons (.var 0) .nil)) (.cons (.call 328 (.cons (.var 0) .nil)) (.cons (.call 298 (.cons (.var 0) .nil)) (.cons (.call 189 (.cons (.var 4) .nil)) (.cons (.call 328 (.cons (.var 4) .nil)) (.cons (.call 298 (.cons (.var 4) .nil)) .nil)))))))) (.cons (.set (.one 7) (.lst .nil)) (.cons (.for_ (.one 8) (.seq (.var 2)) (.cons (.set (.one 7) (.bin .Add (.var 7) (.comp [1] (.tup (.cons (.var 8) (.cons (.var 1) .nil))) (.one 1) (.seq (.sub (.var 5) (.var 8))) .nil))) .nil)) (.cons (.new 9 (.bin .Mult (.lst (.cons (.blt .tup (.cons (.var 2) .nil)) (.cons (.blt .tup (.cons (.var 3) .nil)) (.cons (.blt .tup (.cons (.var 7) .nil)) .nil)))) (.cst (.int (2))))) (.cons (.ex (.meth .append (.var 6) (.cons (.comp [8] (.call 297 (.cons (.var 4) (.cons (.var 8) .nil))) (.one 8) (.seq (.var 2)) .nil) .nil))) (.cons (.ex (.meth .append (.var 6) (.cons (.comp [1] (.call 190 (.cons (.var 4) (.cons (.var 1) .nil))) (.one 1) (.seq (.var 3)) .nil) .nil))) (.cons (.ex (.meth .append (.var 9) (.cons (.comp [8] (.sub (.var 5) (.var 8)) (.one 8) (.seq (.var 2)) .nil) .nil))) (.cons (.ex (.meth .append (.var 9) (.cons (.comp [1] (.blt .tup (.cons (.comp [8] (.var 8) (.one 8) (.seq (.var 2)) (.cons (.cmp .In (.var 1) (.sub (.var 5) (.var 8))) .nil)) .nil)) (.one 1) (.seq (.var 3)) .nil) .nil))) (.cons (.for_ (.one 8) (.seq (.var 2)) (.cons (.ex (.meth .append (.var 6) (.cons (.comp [10] (.call 206 (.cons (.var 0) (.cons (.var 8) (.cons (.var 10) .nil)))) (.one 10) (.seq (.var 2)) .nil) .nil))) (.cons (.ex (.meth .append (.var 9) (.cons (.comp [10] (.blt .tup (.cons (.comp [1] (.var 1) (.one 1) (.seq (.var 3)) (.cons (.and (.cmp .In (.var 1) (.sub (.var 5) (.var 8))) (.cmp .In (.var 1) (.sub (.var 5) (.var 10)))) .nil)) .nil)) (.one 10) (.seq (.var 2)) .nil) .nil))) (.cons (.new 6 (.bin .Add (.var 6) (.lst (.cons (.call 602 (.cons (.cst (.int (0))) (.cons (.var 0) (.cons (.cst (.str "no")) (.cons (.cst (.str "")) .nil))))) (.cons (.call 602 (.cons (.cst (.int (2))) (.cons (.var 4) (.cons (.var 8) (.cons (.cst (.str "no")) .nil))))) (.cons (.call 602 (.cons (.cst (.int (2))) (.cons (.var 4) (.cons (.cst (.str "x")) (.cons (.cst (.str "y")) .nil))))) .nil)))))) (.cons (.new 9 (.bin .Add (.var 9) (.lst (.cons (.lst (.cons (.cst (.str "group")) (.cons (.cst (.str "no")) (.cons (.cst (.bool true)) .nil)))) (.cons (.lst (.cons (.cst (.str "group")) (.cons (.cst (.str "no")) (.cons (.cst (.bool true)) .nil)))) (.cons (.lst (.cons (.cst (.str "group")) (.cons (.cst (.str "x")) (.cons (.cst (.bool true)) .nil)))) .nil)))))) .nil))))) (.cons (.ret (.call 11 (.cons (.bin .Add (.var 6) (.lst (.cons (.call 602 (.cons (.cst (.int (1))) (.cons (.var 4) (.cons (.cst (.str "no")) (.cons (.cst (.str "")) .nil))))) .nil))) (.cons (.bin .Add (.var 9) (.lst (.cons (.lst (.cons (.cst (.str "person")) (.cons (.cst (.str "no")) (.cons (.cst (.bool true)) .nil)))) .nil))) .nil)))) .nil))))))))))))⟩
def F__law_by_hand_right : Fn :=
  ⟨0, 7, false, (.cons (.set (.one 0) (.tup (.cons (.tup (.cons (.cst (.str "a")) (.cons (.tup (.cons (.cst (.str "p")) .nil)) .nil))) (.cons (.tup (.cons (.cst (.str "b")) (.cons (.tup (.cons (.cst (.str "p")) (.cons (.cst (.str "q")) .nil))) .nil))) (.cons (.tup (.cons (.cst (.str "c")) (.cons (.tup (.cons (.cst (.str "q")) (.cons (.cst (.str "r")) (.cons (.cst (.str "s")) .nil)))) .nil))) .nil))))) (.cons (.new 1 (.lst (.cons (.call 189 (.cons (.var 0) .nil)) (.cons (.call 328 (.cons (.var 0) .nil)) (.cons (.call 297 (.cons (.var 0) (.cons (.cst (.str "c")) .nil))) (.cons (.call 190 (.cons (.var 0) (.cons (.cst (.str "q")) .nil))) (.cons (.call 190 (.cons (.var 0) (.cons (.cst (.str "s")) .nil))) .nil))))))) (.cons (.new 2 (.lst (.cons (.tup (.cons (.cst (.str "a")) (.cons (.cst (.str "b")) (.cons (.cst (.str "c")) .nil)))) (.cons (.tup (.cons (.cst (.str "p")) (.cons (.cst (.str "q")) (.cons (.cst (.str "r")) (.cons (.cst (.str "s")) .nil))))) (.cons (.tup (.cons (.cst (.str "q")) (.cons (.cst (.str "r")) (.cons (.cst (.str "s")) .nil)))) (.cons (.tup (.cons (.cst (.str "b")) (.cons (.cst (.str "c")) .nil))) (.cons (.tup (.cons (.cst (.str "c")) .nil)) .nil))))))) (.cons (.new 1 (.bin .Add (.var 1) (.lst (.cons (.call 298 (.cons (.var 0) .nil)) (.cons (.call 206 (.cons (.var 0) (.cons (.cst (.str "a")) (.cons (.cst (.str "b")) .nil)))) (.cons (.call 206 (.cons (.var 0) (.cons (.cst (.str "c")) (.cons (.cst (.str "a")) .nil)))) (.cons (.call 206 (.cons (.var 0) (.cons (.cst (.str "c")) (.cons (.cst (.str "c")) .nil)))) .nil))))))) (.cons (.ex (.meth .append (.var 2) (.cons (.tup (.cons (.tup (.cons (.cst (.str "a")) (.cons (.cst (.str "p")) .nil))) (.cons (.tup (.cons (.cst (.str "b")) (.cons (.cst (.str "p")) .nil))) (.cons (.tup (.cons (.cst (.str "b")) (.cons (.cst (.str "q")) .nil))) (.cons (.tup (.cons (.cst (.str "c")) (.cons (.cst (.str "q")) .nil))) (.cons (.tup (.cons (.cst (.str "c")) (.cons (.cst (.str "r")) .nil))) (.cons (.tup (.cons (.cst (.str "c")) (.cons (.cst (.str "s")) .nil))) .nil))))))) .nil))) (.cons (.new 2 (.bin .Add (.var 2) (.lst (.cons (.tup (.cons (.cst (.str "p")) .nil)) (.cons (.tup .nil) (.cons (.tup (.cons (.cst (.str "q")) (.cons (.cst (.str "r")) (.cons (.cst (.str "s")) .nil)))) .nil)))))) (.cons (.new 1 (.bin .Add (.var 1) (.lst (.cons (.call 602 (.cons (.cst (.int (0))) (.cons (.var 0) (.cons (.cst (.str "p")) (.cons (.cst (.str "")) .nil))))) (.cons (.call 602 (.cons (.cst (.int (1))) (.cons (.var 0) (.cons (.cst (.str "a")) (.cons (.cst (.str "")) .nil))))) (.cons (.call 602 (.cons (.cst (.int (1))) (.cons (.var 0) (.cons (.cst (.str "")) (.cons (.cst (.str "")) .nil))))) .nil)))))) (.cons (.new 1 (.bin .Add (.var 1) (.lst (.cons (.call 602 (.cons (.cst (.int (2))) (.cons (.var 0) (.cons (.cst (.str "b")) (.cons (.cst (.str "q")) .nil))))) (.cons (.call 602 (.cons (.cst (.int (2))) (.cons (.var 0) (.cons (.cst (.str "q")) (.cons (.cst (.str "p")) .nil))))) (.cons (.call 602 (.cons (.cst (.int (0))) (.cons (.var 0) (.cons (.cst (.str "A")) (.cons (.cst (.str "")) .nil))))) .nil)))))) (.cons (.new 2 (.bin .Add (.var 2) (.lst (.cons (.lst (.cons (.cst (.str "group")) (.cons (.cst (.str "p")) (.cons (.cst (.bool true)) .nil)))) (.cons (.lst (.cons (.cst (.str "person")) (.cons (.cst (.str "a")) (.cons (.cst (.bool true)) .nil)))) (.cons (.lst (.cons (.cst (.str "person")) (.cons (.cst (.str "")) (.cons (.cst (.bool true)) .nil)))) (.cons (.lst (.cons (.cst (.str "group")) (.cons (.cst (.str "q")) (.cons (.cst (.bool true)) .nil)))) .nil))))))) (.cons (.new 2 (.bin .Add (.var 2) (.lst (.cons (.lst (.cons (.cst (.str "group")) (.cons (.cst (.str "q")) (.cons (.cst (.bool true)) .nil)))) (.cons (.lst (.cons (.cst (.str "group")) (.cons (.cst (.str "A")) (.cons (.cst (.bool true)) .nil)))) .nil))))) (.cons (.set (.one 3) (.call 12 (.cons (.var 0) .nil))) (.cons (.new 1 (.bin .Add (.var 1) (.lst (.cons (.callK 189 (.cons (.var 3) .nil) [0]) (.cons (.callK 328 (.cons (.var 3) .nil) [0]) (.cons (.callK 297 (.cons (.cst (.str "b")) (.cons (.var 3) .nil)) [1, 0]) .nil)))))) (.cons (.ex (.meth .append (.var 1) (.cons (.callK 190 (.cons (.cst (.str "p")) (.cons (.var 3) .nil)) [1, 0]) .nil))) (.cons (.new 1 (.bin .Add (.var 1) (.lst (.cons (.slice (.callK 298 (.cons (.var 3) .nil) [0]) false (.cst .none) true (.cst (.int (2)))) (.cons (.callK 206 (.cons (.cst (.str "c")) (.cons (.cst (.str "b")) (.cons (.var 3) .nil))) [2, 1, 0]) (.cons (.var 3) .nil)))))) (.cons (.new 2 (.bin .Add (.var 2) (.lst (.cons (.tup (.cons (.cst (.str "a")) (.cons (.cst (.str "b")) (.cons (.cst (.str "c")) .nil)))) (.cons (.tup (.cons (.cst (.str "p")) (.cons (.cst (.str "q")) (.cons (.cst (.str "r")) (.cons (.cst (.str "s")) .nil))))) (.cons (.tup (.cons (.cst (.str "p")) (.cons (.cst (.str "q")) .nil))) (.cons (.tup (.cons (.cst (.str "a")) (.cons (.cst (.str "b")) .nil))) (.cons (.tup (.cons (.tup (.cons (.cst (.str "a")) (.cons (.cst (.str "p")) .nil))) (.cons (.tup (.cons (.cst (.str "b")) (.cons (.cst (.str "p")) .nil))) .nil))) (.cons (.tup (.cons (.cst (.str "q")) .nil)) .nil))))))))) (.cons (.ex (.meth .append (.var 2) (.cons (.call 12 (.cons (.var 0) .nil)) .nil))) (.cons (.set (.one 4) (.tup (.cons (.lst (.cons (.cst (.str "a")) (.cons (.tup (.cons (.cst (.str "p")) .nil)) .nil))) (.cons (.tup (.cons (.cst (.str "b")) (.cons (.lst (.cons (.cst (.str "p")) (.cons (.cst (.str "q")) .nil))) .nil))) .nil)))) (.cons (.new 1 (.bin .Add (.var 1) (.lst (.cons (.call 189 (.cons (.var 4) .nil)) (.cons (.call 328 (.cons (.var 4) .nil)) (.cons (.call 297 (.cons (.var 4) (.cons (.cst (.str "b")) .nil))) (.cons (.call 190 (.cons (.var 4) (.cons (.cst (.str "p")) .nil))) .nil))))))) (.cons (.new 1 (.bin .Add (.var 1) (.lst (.cons (.call 298 (.cons (.var 4) .nil)) (.cons (.call 206 (.cons (.var 4) (.cons (.cst (.str "a")) (.cons (.cst (.str "b")) .nil)))) .nil))))) (.cons (.new 2 (.bin .Add (.var 2) (.lst (.cons (.tup (.cons (.cst (.str "a")) (.cons (.cst (.str "b")) .nil))) (.cons (.tup (.cons (.cst (.str "p")) (.cons (.cst (.str "q")) .nil))) (.cons (.tup (.cons (.cst (.str "p")) (.cons (.cst (.str "q")) .nil))) (.cons (.tup (.cons (.cst (.str "a")) (.cons (.cst (.str "b")) .nil))) (.cons (.tup (.cons (.tup (.cons (.cst (.str "a")) (.cons (.cst (.str "p")) .nil))) (.cons (.tup (.cons (.cst (.str "b")) (.cons (.cst (.str "p")) .nil))) (.cons (.tup (.cons (.cst (.str "b")) (.cons (.cst (.str "q")) .nil))) .nil)))) (.cons (.tup (.cons (.cst (.str "p")) .nil)) .nil))))))))) (.cons (.set (.one 6) (.blt .tup (.cons (.comp [5] (.tup (.cons (.var 5) (.cons (.blt .tup (.cons (.cst (.str "abcdefgh")) .nil)) .nil))) (.one 5) (.seq (.cst (.str "abcdefgh"))) .nil) .nil))) (.cons (.ret (.and (.call 11 (.cons (.var 1) (.cons (.var 2) .nil))) (.and (.call 603 (.cons (.var 6) .nil)) (.call 603 (.cons (.var 0) .nil))))) .nil))))))))))))))))))))))⟩
def F__law_right : Fn :=
  ⟨1, 2, false, (.cons (.ret (.blt .all (.cons (.comp [1] (.call 603 (.cons (.call 600 (.cons (.var 0) (.cons (.cst (.int (8))) (.cons (.cst (.int (8))) .nil)))) .nil)) (.one 1) (.range1 (.cst (.int (8)))) .nil) .nil))) .nil)⟩
def F_law : Fn :=
  ⟨1, 3, false, (.cons (.ite (.not (.call 604 .nil)) (.cons (.ret (.cst (.bool false))) .nil) .nil) (.cons (.set (.one 1) (.call 9 (.cons (.var 0) (.cons (.cst (.int (3))) .nil)))) (.cons (.ret (.blt .all (.cons (.comp [2] (.call 605 (.cons (.call 7 (.cons (.var 1) (.cons (.var 2) .nil))) .nil)) (.one 2) (.range1 (.blt .len (.cons (.var 1) .nil))) .nil) .nil))) .nil)))⟩

def Pm : Prog where
  fns := [(0, F_tupled), (1, F_set_of), (387, F_table_of), (189, F_groups), (328, F_people), (148, F_check_groups), (150, F_check_people), (297, F_members_of), (190, F_groups_of), (298, F_memberships), (206, F_in_both), (7, F__law_box), (8, F__law_take), (9, F__law_cells), (11, F__law_same), (12, F__law_lists), (14, F__law_pick), (600, F__law_book), (601, F__law_folk), (602, F__law_heard), (603, F__law_case_right), (604, F__law_by_hand_right), (605, F__law_right), (606, F_law)]
  glob := []
theorem c_tupled : cFn E1 (top 4) ["thing"] [] false = some F_tupled := by kernel_rfl
theorem c_set_of : cFn E1 (top 5) ["things"] ["found"] false = some F_set_of := by kernel_rfl
theorem c_table_of : cFn E1 (top 7) ["book"] [] false = some F_table_of := by kernel_rfl
theorem c_groups : cFn E1 (top 8) ["book"] [] false = some F_groups := by kernel_rfl
theorem c_people : cFn E1 (top 9) ["book"] [] false = some F_people := by kernel_rfl
theorem c_check_groups : cFn E1 (top 10) ["book", "some"] [] false = some F_check_groups := by kernel_rfl
theorem c_check_people : cFn E1 (top 11) ["book", "some"] [] false = some F_check_people := by kernel_rfl
theorem c_members_of : cFn E1 (top 12) ["book", "group"] [] false = some F_members_of := by kernel_rfl
theorem c_groups_of : cFn E1 (top 13) ["book", "person"] [] false = some F_groups_of := by kernel_rfl
theorem c_memberships : cFn E1 (top 14) ["book"] [] false = some F_memberships := by kernel_rfl
theorem c_in_both : cFn E1 (top 15) ["book", "one", "other"] [] false = some F_in_both := by kernel_rfl
theorem c__law_box : cFn E1 (top 17) ["_law_script", "_law_k"] [] true = some F__law_box := by kernel_rfl
theorem c__law_take : cFn E1 (top 18) ["_law_box_here", "_law_wide_so"] ["_law_box_here"] false = some F__law_take := by kernel_rfl
theorem c__law_cells : cFn E1 (top 19) ["_law_script", "_law_top_so"] ["_law_cells_here"] false = some F__law_cells := by kernel_rfl
theorem c__law_same : cFn E1 (top 20) ["_law_got", "_law_due"] [] false = some F__law_same := by kernel_rfl
theorem c__law_lists : cFn E1 (top 21) ["_law_matter_so"] [] false = some F__law_lists := by kernel_rfl
theorem c__law_pick : cFn E1 (top 22) ["_law_box_here", "_law_goods_so", "_law_size_so"] ["_law_found", "_law_rest_so"] false = some F__law_pick := by kernel_rfl
theorem c__law_book : cFn E1 (top 23) ["_law_box_here", "_law_high_so", "_law_folk_so"] [] false = some F__law_book := by kernel_rfl
theorem c__law_folk : cFn E1 (top 24) ["_law_book_so"] [] false = some F__law_folk := by kernel_rfl
theorem c__law_heard : cFn E1 (top 25) ["_law_door", "_law_book_so", "_law_tag", "_law_far_so"] [] false = some F__law_heard := by kernel_rfl
theorem c__law_case_right : cFn E1 (top 26) ["_law_book_so"] ["_law_got", "_law_due"] false = some F__law_case_right := by kernel_rfl
theorem c__law_by_hand_right : cFn E1 (top 27) [] ["_law_due", "_law_got"] false = some F__law_by_hand_right := by kernel_rfl
theorem c__law_right : cFn E1 (top 28) ["_law_box_here"] [] false = some F__law_right := by kernel_rfl
theorem c_law : cFn E1 (top 29) ["_law_script"] [] false = some F_law := by kernel_rfl
end K02
end

section
set_option maxRecDepth 100000
set_option maxHeartbeats 0
namespace K02
open PySem Mi
def Q_tupled (cx : Mi.Ctx) : Mi.Rho → Mi.Sto → Mi.R Mi.Fl := (Q.sCons (Q.sRet (Q.ite (Q.isi (Q.var 0) ["list", "tuple"]) (Q.blt .tup (Q.xCons (Q.comp [1] (Q.call cx 0 (Q.xCons (Q.var 1) Q.xNil)) (.one 1) (Q.seq (Q.var 0)) Q.tNil) Q.xNil)) (Q.var 0))) Q.sNil)
def G_tupled : FnS := ⟨1, 2, false, Q_tupled⟩
theorem g_tupled : F_tupled.sh = G_tupled := by kernel_rfl
def Q_set_of (cx : Mi.Ctx) : Mi.Rho → Mi.Sto → Mi.R Mi.Fl := (Q.sCons (Q.sNew 1 (Q.lst Q.lNil)) (Q.sCons (Q.sFor (.one 2) (Q.seq (Q.bltl .sorted (Q.xCons (Q.var 0) Q.xNil))) (Q.sCons (Q.sIte (Q.or (Q.cmp .Eq (Q.blt .len (Q.xCons (Q.var 1) Q.xNil)) (Q.cst (.int 0))) (Q.cmp .NotEq (Q.sub (Q.var 1) (Q.neg (Q.cst (.int 1)))) (Q.var 2))) (Q.sCons (Q.sEx (Q.meth .append (Q.var 1) (Q.lCons (Q.var 2) Q.lNil))) Q.sNil) Q.sNil) Q.sNil)) (Q.sCons (Q.sRet (Q.blt .tup (Q.xCons (Q.var 1) Q.xNil))) Q.sNil)))
def G_set_of : FnS := ⟨1, 3, false, Q_set_of⟩
theorem g_set_of : F_set_of.sh = G_set_of := by kernel_rfl
def Q_table_of (cx : Mi.Ctx) : Mi.Rho → Mi.Sto → Mi.R Mi.Fl := (Q.sCons (Q.sRet (Q.blt .dict (Q.xCons (Q.call cx 0 (Q.xCons (Q.var 0) Q.xNil)) Q.xNil))) Q.sNil)
def G_table_of : FnS := ⟨1, 1, false, Q_table_of⟩
theorem g_table_of : F_table_of.sh = G_table_of := by kernel_rfl
def Q_groups (cx : Mi.Ctx) : Mi.Rho → Mi.Sto → Mi.R Mi.Fl := (Q.sCons (Q.sRet (Q.blt .tup (Q.xCons (Q.call cx 387 (Q.xCons (Q.var 0) Q.xNil)) Q.xNil))) Q.sNil)
def G_groups : FnS := ⟨1, 1, false, Q_groups⟩
theorem g_groups : F_groups.sh = G_groups := by kernel_rfl
def Q_people (cx : Mi.Ctx) : Mi.Rho → Mi.Sto → Mi.R Mi.Fl := (Q.sCons (Q.sRet (Q.call cx 1 (Q.xCons (Q.comp2 [1, 2] [2] (Q.var 2) (.one 1) (Q.vals (Q.call cx 387 (Q.xCons (Q.var 0) Q.xNil))) Q.tNil (.one 2) (Q.seq (Q.var 1)) Q.tNil) Q.xNil))) Q.sNil)
def G_people : FnS := ⟨1, 3, false, Q_people⟩
theorem g_people : F_people.sh = G_people := by kernel_rfl
def Q_check_groups (cx : Mi.Ctx) : Mi.Rho → Mi.Sto → Mi.R Mi.Fl := (Q.sCons (Q.sSet (.one 2) (Q.call cx 189 (Q.xCons (Q.var 0) Q.xNil))) (Q.sCons (Q.sFor (.one 3) (Q.seq (Q.var 1)) (Q.sCons (Q.sIte (Q.cmp .NotIn (Q.var 3) (Q.var 2)) (Q.sCons (Q.sRaise "NoGroup" (Q.lCons (Q.var 3) Q.lNil)) Q.sNil) Q.sNil) Q.sNil)) Q.sNil))
def G_check_groups : FnS := ⟨2, 4, false, Q_check_groups⟩
theorem g_check_groups : F_check_groups.sh = G_check_groups := by kernel_rfl
def Q_check_people (cx : Mi.Ctx) : Mi.Rho → Mi.Sto → Mi.R Mi.Fl := (Q.sCons (Q.sSet (.one 2) (Q.call cx 328 (Q.xCons (Q.var 0) Q.xNil))) (Q.sCons (Q.sFor (.one 3) (Q.seq (Q.var 1)) (Q.sCons (Q.sIte (Q.cmp .NotIn (Q.var 3) (Q.var 2)) (Q.sCons (Q.sRaise "NoPerson" (Q.lCons (Q.var 3) Q.lNil)) Q.sNil) Q.sNil) Q.sNil)) Q.sNil))
def G_check_people : FnS := ⟨2, 4, false, Q_check_people⟩
theorem g_check_people : F_check_people.sh = G_check_people := by kernel_rfl
def Q_members_of (cx : Mi.Ctx) : Mi.Rho → Mi.Sto → Mi.R Mi.Fl := (Q.sCons (Q.sEx (Q.call cx 148 (Q.xCons (Q.var 0) (Q.xCons (Q.tup (Q.lCons (Q.var 1) Q.lNil)) Q.xNil)))) (Q.sCons (Q.sRet (Q.sub (Q.call cx 387 (Q.xCons (Q.var 0) Q.xNil)) (Q.var 1))) Q.sNil))
def G_members_of : FnS := ⟨2, 2, false, Q_members_of⟩
theorem g_members_of : F_members_of.sh = G_members_of := by kernel_rfl
def Q_groups_of (cx : Mi.Ctx) : Mi.Rho → Mi.Sto → Mi.R Mi.Fl := (Q.sCons (Q.sEx (Q.call cx 150 (Q.xCons (Q.var 0) (Q.xCons (Q.tup (Q.lCons (Q.var 1) Q.lNil)) Q.xNil)))) (Q.sCons (Q.sRet (Q.blt .tup (Q.xCons (Q.comp [2, 3] (Q.var 2) (.tup [2, 3]) (Q.seq (Q.call cx 0 (Q.xCons (Q.var 0) Q.xNil))) (Q.tCons (Q.cmp .In (Q.var 1) (Q.var 3)) Q.tNil)) Q.xNil))) Q.sNil))
def G_groups_of : FnS := ⟨2, 4, false, Q_groups_of⟩
theorem g_groups_of : F_groups_of.sh = G_groups_of := by kernel_rfl
def Q_memberships (cx : Mi.Ctx) : Mi.Rho → Mi.Sto → Mi.R Mi.Fl := (Q.sCons (Q.sRet (Q.blt .tup (Q.xCons (Q.comp2 [1, 2, 3] [3] (Q.tup (Q.lCons (Q.var 1) (Q.lCons (Q.var 3) Q.lNil))) (.tup [1, 2]) (Q.seq (Q.call cx 0 (Q.xCons (Q.var 0) Q.xNil))) Q.tNil (.one 3) (Q.seq (Q.var 2)) Q.tNil) Q.xNil))) Q.sNil)
def G_memberships : FnS := ⟨1, 4, false, Q_memberships⟩
theorem g_memberships : F_memberships.sh = G_memberships := by kernel_rfl
def Q_in_both (cx : Mi.Ctx) : Mi.Rho → Mi.Sto → Mi.R Mi.Fl := (Q.sCons (Q.sEx (Q.call cx 148 (Q.xCons (Q.var 0) (Q.xCons (Q.tup (Q.lCons (Q.var 1) (Q.lCons (Q.var 2) Q.lNil))) Q.xNil)))) (Q.sCons (Q.sSet (.one 3) (Q.call cx 387 (Q.xCons (Q.var 0) Q.xNil))) (Q.sCons (Q.sRet (Q.blt .tup (Q.xCons (Q.comp [4] (Q.var 4) (.one 4) (Q.seq (Q.sub (Q.var 3) (Q.var 1))) (Q.tCons (Q.cmp .In (Q.var 4) (Q.sub (Q.var 3) (Q.var 2))) Q.tNil)) Q.xNil))) Q.sNil)))
def G_in_both : FnS := ⟨3, 5, false, Q_in_both⟩
theorem g_in_both : F_in_both.sh = G_in_both := by kernel_rfl
def Q__law_box (cx : Mi.Ctx) : Mi.Rho → Mi.Sto → Mi.R Mi.Fl := (Q.sCons (Q.sSet (.one 2) (Q.ite (Q.cmp .Lt (Q.var 1) (Q.blt .len (Q.xCons (Q.var 0) Q.xNil))) (Q.sub (Q.var 0) (Q.var 1)) (Q.cst (.int 0)))) (Q.sCons (Q.sRetC (Q.lst (Q.lCons (Q.bin .Mult (Q.blt .abs (Q.xCons (Q.var 2) Q.xNil)) (Q.blt .int (Q.xCons (Q.cmp .GtE (Q.blt .abs (Q.xCons (Q.var 2) Q.xNil)) (Q.bin .Pow (Q.cst (.int 10)) (Q.cst (.int 18)))) Q.xNil))) (Q.lCons (Q.bin .Add (Q.bin .Add (Q.bin .Mod (Q.blt .int (Q.xCons (Q.var 2) Q.xNil)) (Q.cst (.int 2305843009213693951))) (Q.bin .Mult (Q.cst (.int 39373)) (Q.var 1))) (Q.cst (.int 1190202))) (Q.lCons (Q.cst (.int 0)) Q.lNil))))) Q.sNil))
def G__law_box : FnS := ⟨2, 3, true, Q__law_box⟩
theorem g__law_box : F__law_box.sh = G__law_box := by kernel_rfl
def Q__law_take (cx : Mi.Ctx) : Mi.Rho → Mi.Sto → Mi.R Mi.Fl := (Q.sCons (Q.sIte (Q.cmp .Gt (Q.sub (Q.var 0) (Q.cst (.int 0))) (Q.cst (.int 0))) (Q.sCons (Q.sSet (.one 2) (Q.bin .Mod (Q.blt .int (Q.xCons (Q.sub (Q.var 0) (Q.cst (.int 0))) Q.xNil)) (Q.var 1))) (Q.sCons (Q.sSetI 0 (Q.cst (.int 0)) (Q.bin .FloorDiv (Q.sub (Q.var 0) (Q.cst (.int 0))) (Q.var 1))) (Q.sCons (Q.sRet (Q.var 2)) Q.sNil))) Q.sNil) (Q.sCons (Q.sSetI 0 (Q.cst (.int 2)) (Q.bin .Add (Q.sub (Q.var 0) (Q.cst (.int 2))) (Q.cst (.int 1)))) (Q.sCons (Q.sSet (.one 3) (Q.bin .Mod (Q.blt .int (Q.xCons (Q.bin .Mult (Q.bin .Add (Q.sub (Q.var 0) (Q.cst (.int 1))) (Q.bin .Mult (Q.cst (.int 48271)) (Q.sub (Q.var 0) (Q.cst (.int 2))))) (Q.bin .Add (Q.cst (.int 39373)) (Q.sub (Q.var 0) (Q.cst (.int 2))))) Q.xNil)) (Q.cst (.int 2147483647)))) (Q.sCons (Q.sSet (.one 4) (Q.bin .Add (Q.bin .Mod (Q.blt .int (Q.xCons (Q.var 3) Q.xNil)) (Q.cst (.int 40009))) (Q.cst (.int 7)))) (Q.sCons (Q.sSet (.one 5) (Q.bin .Mod (Q.blt .int (Q.xCons (Q.bin .Mult (Q.bin .Add (Q.bin .Add (Q.var 3) (Q.sub (Q.var 0) (Q.cst (.int 2)))) (Q.bin .FloorDiv (Q.sub (Q.var 0) (Q.cst (.int 1))) (Q.cst (.int 1000003)))) (Q.var 4)) Q.xNil)) (Q.cst (.int 2147483629)))) (Q.sCons (Q.sRet (Q.bin .Mod (Q.blt .int (Q.xCons (Q.bin .FloorDiv (Q.bin .Mod (Q.blt .int (Q.xCons (Q.bin .Add (Q.bin .Mult (Q.var 5) (Q.cst (.int 48271))) (Q.var 3)) Q.xNil)) (Q.cst (.int 2147483587))) (Q.cst (.int 64))) Q.xNil)) (Q.var 1))) Q.sNil))))))
def G__law_take : FnS := ⟨2, 6, false, Q__law_take⟩
theorem g__law_take : F__law_take.sh = G__law_take := by kernel_rfl
def Q__law_cells (cx : Mi.Ctx) : Mi.Rho → Mi.Sto → Mi.R Mi.Fl := (Q.sCons (Q.sNew 2 (Q.orL (Q.bltl .list (Q.xCons (Q.slice (Q.var 0) false (Q.cst .none) true (Q.var 1)) Q.xNil)) (Q.lst (Q.lCons (Q.cst (.int 0)) Q.lNil)))) (Q.sCons (Q.sFor (.tup [3, 4]) (Q.enum (Q.slice (Q.var 0) true (Q.var 1) true (Q.cst (.int 63)))) (Q.sCons (Q.sSet (.one 5) (Q.bin .Mod (Q.blt .int (Q.xCons (Q.var 3) Q.xNil)) (Q.var 1))) (Q.sCons (Q.sSetI 2 (Q.var 5) (Q.bin .Add (Q.sub (Q.var 2) (Q.var 5)) (Q.bin .Mult (Q.var 4) (Q.bin .Add (Q.var 3) (Q.cst (.int 2)))))) Q.sNil))) (Q.sCons (Q.sRet (Q.var 2)) Q.sNil)))
def G__law_cells : FnS := ⟨2, 6, false, Q__law_cells⟩
theorem g__law_cells : F__law_cells.sh = G__law_cells := by kernel_rfl
def Q__law_same (cx : Mi.Ctx) : Mi.Rho → Mi.Sto → Mi.R Mi.Fl := (Q.sCons (Q.sIte (Q.isi (Q.var 1) ["list", "tuple"]) (Q.sCons (Q.sIte (Q.or (Q.cmp .NotEq (Q.isi (Q.var 0) ["list"]) (Q.isi (Q.var 1) ["list"])) (Q.cmp .NotEq (Q.isi (Q.var 0) ["tuple"]) (Q.isi (Q.var 1) ["tuple"]))) (Q.sCons (Q.sRet (Q.cst (.bool false))) Q.sNil) Q.sNil) (Q.sCons (Q.sRet (Q.and (Q.cmp .Eq (Q.blt .len (Q.xCons (Q.var 0) Q.xNil)) (Q.blt .len (Q.xCons (Q.var 1) Q.xNil))) (Q.blt .all (Q.xCons (Q.comp [2, 3] (Q.call cx 11 (Q.xCons (Q.var 2) (Q.xCons (Q.var 3) Q.xNil))) (.tup [2, 3]) (Q.zip (Q.var 0) (Q.var 1)) Q.tNil) Q.xNil)))) Q.sNil)) Q.sNil) (Q.sCons (Q.sIte (Q.or (Q.cmp .Is (Q.var 1) (Q.cst .none)) (Q.isi (Q.var 1) ["bool", "str"])) (Q.sCons (Q.sRet (Q.and (Q.cmp .Eq (Q.var 0) (Q.var 1)) (Q.and (Q.cmp .Eq (Q.isi (Q.var 0) ["bool"]) (Q.isi (Q.var 1) ["bool"])) (Q.cmp .Eq (Q.cmp .Is (Q.var 0) (Q.cst .none)) (Q.cmp .Is (Q.var 1) (Q.cst .none)))))) Q.sNil) Q.sNil) (Q.sCons (Q.sRet (Q.and (Q.isi (Q.var 0) ["int"]) (Q.and (Q.not (Q.isi (Q.var 0) ["bool"])) (Q.cmp .Eq (Q.var 0) (Q.var 1))))) Q.sNil)))
def G__law_same : FnS := ⟨2, 4, false, Q__law_same⟩
theorem g__law_same : F__law_same.sh = G__law_same := by kernel_rfl
def Q__law_lists (cx : Mi.Ctx) : Mi.Rho → Mi.Sto → Mi.R Mi.Fl := (Q.sCons (Q.sRet (Q.ite (Q.isi (Q.var 0) ["list", "tuple"]) (Q.comp [1] (Q.call cx 12 (Q.xCons (Q.var 1) Q.xNil)) (.one 1) (Q.seq (Q.var 0)) Q.tNil) (Q.var 0))) Q.sNil)
def G__law_lists : FnS := ⟨1, 2, false, Q__law_lists⟩
theorem g__law_lists : F__law_lists.sh = G__law_lists := by kernel_rfl
def Q__law_pick (cx : Mi.Ctx) : Mi.Rho → Mi.Sto → Mi.R Mi.Fl := (Q.sCons (Q.sPar [(3, true), (4, true)] (Q.pCons true (Q.bltl .list (Q.xCons (Q.var 1) Q.xNil)) (Q.pCons true (Q.lst Q.lNil) Q.pNil))) (Q.sCons (Q.sFor (.one 5) (Q.range1 (Q.blt .min2 (Q.xCons (Q.var 2) (Q.xCons (Q.blt .len (Q.xCons (Q.var 3) Q.xNil)) Q.xNil)))) (Q.sCons (Q.sEx (Q.meth .append (Q.var 4) (Q.lCons (Q.meth .pop (Q.var 3) (Q.lCons (Q.call cx 8 (Q.xCons (Q.var 0) (Q.xCons (Q.blt .len (Q.xCons (Q.var 3) Q.xNil)) Q.xNil))) Q.lNil)) Q.lNil))) Q.sNil)) (Q.sCons (Q.sRet (Q.var 4)) Q.sNil)))
def G__law_pick : FnS := ⟨3, 6, false, Q__law_pick⟩
theorem g__law_pick : F__law_pick.sh = G__law_pick := by kernel_rfl
def Q__law_book (cx : Mi.Ctx) : Mi.Rho → Mi.Sto → Mi.R Mi.Fl := (Q.sCons (Q.sSet (.one 3) (Q.call cx 14 (Q.xCons (Q.var 0) (Q.xCons (Q.lst (Q.lCons (Q.cst (.str "a")) (Q.lCons (Q.cst (.str "b")) (Q.lCons (Q.cst (.str "key")) (Q.lCons (Q.cst (.str "m")) (Q.lCons (Q.cst (.str "p")) (Q.lCons (Q.cst (.str "q")) (Q.lCons (Q.cst (.str "zz")) (Q.lCons (Q.cst (.str "zzzzzzzz")) Q.lNil))))))))) (Q.xCons (Q.bin .Add (Q.cst (.int 1)) (Q.call cx 8 (Q.xCons (Q.var 0) (Q.xCons (Q.var 1) Q.xNil)))) Q.xNil))))) (Q.sCons (Q.sSet (.one 4) (Q.slice (Q.lst (Q.lCons (Q.cst (.str "ann")) (Q.lCons (Q.cst (.str "b")) (Q.lCons (Q.cst (.str "m")) (Q.lCons (Q.cst (.str "o")) (Q.lCons (Q.cst (.str "p")) (Q.lCons (Q.cst (.str "q")) (Q.lCons (Q.cst (.str "r")) (Q.lCons (Q.cst (.str "zz")) Q.lNil))))))))) false (Q.cst .none) true (Q.var 2))) (Q.sCons (Q.sRet (Q.blt .tup (Q.xCons (Q.comp [5] (Q.tup (Q.lCons (Q.var 5) (Q.lCons (Q.blt .tup (Q.xCons (Q.bltl .sorted (Q.xCons (Q.call cx 14 (Q.xCons (Q.var 0) (Q.xCons (Q.var 4) (Q.xCons (Q.bin .Add (Q.cst (.int 1)) (Q.call cx 8 (Q.xCons (Q.var 0) (Q.xCons (Q.cst (.int 3)) Q.xNil)))) Q.xNil)))) Q.xNil)) Q.xNil)) Q.lNil))) (.one 5) (Q.seq (Q.bltl .sorted (Q.xCons (Q.var 3) Q.xNil))) Q.tNil) Q.xNil))) Q.sNil)))
def G__law_book : FnS := ⟨3, 6, false, Q__law_book⟩
theorem g__law_book : F__law_book.sh = G__law_book := by kernel_rfl
def Q__law_folk (cx : Mi.Ctx) : Mi.Rho → Mi.Sto → Mi.R Mi.Fl := (Q.sCons (Q.sSet (.one 1) (Q.lst Q.lNil)) (Q.sCons (Q.sFor (.tup [2, 3]) (Q.seq (Q.var 0)) (Q.sCons (Q.sSet (.one 1) (Q.bin .Add (Q.var 1) (Q.bltl .list (Q.xCons (Q.var 3) Q.xNil)))) Q.sNil)) (Q.sCons (Q.sRet (Q.setF false (Q.var 1))) Q.sNil)))
def G__law_folk : FnS := ⟨1, 4, false, Q__law_folk⟩
theorem g__law_folk : F__law_folk.sh = G__law_folk := by kernel_rfl
def Q__law_heard (cx : Mi.Ctx) : Mi.Rho → Mi.Sto → Mi.R Mi.Fl := (Q.sCons (Q.sPar [(4, false), (5, false)] (Q.pCons false (Q.cst .none) (Q.pCons false (Q.cst .none) Q.pNil))) (Q.sCons (Q.sTry (Q.sCons (Q.sIte (Q.cmp .Eq (Q.var 0) (Q.cst (.int 0))) (Q.sCons (Q.sSet (.one 5) (Q.call cx 297 (Q.xCons (Q.var 1) (Q.xCons (Q.var 2) Q.xNil)))) Q.sNil) (Q.sCons (Q.sSet (.one 5) (Q.ite (Q.cmp .Eq (Q.var 0) (Q.cst (.int 1))) (Q.call cx 190 (Q.xCons (Q.var 1) (Q.xCons (Q.var 2) Q.xNil))) (Q.call cx 206 (Q.xCons (Q.var 1) (Q.xCons (Q.var 2) (Q.xCons (Q.var 3) Q.xNil)))))) Q.sNil)) Q.sNil) [⟨"NoGroup", 6, 4, [(.con (.str "group")), .fld, (.isa true)]⟩, ⟨"NoPerson", 7, 4, [(.con (.str "person")), .fld, (.isa true)]⟩]) (Q.sCons (Q.sRet (Q.ite (Q.cmp .Is (Q.var 4) (Q.cst .none)) (Q.var 5) (Q.var 4))) Q.sNil)))
def G__law_heard : FnS := ⟨4, 8, false, Q__law_heard⟩
theorem g__law_heard : F__law_heard.sh = G__law_heard := by kernel_rfl
def Q__law_case_right (cx : Mi.Ctx) : Mi.Rho → Mi.Sto → Mi.R Mi.Fl := (Q.sCons (Q.sPar [(2, false), (3, false), (4, false)] (Q.pCons false (Q.comp [1] (Q.sub (Q.var 1) (Q.cst (.int 0))) (.one 1) (Q.seq (Q.var 0)) Q.tNil) (Q.pCons false (Q.call cx 601 (Q.xCons (Q.var 0) Q.xNil)) (Q.pCons false (Q.call cx 12 (Q.xCons (Q.var 0) Q.xNil)) Q.pNil)))) (Q.sCons (Q.sSet (.one 5) (Q.blt .dict (Q.xCons (Q.var 0) Q.xNil))) (Q.sCons (Q.sNew 6 (Q.lst (Q.lCons (Q.call cx 189 (Q.xCons (Q.var 0) Q.xNil)) (Q.lCons (Q.call cx 328 (Q.xCons (Q.var 0) Q.xNil)) (Q.lCons (Q.call cx 298 (Q.xCons (Q.var 0) Q.xNil)) (Q.lCons (Q.call cx 189 (Q.xCons (Q.var 4) Q.xNil)) (Q.lCons (Q.call cx 328 (Q.xCons (Q.var 4) Q.xNil)) (Q.lCons (Q.call cx 298 (Q.xCons (Q.var 4) Q.xNil)) Q.lNil)))))))) (Q.sCons (Q.sSet (.one 7) (Q.lst Q.lNil)) (Q.sCons (Q.sFor (.one 8) (Q.seq (Q.var 2)) (Q.sCons (Q.sSet (.one 7) (Q.bin .Add (Q.var 7) (Q.comp [1] (Q.tup (Q.lCons (Q.var 8) (Q.lCons (Q.var 1) Q.lNil))) (.one 1) (Q.seq (Q.sub (Q.var 5) (Q.var 8))) Q.tNil))) Q.sNil)) (Q.sCons (Q.sNew 9 (Q.bin .Mult (Q.lst (Q.lCons (Q.blt .tup (Q.xCons (Q.var 2) Q.xNil)) (Q.lCons (Q.blt .tup (Q.xCons (Q.var 3) Q.xNil)) (Q.lCons (Q.blt .tup (Q.xCons (Q.var 7) Q.xNil)) Q.lNil)))) (Q.cst (.int 2)))) (Q.sCons (Q.sEx (Q.meth .append (Q.var 6) (Q.lCons (Q.comp [8] (Q.call cx 297 (Q.xCons (Q.var 4) (Q.xCons (Q.var 8) Q.xNil))) (.one 8) (Q.seq (Q.var 2)) Q.tNil) Q.lNil))) (Q.sCons (Q.sEx (Q.meth .append (Q.var 6) (Q.lCons (Q.comp [1] (Q.call cx 190 (Q.xCons (Q.var 4) (Q.xCons (Q.var 1) Q.xNil))) (.one 1) (Q.seq (Q.var 3)) Q.tNil) Q.lNil))) (Q.sCons (Q.sEx (Q.meth .append (Q.var 9) (Q.lCons (Q.comp [8] (Q.sub (Q.var 5) (Q.var 8)) (.one 8) (Q.seq (Q.var 2)) Q.tNil) Q.lNil))) (Q.sCons (Q.sEx (Q.meth .append (Q.var 9) (Q.lCons (Q.comp [1] (Q.blt .tup (Q.xCons (Q.comp [8] (Q.var 8) (.one 8) (Q.seq (Q.var 2)) (Q.tCons (Q.cmp .In (Q.var 1) (Q.sub (Q.var 5) (Q.var 8))) Q.tNil)) Q.xNil)) (.one 1) (Q.seq (Q.var 3)) Q.tNil) Q.lNil))) (Q.sCons (Q.sFor (.one 8) (Q.seq (Q.var 2)) (Q.sCons (Q.sEx (Q.meth .append (Q.var 6) (Q.lCons (Q.comp [10] (Q.call cx 206 (Q.xCons (Q.var 0) (Q.xCons (Q.var 8) (Q.xCons (Q.var 10) Q.xNil)))) (.one 10) (Q.seq (Q.var 2)) Q.tNil) Q.lNil))) (Q.sCons (Q.sEx (Q.meth .append (Q.var 9) (Q.lCons (Q.comp [10] (Q.blt .tup (Q.xCons (Q.comp [1] (Q.var 1) (.one 1) (Q.seq (Q.var 3)) (Q.tCons (Q.and (Q.cmp .In (Q.var 1) (Q.sub (Q.var 5) (Q.var 8))) (Q.cmp .In (Q.var 1) (Q.sub (Q.var 5) (Q.var 10)))) Q.tNil)) Q.xNil)) (.one 10) (Q.seq (Q.var 2)) Q.tNil) Q.lNil))) (Q.sCons (Q.sNew 6 (Q.bin .Add (Q.var 6) (Q.lst (Q.lCons (Q.call cx 602 (Q.xCons (Q.cst (.int 0)) (Q.xCons (Q.var 0) (Q.xCons (Q.cst (.str "no")) (Q.xCons (Q.cst (.str "")) Q.xNil))))) (Q.lCons (Q.call cx 602 (Q.xCons (Q.cst (.int 2)) (Q.xCons (Q.var 4) (Q.xCons (Q.var 8) (Q.xCons (Q.cst (.str "no")) Q.xNil))))) (Q.lCons (Q.call cx 602 (Q.xCons (Q.cst (.int 2)) (Q.xCons (Q.var 4) (Q.xCons (Q.cst (.str "x")) (Q.xCons (Q.cst (.str "y")) Q.xNil))))) Q.lNil)))))) (Q.sCons (Q.sNew 9 (Q.bin .Add (Q.var 9) (Q.lst (Q.lCons (Q.lst (Q.lCons (Q.cst (.str "group")) (Q.lCons (Q.cst (.str "no")) (Q.lCons (Q.cst (.bool true)) Q.lNil)))) (Q.lCons (Q.lst (Q.lCons (Q.cst (.str "group")) (Q.lCons (Q.cst (.str "no")) (Q.lCons (Q.cst (.bool true)) Q.lNil)))) (Q.lCons (Q.lst (Q.lCons (Q.cst (.str "group")) (Q.lCons (Q.cst (.str "x")) (Q.lCons (Q.cst (.bool true)) Q.lNil)))) Q.lNil)))))) Q.sNil))))) (Q.sCons (Q.sRet (Q.call cx 11 (Q.xCons (Q.bin .Add (Q.var 6) (Q.lst (Q.lCons (Q.call cx 602 (Q.xCons (Q.cst (.int 1)) (Q.xCons (Q.var 4) (Q.xCons (Q.cst (.str "no")) (Q.xCons (Q.cst (.str "")) Q.xNil))))) Q.lNil))) (Q.xCons (Q.bin .Add (Q.var 9) (Q.lst (Q.lCons (Q.lst (Q.lCons (Q.cst (.str "person")) (Q.lCons (Q.cst (.str "no")) (Q.lCons (Q.cst (.bool true)) Q.lNil)))) Q.lNil))) Q.xNil)))) Q.sNil))))))))))))
def G__law_case_right : FnS := ⟨1, 11, false, Q__law_case_right⟩
theorem g__law_case_right : F__law_case_right.sh = G__law_case_right := by kernel_rfl
def Q__law_by_hand_right (cx : Mi.Ctx) : Mi.Rho → Mi.Sto → Mi.R Mi.Fl := (Q.sCons (Q.sSet (.one 0) (Q.tup (Q.lCons (Q.tup (Q.lCons (Q.cst (.str "a")) (Q.lCons (Q.tup (Q.lCons (Q.cst (.str "p")) Q.lNil)) Q.lNil))) (Q.lCons (Q.tup (Q.lCons (Q.cst (.str "b")) (Q.lCons (Q.tup (Q.lCons (Q.cst (.str "p")) (Q.lCons (Q.cst (.str "q")) Q.lNil))) Q.lNil))) (Q.lCons (Q.tup (Q.lCons (Q.cst (.str "c")) (Q.lCons (Q.tup (Q.lCons (Q.cst (.str "q")) (Q.lCons (Q.cst (.str "r")) (Q.lCons (Q.cst (.str "s")) Q.lNil)))) Q.lNil))) Q.lNil))))) (Q.sCons (Q.sNew 1 (Q.lst (Q.lCons (Q.call cx 189 (Q.xCons (Q.var 0) Q.xNil)) (Q.lCons (Q.call cx 328 (Q.xCons (Q.var 0) Q.xNil)) (Q.lCons (Q.call cx 297 (Q.xCons (Q.var 0) (Q.xCons (Q.cst (.str "c")) Q.xNil))) (Q.lCons (Q.call cx 190 (Q.xCons (Q.var 0) (Q.xCons (Q.cst (.str "q")) Q.xNil))) (Q.lCons (Q.call cx 190 (Q.xCons (Q.var 0) (Q.xCons (Q.cst (.str "s")) Q.xNil))) Q.lNil))))))) (Q.sCons (Q.sNew 2 (Q.lst (Q.lCons (Q.tup (Q.lCons (Q.cst (.str "a")) (Q.lCons (Q.cst (.str "b")) (Q.lCons (Q.cst (.str "c")) Q.lNil)))) (Q.lCons (Q.tup (Q.lCons (Q.cst (.str "p")) (Q.lCons (Q.cst (.str "q")) (Q.lCons (Q.cst (.str "r")) (Q.lCons (Q.cst (.str "s")) Q.lNil))))) (Q.lCons (Q.tup (Q.lCons (Q.cst (.str "q")) (Q.lCons (Q.cst (.str "r")) (Q.lCons (Q.cst (.str "s")) Q.lNil)))) (Q.lCons (Q.tup (Q.lCons (Q.cst (.str "b")) (Q.lCons (Q.cst (.str "c")) Q.lNil))) (Q.lCons (Q.tup (Q.lCons (Q.cst (.str "c")) Q.lNil)) Q.lNil))))))) (Q.sCons (Q.sNew 1 (Q.bin .Add (Q.var 1) (Q.lst (Q.lCons (Q.call cx 298 (Q.xCons (Q.var 0) Q.xNil)) (Q.lCons (Q.call cx 206 (Q.xCons (Q.var 0) (Q.xCons (Q.cst (.str "a")) (Q.xCons (Q.cst (.str "b")) Q.xNil)))) (Q.lCons (Q.call cx 206 (Q.xCons (Q.var 0) (Q.xCons (Q.cst (.str "c")) (Q.xCons (Q.cst (.str "a")) Q.xNil)))) (Q.lCons (Q.call cx 206 (Q.xCons (Q.var 0) (Q.xCons (Q.cst (.str "c")) (Q.xCons (Q.cst (.str "c")) Q.xNil)))) Q.lNil))))))) (Q.sCons (Q.sEx (Q.meth .append (Q.var 2) (Q.lCons (Q.tup (Q.lCons (Q.tup (Q.lCons (Q.cst (.str "a")) (Q.lCons (Q.cst (.str "p")) Q.lNil))) (Q.lCons (Q.tup (Q.lCons (Q.cst (.str "b")) (Q.lCons (Q.cst (.str "p")) Q.lNil))) (Q.lCons (Q.tup (Q.lCons (Q.cst (.str "b")) (Q.lCons (Q.cst (.str "q")) Q.lNil))) (Q.lCons (Q.tup (Q.lCons (Q.cst (.str "c")) (Q.lCons (Q.cst (.str "q")) Q.lNil))) (Q.lCons (Q.tup (Q.lCons (Q.cst (.str "c")) (Q.lCons (Q.cst (.str "r")) Q.lNil))) (Q.lCons (Q.tup (Q.lCons (Q.cst (.str "c")) (Q.lCons (Q.cst (.str "s")) Q.lNil))) Q.lNil))))))) Q.lNil))) (Q.sCons (Q.sNew 2 (Q.bin .Add (Q.var 2) (Q.lst (Q.lCons (Q.tup (Q.lCons (Q.cst (.str "p")) Q.lNil)) (Q.lCons (Q.tup Q.lNil) (Q.lCons (Q.tup (Q.lCons (Q.cst (.str "q")) (Q.lCons (Q.cst (.str "r")) (Q.lCons (Q.cst (.str "s")) Q.lNil)))) Q.lNil)))))) (Q.sCons (Q.sNew 1 (Q.bin .Add (Q.var 1) (Q.lst (Q.lCons (Q.call cx 602 (Q.xCons (Q.cst (.int 0)) (Q.xCons (Q.var 0) (Q.xCons (Q.cst (.str "p")) (Q.xCons (Q.cst (.str "")) Q.xNil))))) (Q.lCons (Q.call cx 602 (Q.xCons (Q.cst (.int 1)) (Q.xCons (Q.var 0) (Q.xCons (Q.cst (.str "a")) (Q.xCons (Q.cst (.str "")) Q.xNil))))) (Q.lCons (Q.call cx 602 (Q.xCons (Q.cst (.int 1)) (Q.xCons (Q.var 0) (Q.xCons (Q.cst (.str "")) (Q.xCons (Q.cst (.str "")) Q.xNil))))) Q.lNil)))))) (Q.sCons (Q.sNew 1 (Q.bin .Add (Q.var 1) (Q.lst (Q.lCons (Q.call cx 602 (Q.xCons (Q.cst (.int 2)) (Q.xCons (Q.var 0) (Q.xCons (Q.cst (.str "b")) (Q.xCons (Q.cst (.str "q")) Q.xNil))))) (Q.lCons (Q.call cx 602 (Q.xCons (Q.cst (.int 2)) (Q.xCons (Q.var 0) (Q.xCons (Q.cst (.str "q")) (Q.xCons (Q.cst (.str "p")) Q.xNil))))) (Q.lCons (Q.call cx 602 (Q.xCons (Q.cst (.int 0)) (Q.xCons (Q.var 0) (Q.xCons (Q.cst (.str "A")) (Q.xCons (Q.cst (.str "")) Q.xNil))))) Q.lNil)))))) (Q.sCons (Q.sNew 2 (Q.bin .Add (Q.var 2) (Q.lst (Q.lCons (Q.lst (Q.lCons (Q.cst (.str "group")) (Q.lCons (Q.cst (.str "p")) (Q.lCons (Q.cst (.bool true)) Q.lNil)))) (Q.lCons (Q.lst (Q.lCons (Q.cst (.str "person")) (Q.lCons (Q.cst (.str "a")) (Q.lCons (Q.cst (.bool true)) Q.lNil)))) (Q.lCons (Q.lst (Q.lCons (Q.cst (.str "person")) (Q.lCons (Q.cst (.str "")) (Q.lCons (Q.cst (.bool true)) Q.lNil)))) (Q.lCons (Q.lst (Q.lCons (Q.cst (.str "group")) (Q.lCons (Q.cst (.str "q")) (Q.lCons (Q.cst (.bool true)) Q.lNil)))) Q.lNil))))))) (Q.sCons (Q.sNew 2 (Q.bin .Add (Q.var 2) (Q.lst (Q.lCons (Q.lst (Q.lCons (Q.cst (.str "group")) (Q.lCons (Q.cst (.str "q")) (Q.lCons (Q.cst (.bool true)) Q.lNil)))) (Q.lCons (Q.lst (Q.lCons (Q.cst (.str "group")) (Q.lCons (Q.cst (.str "A")) (Q.lCons (Q.cst (.bool true)) Q.lNil)))) Q.lNil))))) (Q.sCons (Q.sSet (.one 3) (Q.call cx 12 (Q.xCons (Q.var 0) Q.xNil))) (Q.sCons (Q.sNew 1 (Q.bin .Add (Q.var 1) (Q.lst (Q.lCons (Q.callK cx 189 (Q.xCons (Q.var 3) Q.xNil) [0]) (Q.lCons (Q.callK cx 328 (Q.xCons (Q.var 3) Q.xNil) [0]) (Q.lCons (Q.callK cx 297 (Q.xCons (Q.cst (.str "b")) (Q.xCons (Q.var 3) Q.xNil)) [1, 0]) Q.lNil)))))) (Q.sCons (Q.sEx (Q.meth .append (Q.var 1) (Q.lCons (Q.callK cx 190 (Q.xCons (Q.cst (.str "p")) (Q.xCons (Q.var 3) Q.xNil)) [1, 0]) Q.lNil))) (Q.sCons (Q.sNew 1 (Q.bin .Add (Q.var 1) (Q.lst (Q.lCons (Q.slice (Q.callK cx 298 (Q.xCons (Q.var 3) Q.xNil) [0]) false (Q.cst .none) true (Q.cst (.int 2))) (Q.lCons (Q.callK cx 206 (Q.xCons (Q.cst (.str "c")) (Q.xCons (Q.cst (.str "b")) (Q.xCons (Q.var 3) Q.xNil))) [2, 1, 0]) (Q.lCons (Q.var 3) Q.lNil)))))) (Q.sCons (Q.sNew 2 (Q.bin .Add (Q.var 2) (Q.lst (Q.lCons (Q.tup (Q.lCons (Q.cst (.str "a")) (Q.lCons (Q.cst (.str "b")) (Q.lCons (Q.cst (.str "c")) Q.lNil)))) (Q.lCons (Q.tup (Q.lCons (Q.cst (.str "p")) (Q.lCons (Q.cst (.str "q")) (Q.lCons (Q.cst (.str "r")) (Q.lCons (Q.cst (.str "s")) Q.lNil))))) (Q.lCons (Q.tup (Q.lCons (Q.cst (.str "p")) (Q.lCons (Q.cst (.str "q")) Q.lNil))) (Q.lCons (Q.tup (Q.lCons (Q.cst (.str "a")) (Q.lCons (Q.cst (.str "b")) Q.lNil))) (Q.lCons (Q.tup (Q.lCons (Q.tup (Q.lCons (Q.cst (.str "a")) (Q.lCons (Q.cst (.str "p")) Q.lNil))) (Q.lCons (Q.tup (Q.lCons (Q.cst (.str "b")) (Q.lCons (Q.cst (.str "p")) Q.lNil))) Q.lNil))) (Q.lCons (Q.tup (Q.lCons (Q.cst (.str "q")) Q.lNil)) Q.lNil))))))))) (Q.sCons (Q.sEx (Q.meth .append (Q.var 2) (Q.lCons (Q.call cx 12 (Q.xCons (Q.var 0) Q.xNil)) Q.lNil))) (Q.sCons (Q.sSet (.one 4) (Q.tup (Q.lCons (Q.lst (Q.lCons (Q.cst (.str "a")) (Q.lCons (Q.tup (Q.lCons (Q.cst (.str "p")) Q.lNil)) Q.lNil))) (Q.lCons (Q.tup (Q.lCons (Q.cst (.str "b")) (Q.lCons (Q.lst (Q.lCons (Q.cst (.str "p")) (Q.lCons (Q.cst (.str "q")) Q.lNil))) Q.lNil))) Q.lNil)))) (Q.sCons (Q.sNew 1 (Q.bin .Add (Q.var 1) (Q.lst (Q.lCons (Q.call cx 189 (Q.xCons (Q.var 4) Q.xNil)) (Q.lCons (Q.call cx 328 (Q.xCons (Q.var 4) Q.xNil)) (Q.lCons (Q.call cx 297 (Q.xCons (Q.var 4) (Q.xCons (Q.cst (.str "b")) Q.xNil))) (Q.lCons (Q.call cx 190 (Q.xCons (Q.var 4) (Q.xCons (Q.cst (.str "p")) Q.xNil))) Q.lNil))))))) (Q.sCons (Q.sNew 1 (Q.bin .Add (Q.var 1) (Q.lst (Q.lCons (Q.call cx 298 (Q.xCons (Q.var 4) Q.xNil)) (Q.lCons (Q.call cx 206 (Q.xCons (Q.var 4) (Q.xCons (Q.cst (.str "a")) (Q.xCons (Q.cst (.str "b")) Q.xNil)))) Q.lNil))))) (Q.sCons (Q.sNew 2 (Q.bin .Add (Q.var 2) (Q.lst (Q.lCons (Q.tup (Q.lCons (Q.cst (.str "a")) (Q.lCons (Q.cst (.str "b")) Q.lNil))) (Q.lCons (Q.tup (Q.lCons (Q.cst (.str "p")) (Q.lCons (Q.cst (.str "q")) Q.lNil))) (Q.lCons (Q.tup (Q.lCons (Q.cst (.str "p")) (Q.lCons (Q.cst (.str "q")) Q.lNil))) (Q.lCons (Q.tup (Q.lCons (Q.cst (.str "a")) (Q.lCons (Q.cst (.str "b")) Q.lNil))) (Q.lCons (Q.tup (Q.lCons (Q.tup (Q.lCons (Q.cst (.str "a")) (Q.lCons (Q.cst (.str "p")) Q.lNil))) (Q.lCons (Q.tup (Q.lCons (Q.cst (.str "b")) (Q.lCons (Q.cst (.str "p")) Q.lNil))) (Q.lCons (Q.tup (Q.lCons (Q.cst (.str "b")) (Q.lCons (Q.cst (.str "q")) Q.lNil))) Q.lNil)))) (Q.lCons (Q.tup (Q.lCons (Q.cst (.str "p")) Q.lNil)) Q.lNil))))))))) (Q.sCons (Q.sSet (.one 6) (Q.blt .tup (Q.xCons (Q.comp [5] (Q.tup (Q.lCons (Q.var 5) (Q.lCons (Q.blt .tup (Q.xCons (Q.cst (.str "abcdefgh")) Q.xNil)) Q.lNil))) (.one 5) (Q.seq (Q.cst (.str "abcdefgh"))) Q.tNil) Q.xNil))) (Q.sCons (Q.sRet (Q.and (Q.call cx 11 (Q.xCons (Q.var 1) (Q.xCons (Q.var 2) Q.xNil))) (Q.and (Q.call cx 603 (Q.xCons (Q.var 6) Q.xNil)) (Q.call cx 603 (Q.xCons (Q.var 0) Q.xNil))))) Q.sNil))))))))))))))))))))))
def G__law_by_hand_right : FnS := ⟨0, 7, false, Q__law_by_hand_right⟩
theorem g__law_by_hand_right : F__law_by_hand_right.sh = G__law_by_hand_right := by kernel_rfl
def Q__law_right (cx : Mi.Ctx) : Mi.Rho → Mi.Sto → Mi.R Mi.Fl := (Q.sCons (Q.sRet (Q.blt .all (Q.xCons (Q.comp [1] (Q.call cx 603 (Q.xCons (Q.call cx 600 (Q.xCons (Q.var 0) (Q.xCons (Q.cst (.int 8)) (Q.xCons (Q.cst (.int 8)) Q.xNil)))) Q.xNil)) (.one 1) (Q.range1 (Q.cst (.int 8))) Q.tNil) Q.xNil))) Q.sNil)
def G__law_right : FnS := ⟨1, 2, false, Q__law_right⟩
theorem g__law_right : F__law_right.sh = G__law_right := by kernel_rfl
def Q_law (cx : Mi.Ctx) : Mi.Rho → Mi.Sto → Mi.R Mi.Fl := (Q.sCons (Q.sIte (Q.not (Q.call cx 604 Q.xNil)) (Q.sCons (Q.sRet (Q.cst (.bool false))) Q.sNil) Q.sNil) (Q.sCons (Q.sSet (.one 1) (Q.call cx 9 (Q.xCons (Q.var 0) (Q.xCons (Q.cst (.int 3)) Q.xNil)))) (Q.sCons (Q.sRet (Q.blt .all (Q.xCons (Q.comp [2] (Q.call cx 605 (Q.xCons (Q.call cx 7 (Q.xCons (Q.var 1) (Q.xCons (Q.var 2) Q.xNil))) Q.xNil)) (.one 2) (Q.range1 (Q.blt .len (Q.xCons (Q.var 1) Q.xNil))) Q.tNil) Q.xNil))) Q.sNil)))
def G_law : FnS := ⟨1, 3, false, Q_law⟩
theorem g_law : F_law.sh = G_law := by kernel_rfl
def PS : List (Nat × FnS) := [(0, G_tupled), (1, G_set_of), (387, G_table_of), (189, G_groups), (328, G_people), (148, G_check_groups), (150, G_check_people), (297, G_members_of), (190, G_groups_of), (298, G_memberships), (206, G_in_both), (7, G__law_box), (8, G__law_take), (9, G__law_cells), (11, G__law_same), (12, G__law_lists), (14, G__law_pick), (600, G__law_book), (601, G__law_folk), (602, G__law_heard), (603, G__law_case_right), (604, G__law_by_hand_right), (605, G__law_right), (606, G_law)]
theorem PS_eq : Pm.fns.map (fun p => (p.1, p.2.sh)) = PS := by
  show [(0, F_tupled.sh), (1, F_set_of.sh), (387, F_table_of.sh), (189, F_groups.sh), (328, F_people.sh), (148, F_check_groups.sh), (150, F_check_people.sh), (297, F_members_of.sh), (190, F_groups_of.sh), (298, F_memberships.sh), (206, F_in_both.sh), (7, F__law_box.sh), (8, F__law_take.sh), (9, F__law_cells.sh), (11, F__law_same.sh), (12, F__law_lists.sh), (14, F__law_pick.sh), (600, F__law_book.sh), (601, F__law_folk.sh), (602, F__law_heard.sh), (603, F__law_case_right.sh), (604, F__law_by_hand_right.sh), (605, F__law_right.sh), (606, F_law.sh)] = _
  rw [g_tupled, g_set_of, g_table_of, g_groups, g_people, g_check_groups, g_check_people, g_members_of, g_groups_of, g_memberships, g_in_both, g__law_box, g__law_take, g__law_cells, g__law_same, g__law_lists, g__law_pick, g__law_book, g__law_folk, g__law_heard, g__law_case_right, g__law_by_hand_right, g__law_right, g_law]
  rfl
def callQ (k : Nat) : Nat → List Mi.Xv → Mi.Sto → Mi.R Mi.Xv := callS (fun x => Pm.glob.lookup x) (fun f => PS.lookup f) k
theorem callQ_eq (k : Nat) : callD Pm k = callQ k := callS_of PS_eq k
end K02
end

section
set_option maxRecDepth 100000
set_option maxHeartbeats 0
namespace K02
open PySem PySem.Spec PyProof.Rows L2 Mi
section
variable {K : PySem.W.Frag} {h : Heap} {mg : Str → Option Value}
theorem e_tupled (X : K.In h) (G : h.Ns mainGlobals mg) (c : He.SaysD fa fn K) : EntOk K mg Pm E1 "tupled" 0 ["thing"] := by
  obtain ⟨fd, F⟩ := c.def_ 0 (d := dOf "tupled" 4) rfl
  refine ⟨_, fd, top 4, [], false, F_tupled, He.glo_ok X G (c.fact 0 (f := .glo "tupled") rfl), F, ⟨rfl, rfl, rfl, by decide +kernel, rfl, by decide +kernel, by decide +kernel⟩, c_tupled, rfl, FunD.bindsA F (fun _ _ _ _ _ _ us hl => match us, hl with | [_], _ => rfl), fun n ks perm hm s us ws zs h1 h2 h3 => ?_⟩
  simp [E1] at hm
theorem e_set_of (X : K.In h) (G : h.Ns mainGlobals mg) (c : He.SaysD fa fn K) : EntOk K mg Pm E1 "set_of" 1 ["things"] := by
  obtain ⟨fd, F⟩ := c.def_ 1 (d := dOf "set_of" 5) rfl
  refine ⟨_, fd, top 5, ["found"], false, F_set_of, He.glo_ok X G (c.fact 1 (f := .glo "set_of") rfl), F, ⟨rfl, rfl, rfl, by decide +kernel, rfl, by decide +kernel, by decide +kernel⟩, c_set_of, rfl, FunD.bindsA F (fun _ _ _ _ _ _ us hl => match us, hl with | [_], _ => rfl), fun n ks perm hm s us ws zs h1 h2 h3 => ?_⟩
  simp [E1] at hm
theorem e_table_of (X : K.In h) (G : h.Ns mainGlobals mg) (c : He.SaysD fa fn K) : EntOk K mg Pm E1 "table_of" 387 ["book"] := by
  obtain ⟨fd, F⟩ := c.def_ 2 (d := dOf "table_of" 7) rfl
  refine ⟨_, fd, top 7, [], false, F_table_of, He.glo_ok X G (c.fact 2 (f := .glo "table_of") rfl), F, ⟨rfl, rfl, rfl, by decide +kernel, rfl, by decide +kernel, by decide +kernel⟩, c_table_of, rfl, FunD.bindsA F (fun _ _ _ _ _ _ us hl => match us, hl with | [_], _ => rfl), fun n ks perm hm s us ws zs h1 h2 h3 => ?_⟩
  simp [E1] at hm
theorem e_groups (X : K.In h) (G : h.Ns mainGlobals mg) (c : He.SaysD fa fn K) : EntOk K mg Pm E1 "groups" 189 ["book"] := by
  obtain ⟨fd, F⟩ := c.def_ 3 (d := dOf "groups" 8) rfl
  refine ⟨_, fd, top 8, [], false, F_groups, He.glo_ok X G (c.fact 3 (f := .glo "groups") rfl), F, ⟨rfl, rfl, rfl, by decide +kernel, rfl, by decide +kernel, by decide +kernel⟩, c_groups, rfl, FunD.bindsA F (fun _ _ _ _ _ _ us hl => match us, hl with | [_], _ => rfl), fun n ks perm hm s us ws zs h1 h2 h3 => ?_⟩
  simp [E1] at hm
  obtain ⟨rfl, rfl, rfl⟩ := hm
  · match us, h1, ws, h2, h3 with
    | [], _, [w0], _, h3 =>
      cases Option.some.inj h3
      exact kw_binds F (fun _ _ _ _ _ _ => rfl) s
theorem e_people (X : K.In h) (G : h.Ns mainGlobals mg) (c : He.SaysD fa fn K) : EntOk K mg Pm E1 "people" 328 ["book"] := by
  obtain ⟨fd, F⟩ := c.def_ 4 (d := dOf "people" 9) rfl
  refine ⟨_, fd, top 9, [], false, F_people, He.glo_ok X G (c.fact 4 (f := .glo "people") rfl), F, ⟨rfl, rfl, rfl, by decide +kernel, rfl, by decide +kernel, by decide +kernel⟩, c_people, rfl, FunD.bindsA F (fun _ _ _ _ _ _ us hl => match us, hl with | [_], _ => rfl), fun n ks perm hm s us ws zs h1 h2 h3 => ?_⟩
  simp [E1] at hm
  obtain ⟨rfl, rfl, rfl⟩ := hm
  · match us, h1, ws, h2, h3 with
    | [], _, [w0], _, h3 =>
      cases Option.some.inj h3
      exact kw_binds F (fun _ _ _ _ _ _ => rfl) s
theorem e_check_groups (X : K.In h) (G : h.Ns mainGlobals mg) (c : He.SaysD fa fn K) : EntOk K mg Pm E1 "check_groups" 148 ["book", "some"] := by
  obtain ⟨fd, F⟩ := c.def_ 5 (d := dOf "check_groups" 10) rfl
  refine ⟨_, fd, top 10, [], false, F_check_groups, He.glo_ok X G (c.fact 5 (f := .glo "check_groups") rfl), F, ⟨rfl, rfl, rfl, by decide +kernel, rfl, by decide +kernel, by decide +kernel⟩, c_check_groups, rfl, FunD.bindsA F (fun _ _ _ _ _ _ us hl => match us, hl with | [_, _], _ => rfl), fun n ks perm hm s us ws zs h1 h2 h3 => ?_⟩
  simp [E1] at hm
theorem e_check_people (X : K.In h) (G : h.Ns mainGlobals mg) (c : He.SaysD fa fn K) : EntOk K mg Pm E1 "check_people" 150 ["book", "some"] := by
  obtain ⟨fd, F⟩ := c.def_ 6 (d := dOf "check_people" 11) rfl
  refine ⟨_, fd, top 11, [], false, F_check_people, He.glo_ok X G (c.fact 6 (f := .glo "check_people") rfl), F, ⟨rfl, rfl, rfl, by decide +kernel, rfl, by decide +kernel, by decide +kernel⟩, c_check_people, rfl, FunD.bindsA F (fun _ _ _ _ _ _ us hl => match us, hl with | [_, _], _ => rfl), fun n ks perm hm s us ws zs h1 h2 h3 => ?_⟩
  simp [E1] at hm
theorem e_members_of (X : K.In h) (G : h.Ns mainGlobals mg) (c : He.SaysD fa fn K) : EntOk K mg Pm E1 "members_of" 297 ["book", "group"] := by
  obtain ⟨fd, F⟩ := c.def_ 7 (d := dOf "members_of" 12) rfl
  refine ⟨_, fd, top 12, [], false, F_members_of, He.glo_ok X G (c.fact 7 (f := .glo "members_of") rfl), F, ⟨rfl, rfl, rfl, by decide +kernel, rfl, by decide +kernel, by decide +kernel⟩, c_members_of, rfl, FunD.bindsA F (fun _ _ _ _ _ _ us hl => match us, hl with | [_, _], _ => rfl), fun n ks perm hm s us ws zs h1 h2 h3 => ?_⟩
  simp [E1] at hm
  obtain ⟨rfl, rfl, rfl⟩ := hm
  · match us, h1, ws, h2, h3 with
    | [], _, [w0, w1], _, h3 =>
      cases Option.some.inj h3
      exact kw_binds F (fun _ _ _ _ _ _ => rfl) s
theorem e_groups_of (X : K.In h) (G : h.Ns mainGlobals mg) (c : He.SaysD fa fn K) : EntOk K mg Pm E1 "groups_of" 190 ["book", "person"] := by
  obtain ⟨fd, F⟩ := c.def_ 8 (d := dOf "groups_of" 13) rfl
  refine ⟨_, fd, top 13, [], false, F_groups_of, He.glo_ok X G (c.fact 8 (f := .glo "groups_of") rfl), F, ⟨rfl, rfl, rfl, by decide +kernel, rfl, by decide +kernel, by decide +kernel⟩, c_groups_of, rfl, FunD.bindsA F (fun _ _ _ _ _ _ us hl => match us, hl with | [_, _], _ => rfl), fun n ks perm hm s us ws zs h1 h2 h3 => ?_⟩
  simp [E1] at hm
  obtain ⟨rfl, rfl, rfl⟩ := hm
  · match us, h1, ws, h2, h3 with
    | [], _, [w0, w1], _, h3 =>
      cases Option.some.inj h3
      exact kw_binds F (fun _ _ _ _ _ _ => rfl) s
theorem e_memberships (X : K.In h) (G : h.Ns mainGlobals mg) (c : He.SaysD fa fn K) : EntOk K mg Pm E1 "memberships" 298 ["book"] := by
  obtain ⟨fd, F⟩ := c.def_ 9 (d := dOf "memberships" 14) rfl
  refine ⟨_, fd, top 14, [], false, F_memberships, He.glo_ok X G (c.fact 9 (f := .glo "memberships") rfl), F, ⟨rfl, rfl, rfl, by decide +kernel, rfl, by decide +kernel, by decide +kernel⟩, c_memberships, rfl, FunD.bindsA F (fun _ _ _ _ _ _ us hl => match us, hl with | [_], _ => rfl), fun n ks perm hm s us ws zs h1 h2 h3 => ?_⟩
  simp [E1] at hm
  obtain ⟨rfl, rfl, rfl⟩ := hm
  · match us, h1, ws, h2, h3 with
    | [], _, [w0], _, h3 =>
      cases Option.some.inj h3
      exact kw_binds F (fun _ _ _ _ _ _ => rfl) s
theorem e_in_both (X : K.In h) (G : h.Ns mainGlobals mg) (c : He.SaysD fa fn K) : EntOk K mg Pm E1 "in_both" 206 ["book", "one", "other"] := by
  obtain ⟨fd, F⟩ := c.def_ 10 (d := dOf "in_both" 15) rfl
  refine ⟨_, fd, top 15, [], false, F_in_both, He.glo_ok X G (c.fact 10 (f := .glo "in_both") rfl), F, ⟨rfl, rfl, rfl, by decide +kernel, rfl, by decide +kernel, by decide +kernel⟩, c_in_both, rfl, FunD.bindsA F (fun _ _ _ _ _ _ us hl => match us, hl with | [_, _, _], _ => rfl), fun n ks perm hm s us ws zs h1 h2 h3 => ?_⟩
  simp [E1] at hm
  obtain ⟨rfl, rfl, rfl⟩ := hm
  · match us, h1, ws, h2, h3 with
    | [], _, [w0, w1, w2], _, h3 =>
      cases Option.some.inj h3
      exact kw_binds F (fun _ _ _ _ _ _ => rfl) s
theorem e__law_box (X : K.In h) (G : h.Ns mainGlobals mg) (c : He.SaysD fa fn K) : EntOk K mg Pm E1 "_law_box" 7 ["_law_script", "_law_k"] := by
  obtain ⟨fd, F⟩ := c.def_ 11 (d := dOf "_law_box" 17) rfl
  refine ⟨_, fd, top 17, [], true, F__law_box, He.glo_ok X G (c.fact 11 (f := .glo "_law_box") rfl), F, ⟨rfl, rfl, rfl, by decide +kernel, rfl, by decide +kernel, by decide +kernel⟩, c__law_box, rfl, FunD.bindsA F (fun _ _ _ _ _ _ us hl => match us, hl with | [_, _], _ => rfl), fun n ks perm hm s us ws zs h1 h2 h3 => ?_⟩
  simp [E1] at hm
theorem e__law_take (X : K.In h) (G : h.Ns mainGlobals mg) (c : He.SaysD fa fn K) : EntOk K mg Pm E1 "_law_take" 8 ["_law_box_here", "_law_wide_so"] := by
  obtain ⟨fd, F⟩ := c.def_ 12 (d := dOf "_law_take" 18) rfl
  refine ⟨_, fd, top 18, ["_law_box_here"], false, F__law_take, He.glo_ok X G (c.fact 12 (f := .glo "_law_take") rfl), F, ⟨rfl, rfl, rfl, by decide +kernel, rfl, by decide +kernel, by decide +kernel⟩, c__law_take, rfl, FunD.bindsA F (fun _ _ _ _ _ _ us hl => match us, hl with | [_, _], _ => rfl), fun n ks perm hm s us ws zs h1 h2 h3 => ?_⟩
  simp [E1] at hm
theorem e__law_cells (X : K.In h) (G : h.Ns mainGlobals mg) (c : He.SaysD fa fn K) : EntOk K mg Pm E1 "_law_cells" 9 ["_law_script", "_law_top_so"] := by
  obtain ⟨fd, F⟩ := c.def_ 13 (d := dOf "_law_cells" 19) rfl
  refine ⟨_, fd, top 19, ["_law_cells_here"], false, F__law_cells, He.glo_ok X G (c.fact 13 (f := .glo "_law_cells") rfl), F, ⟨rfl, rfl, rfl, by decide +kernel, rfl, by decide +kernel, by decide +kernel⟩, c__law_cells, rfl, FunD.bindsA F (fun _ _ _ _ _ _ us hl => match us, hl with | [_, _], _ => rfl), fun n ks perm hm s us ws zs h1 h2 h3 => ?_⟩
  simp [E1] at hm
theorem e__law_same (X : K.In h) (G : h.Ns mainGlobals mg) (c : He.SaysD fa fn K) : EntOk K mg Pm E1 "_law_same" 11 ["_law_got", "_law_due"] := by
  obtain ⟨fd, F⟩ := c.def_ 14 (d := dOf "_law_same" 20) rfl
  refine ⟨_, fd, top 20, [], false, F__law_same, He.glo_ok X G (c.fact 14 (f := .glo "_law_same") rfl), F, ⟨rfl, rfl, rfl, by decide +kernel, rfl, by decide +kernel, by decide +kernel⟩, c__law_same, rfl, FunD.bindsA F (fun _ _ _ _ _ _ us hl => match us, hl with | [_, _], _ => rfl), fun n ks perm hm s us ws zs h1 h2 h3 => ?_⟩
  simp [E1] at hm
theorem e__law_lists (X : K.In h) (G : h.Ns mainGlobals mg) (c : He.SaysD fa fn K) : EntOk K mg Pm E1 "_law_lists" 12 ["_law_matter_so"] := by
  obtain ⟨fd, F⟩ := c.def_ 15 (d := dOf "_law_lists" 21) rfl
  refine ⟨_, fd, top 21, [], false, F__law_lists, He.glo_ok X G (c.fact 15 (f := .glo "_law_lists") rfl), F, ⟨rfl, rfl, rfl, by decide +kernel, rfl, by decide +kernel, by decide +kernel⟩, c__law_lists, rfl, FunD.bindsA F (fun _ _ _ _ _ _ us hl => match us, hl with | [_], _ => rfl), fun n ks perm hm s us ws zs h1 h2 h3 => ?_⟩
  simp [E1] at hm
theorem e__law_pick (X : K.In h) (G : h.Ns mainGlobals mg) (c : He.SaysD fa fn K) : EntOk K mg Pm E1 "_law_pick" 14 ["_law_box_here", "_law_goods_so", "_law_size_so"] := by
  obtain ⟨fd, F⟩ := c.def_ 16 (d := dOf "_law_pick" 22) rfl
  refine ⟨_, fd, top 22, ["_law_found", "_law_rest_so"], false, F__law_pick, He.glo_ok X G (c.fact 16 (f := .glo "_law_pick") rfl), F, ⟨rfl, rfl, rfl, by decide +kernel, rfl, by decide +kernel, by decide +kernel⟩, c__law_pick, rfl, FunD.bindsA F (fun _ _ _ _ _ _ us hl => match us, hl with | [_, _, _], _ => rfl), fun n ks perm hm s us ws zs h1 h2 h3 => ?_⟩
  simp [E1] at hm
theorem e__law_book (X : K.In h) (G : h.Ns mainGlobals mg) (c : He.SaysD fa fn K) : EntOk K mg Pm E1 "_law_book" 600 ["_law_box_here", "_law_high_so", "_law_folk_so"] := by
  obtain ⟨fd, F⟩ := c.def_ 17 (d := dOf "_law_book" 23) rfl
  refine ⟨_, fd, top 23, [], false, F__law_book, He.glo_ok X G (c.fact 17 (f := .glo "_law_book") rfl), F, ⟨rfl, rfl, rfl, by decide +kernel, rfl, by decide +kernel, by decide +kernel⟩, c__law_book, rfl, FunD.bindsA F (fun _ _ _ _ _ _ us hl => match us, hl with | [_, _, _], _ => rfl), fun n ks perm hm s us ws zs h1 h2 h3 => ?_⟩
  simp [E1] at hm
theorem e__law_folk (X : K.In h) (G : h.Ns mainGlobals mg) (c : He.SaysD fa fn K) : EntOk K mg Pm E1 "_law_folk" 601 ["_law_book_so"] := by
  obtain ⟨fd, F⟩ := c.def_ 18 (d := dOf "_law_folk" 24) rfl
  refine ⟨_, fd, top 24, [], false, F__law_folk, He.glo_ok X G (c.fact 18 (f := .glo "_law_folk") rfl), F, ⟨rfl, rfl, rfl, by decide +kernel, rfl, by decide +kernel, by decide +kernel⟩, c__law_folk, rfl, FunD.bindsA F (fun _ _ _ _ _ _ us hl => match us, hl with | [_], _ => rfl), fun n ks perm hm s us ws zs h1 h2 h3 => ?_⟩
  simp [E1] at hm
theorem e__law_heard (X : K.In h) (G : h.Ns mainGlobals mg) (c : He.SaysD fa fn K) : EntOk K mg Pm E1 "_law_heard" 602 ["_law_door", "_law_book_so", "_law_tag", "_law_far_so"] := by
  obtain ⟨fd, F⟩ := c.def_ 19 (d := dOf "_law_heard" 25) rfl
  refine ⟨_, fd, top 25, [], false, F__law_heard, He.glo_ok X G (c.fact 19 (f := .glo "_law_heard") rfl), F, ⟨rfl, rfl, rfl, by decide +kernel, rfl, by decide +kernel, by decide +kernel⟩, c__law_heard, rfl, FunD.bindsA F (fun _ _ _ _ _ _ us hl => match us, hl with | [_, _, _, _], _ => rfl), fun n ks perm hm s us ws zs h1 h2 h3 => ?_⟩
  simp [E1] at hm
theorem e__law_case_right (X : K.In h) (G : h.Ns mainGlobals mg) (c : He.SaysD fa fn K) : EntOk K mg Pm E1 "_law_case_right" 603 ["_law_book_so"] := by
  obtain ⟨fd, F⟩ := c.def_ 20 (d := dOf "_law_case_right" 26) rfl
  refine ⟨_, fd, top 26, ["_law_got", "_law_due"], false, F__law_case_right, He.glo_ok X G (c.fact 20 (f := .glo "_law_case_right") rfl), F, ⟨rfl, rfl, rfl, by decide +kernel, rfl, by decide +kernel, by decide +kernel⟩, c__law_case_right, rfl, FunD.bindsA F (fun _ _ _ _ _ _ us hl => match us, hl with | [_], _ => rfl), fun n ks perm hm s us ws zs h1 h2 h3 => ?_⟩
  simp [E1] at hm
theorem e__law_by_hand_right (X : K.In h) (G : h.Ns mainGlobals mg) (c : He.SaysD fa fn K) : EntOk K mg Pm E1 "_law_by_hand_right" 604 [] := by
  obtain ⟨fd, F⟩ := c.def_ 21 (d := dOf "_law_by_hand_right" 27) rfl
  refine ⟨_, fd, top 27, ["_law_due", "_law_got"], false, F__law_by_hand_right, He.glo_ok X G (c.fact 21 (f := .glo "_law_by_hand_right") rfl), F, ⟨rfl, rfl, rfl, by decide +kernel, rfl, by decide +kernel, by decide +kernel⟩, c__law_by_hand_right, rfl, FunD.bindsA F (fun _ _ _ _ _ _ us hl => match us, hl with | [], _ => rfl), fun n ks perm hm s us ws zs h1 h2 h3 => ?_⟩
  simp [E1] at hm
theorem e__law_right (X : K.In h) (G : h.Ns mainGlobals mg) (c : He.SaysD fa fn K) : EntOk K mg Pm E1 "_law_right" 605 ["_law_box_here"] := by
  obtain ⟨fd, F⟩ := c.def_ 22 (d := dOf "_law_right" 28) rfl
  refine ⟨_, fd, top 28, [], false, F__law_right, He.glo_ok X G (c.fact 22 (f := .glo "_law_right") rfl), F, ⟨rfl, rfl, rfl, by decide +kernel, rfl, by decide +kernel, by decide +kernel⟩, c__law_right, rfl, FunD.bindsA F (fun _ _ _ _ _ _ us hl => match us, hl with | [_], _ => rfl), fun n ks perm hm s us ws zs h1 h2 h3 => ?_⟩
  simp [E1] at hm
theorem e_law (X : K.In h) (G : h.Ns mainGlobals mg) (c : He.SaysD fa fn K) : EntOk K mg Pm E1 "law" 606 ["_law_script"] := by
  obtain ⟨fd, F⟩ := c.def_ 23 (d := dOf "law" 29) rfl
  refine ⟨_, fd, top 29, [], false, F_law, He.glo_ok X G (c.fact 23 (f := .glo "law") rfl), F, ⟨rfl, rfl, rfl, by decide +kernel, rfl, by decide +kernel, by decide +kernel⟩, c_law, rfl, FunD.bindsA F (fun _ _ _ _ _ _ us hl => match us, hl with | [_], _ => rfl), fun n ks perm hm s us ws zs h1 h2 h3 => ?_⟩
  simp [E1] at hm
theorem ok_NoGroup : i_NoGroup.Ok := ⟨fun _ _ _ _ _ _ _ _ _ _ => BindsTo.of_eq rfl, ⟨_, rfl, rfl⟩, by decide +kernel, rfl, rfl, rfl, by decide +kernel, by decide +kernel, by decide +kernel, by decide +kernel, by decide +kernel, by decide +kernel, by decide +kernel, fun _ _ _ _ => ⟨_, rfl⟩, fun _ _ _ _ => rfl, fun _ _ _ _ => rfl, fun _ _ _ _ => rfl⟩
theorem ok_NoPerson : i_NoPerson.Ok := ⟨fun _ _ _ _ _ _ _ _ _ _ => BindsTo.of_eq rfl, ⟨_, rfl, rfl⟩, by decide +kernel, rfl, rfl, rfl, by decide +kernel, by decide +kernel, by decide +kernel, by decide +kernel, by decide +kernel, by decide +kernel, by decide +kernel, fun _ _ _ _ => ⟨_, rfl⟩, fun _ _ _ _ => rfl, fun _ _ _ _ => rfl, fun _ _ _ _ => rfl⟩
def TT (K : PySem.W.Frag) : Tb := ⟨K, fun x => (E1.xc.lookup x).map fun p => (He.ga K x, p.1)⟩
theorem modOk {w : World} (X : K.In h) (G : h.Ns mainGlobals mg) (cc : SaysX R.prog fa fn ex K) : ModOk (TT K) R.prog w K mg Pm E1 := by
  have c := cc.d
  refine modOk_of rfl (fun x hx => ?_) (fun p hp d hd => ?_) (fun p hp => ?_) (fun p hp => ?_) (fun x y C C2 fo fo2 h1 h2 => ?_)
  · simp only [E1, List.mem_cons, List.not_mem_nil, or_false] at hx
    rcases hx with rfl | rfl | rfl | rfl | rfl | rfl | rfl | rfl | rfl | rfl | rfl | rfl | rfl | rfl | rfl | rfl | rfl | rfl
    · exact He.free_ok X G (c.fact 24 (f := .free "LookupError") rfl)
    · exact He.free_ok X G (c.fact 25 (f := .free "abs") rfl)
    · exact He.free_ok X G (c.fact 26 (f := .free "all") rfl)
    · exact He.free_ok X G (c.fact 27 (f := .free "bool") rfl)
    · exact He.free_ok X G (c.fact 28 (f := .free "dict") rfl)
    · exact He.free_ok X G (c.fact 29 (f := .free "enumerate") rfl)
    · exact He.free_ok X G (c.fact 30 (f := .free "int") rfl)
    · exact He.free_ok X G (c.fact 31 (f := .free "isinstance") rfl)
    · exact He.free_ok X G (c.fact 32 (f := .free "len") rfl)
    · exact He.free_ok X G (c.fact 33 (f := .free "list") rfl)
    · exact He.free_ok X G (c.fact 34 (f := .free "min") rfl)
    · exact He.free_ok X G (c.fact 35 (f := .free "range") rfl)
    · exact He.free_ok X G (c.fact 36 (f := .free "set") rfl)
    · exact He.free_ok X G (c.fact 37 (f := .free "sorted") rfl)
    · exact He.free_ok X G (c.fact 38 (f := .free "str") rfl)
    · exact He.free_ok X G (c.fact 39 (f := .free "super") rfl)
    · exact He.free_ok X G (c.fact 40 (f := .free "tuple") rfl)
    · exact He.free_ok X G (c.fact 41 (f := .free "zip") rfl)
  · simp [E1] at hp
  · simp only [E1, List.mem_cons, List.not_mem_nil, or_false] at hp
    rcases hp with rfl | rfl | rfl | rfl | rfl | rfl | rfl | rfl | rfl | rfl | rfl | rfl | rfl | rfl | rfl | rfl | rfl | rfl | rfl | rfl | rfl | rfl | rfl | rfl
    · exact e_tupled X G c
    · exact e_set_of X G c
    · exact e_table_of X G c
    · exact e_groups X G c
    · exact e_people X G c
    · exact e_check_groups X G c
    · exact e_check_people X G c
    · exact e_members_of X G c
    · exact e_groups_of X G c
    · exact e_memberships X G c
    · exact e_in_both X G c
    · exact e__law_box X G c
    · exact e__law_take X G c
    · exact e__law_cells X G c
    · exact e__law_same X G c
    · exact e__law_lists X G c
    · exact e__law_pick X G c
    · exact e__law_book X G c
    · exact e__law_folk X G c
    · exact e__law_heard X G c
    · exact e__law_case_right X G c
    · exact e__law_by_hand_right X G c
    · exact e__law_right X G c
    · exact e_law X G c
  · simp only [E1, List.mem_cons, List.not_mem_nil, or_false] at hp
    rcases hp with rfl | rfl
    · exact ⟨He.ga K "NoGroup", He.glo_ok X G (c.fact 42 (f := .glo "NoGroup") rfl), rfl, cc.xc 0 rfl (fun d hd => by cases hd; exact ok_NoGroup)⟩
    · exact ⟨He.ga K "NoPerson", He.glo_ok X G (c.fact 43 (f := .glo "NoPerson") rfl), rfl, cc.xc 1 rfl (fun d hd => by cases hd; exact ok_NoPerson)⟩
  · obtain ⟨p1, e1, q1⟩ := Option.map_eq_some_iff.mp h1
    obtain ⟨p2, e2, q2⟩ := Option.map_eq_some_iff.mp h2
    have m1 := look_mem e1
    have m2 := look_mem e2
    cases q1
    cases q2
    simp only [E1, List.mem_cons, List.not_mem_nil, or_false, Prod.mk.injEq] at m1 m2
    rcases m1 with ⟨rfl, _⟩ | ⟨rfl, _⟩ <;> rcases m2 with ⟨rfl, _⟩ | ⟨rfl, _⟩
    · exact of_decide_eq_true (c.fact 44 (f := .exm "NoGroup" "NoGroup" true) rfl)
    · exact of_decide_eq_true (c.fact 45 (f := .exm "NoGroup" "NoPerson" false) rfl)
    · exact of_decide_eq_true (c.fact 46 (f := .exm "NoPerson" "NoGroup" false) rfl)
    · exact of_decide_eq_true (c.fact 47 (f := .exm "NoPerson" "NoPerson" true) rfl)
end
end K02
open PySem PySem.W PySem.Calls PyProof.Rows
theorem K02.holds_of (N : Nat) (hN : N ≤ 60) (hev : ∀ ns : List Int, ns.length ≤ 63 → Mi.callD K02.Pm N 606 [.w ns] [] = .ok (.v (.bool true)) []) : PySem.Challenge.rw_orderrings_k02_who_is_in_which_group.Holds := by
  w_on; o_law
  refine HandSHeadRun.head_any (r := OpenLaw.row PySem.Challenge.rw_orderrings_k02_who_is_in_which_group) (q := view (OpenLaw.row PySem.Challenge.rw_orderrings_k02_who_is_in_which_group).prog [29]) (H := K02.hk) (ob := K02.ob) (M := 6000) (loose := K02.loose) (d := HandSHeadRun.topDef (OpenLaw.row PySem.Challenge.rw_orderrings_k02_who_is_in_which_group).prog 29) (kwd := []) K02.ob_eq
    (by kernel_rfl) (fun s => by kernel_rfl) K02.run (by kernel_rfl) (by kernel_rfl) (by kernel_rfl) (by rfl) (by first | assumption | decide +kernel) (by decide +kernel) ⟨rfl, rfl, rfl, rfl, rfl, by decide +kernel⟩ ?hw ?hc
  case hw => w_witness2
  case hc =>
    refine Mi.walk_W (l := PySem.Challenge.rw_orderrings_k02_who_is_in_which_group) (n := 63) (k := N) (x := "_law_script") (CX := fun w => L2.CX (PySem.Challenge.rw_orderrings_k02_who_is_in_which_group).prog w) rfl (by decide) (by kernel_rfl) ⟨rfl, ?_, ?_⟩ ?_ (fun _ _ _ _ _ z => Mi.cx_none z)
    · show _ + 3 * N + 5 < _
      have : callerA.depth + 3 * 60 + 5 < recursionLimit := by decide +kernel
      omega
    · show _ + 16 * N + 200 < _
      have : callerA.units + 16 * 60 + 200 < cLine := by decide +kernel
      omega
    intro w mg fa h Y G hmg0
    obtain ⟨K, KX, c⟩ := Y
    have hmg : mg ("law" : PySem.Str) = some (.ref fa) := by
      have e : (HandSHeadRun.topDef (OpenLaw.row PySem.Challenge.rw_orderrings_k02_who_is_in_which_group).prog 29).name = ("law" : PySem.Str) := by kernel_rfl
      rw [← e]
      exact hmg0
    have M := K02.modOk (w := w) KX G c
    obtain ⟨a, fd, q1, q2, q3, q4, q5⟩ := Mi.fn_all M N "law" 606 ["_law_script"] rfl
    cases hmg.symm.trans q1
    exact ⟨K, fd, Mi.spX (K02.TT K) (Mi.cxAt K02.Pm N) 606 ["_law_script"], KX, fun s u => q4 s [u] rfl, fun H a ns hl hS => Mi.sp_law hS (hev ns hl), fun base _ _ => q3 base⟩
end

set_option maxRecDepth 100000
set_option maxHeartbeats 0
/-! K02F: the law holds. -/
namespace K02
open PySem Mi
open Mi.En (en)
theorem LK : LibK Pm where
  x := ⟨⟨rfl, rfl, rfl, rfl, rfl, ⟨_, rfl⟩, ⟨_, rfl⟩, rfl, rfl, rfl, rfl⟩, rfl, rfl⟩
  lists := rfl
  same := rfl
  folk := rfl
  heard := rfl
theorem fine_of {b : List (Nm × List Nm)} (D : DrawnBook b) : Fine b := by
  have ht : ∀ x ∈ tags8, Nam x := fun x hx => List.all_eq_true.mp tags8_ok.1 x hx
  have hk : ∀ x ∈ folk8, Nam x := fun x hx => List.all_eq_true.mp folk8_ok.1 x hx
  have hp : ∀ x ∈ peopleT b, x ∈ folk8 := fun x hx => by
    obtain ⟨g, hg, h⟩ := mem_people.mp hx
    exact (D.mem g hg).2.2.2 x h
  have hg : ∀ x ∈ groupsT b, x ∈ tags8 := fun x hx => by
    obtain ⟨g, hg, rfl⟩ := List.mem_map.mp hx
    exact D.nam g hg
  refine ⟨⟨D.ne, by have := D.len; omega, D.asc, fun g h => ht _ (D.nam g h), fun g h => ?_⟩, D.len, fun g h => ?_, fun h => ?_, fun h => ?_, fun h => ?_⟩
  · obtain ⟨a1, a2, a3, a4⟩ := D.mem g h
    exact ⟨a1, a2, by omega, fun x hx => hk x (a4 x hx)⟩
  · have := (D.mem g h).2.2.1
    omega
  · exact absurd (hg _ h) (by decide +kernel)
  · exact absurd (hg _ h) (by decide +kernel)
  · exact absurd (hp _ h) (by decide +kernel)
theorem set_same {s : Sto} {b : Nat} {c : Cell} (h : s[b]? = some c) : s.set b c = s := by
  obtain ⟨hl, rfl⟩ := List.getElem?_eq_some_iff.mp h
  exact List.set_getElem_self hl
theorem right_ok (k : Nat) (s : Sto) (b : Nat) (bx : Bx) (h0 : bx.c = 0) (hb : s[b]? = some bx.cell) : ∃ s', callD Pm (k + 14) 605 [.c b] s = .ok (.v (.bool true)) s' := by
  have hbl : b < s.length := (List.getElem?_eq_some_iff.mp hb).1
  have key : ∃ s', exs (cxAt Pm (k + 13)) F__law_right.body ([Xv.c b].map some ++ List.replicate (F__law_right.slots - 1) none) s = .ok (.rt (.v (.bool true))) s' := by
    obtain ⟨ys, s', e5, l5, r5, _⟩ := turns_draw (f := compB (cxAt Pm (k + 13)) (.call 603 (.cons (.call 600 (.cons (.var 0) (.cons (.cst (.int (8))) (.cons (.cst (.int (8))) .nil)))) .nil)) (.one 1) .nil [some (.c b), none])
        (g := fun i : Nat => PyData.int i) (e := PyData.bool) (fun i s1 => ∃ bx3, s1 = s.set b (Bx.cell bx3) ∧ bx3.le (100 * i)) (fun _ d => d = true) 8 (List.range 8) (by
          rintro i x s1 hi hx ⟨bx3, rfl, hc3⟩
          have hb3 : (s.set b (Bx.cell bx3))[b]? = some bx3.cell := List.getElem?_set_self hbl
          obtain ⟨d, bx4, u1, nd, hc4⟩ := c_book (P := Pm) rfl rfl rfl hb3 hc3 (by omega) 8 8 (by decide) (by decide) (by decide) (k + 10)
          rw [List.set_set] at u1
          have u1' : callD Pm (k + 13) 600 [.c b, .v (.int 8), .v (.int 8)] (s.set b (Bx.cell bx3)) = .ok (.v (en d)) (s.set b (Bx.cell bx4)) := u1
          have u2 : ∀ s, callD Pm (k + 13) 603 [.v (en d)] s = .ok (.v (.bool true)) s := case_ok LK (fine_of nd) rfl k
          refine ⟨true, _, ?_, rfl, bx4, rfl, hc4.mono (by omega)⟩
          simp [u1', u2]) 0 s (by simp) ⟨bx, (set_same hb).symm, by simp [Bx.le, h0]⟩
    have hall : ∀ y ∈ ys, y = true := fun y hy => by
      obtain ⟨i, hi, rfl⟩ := List.mem_iff_getElem.mp hy
      exact r5 ((List.range 8)[i]'(by omega), ys[i]) (by
        rw [List.mem_iff_getElem]
        exact ⟨i, by rw [List.length_zip]; omega, by simp⟩)
    have r5' : ∀ s, kR1 (.v (.int 8)) s = .ok (.stat ((List.range 8).map fun j : Nat => PyData.int j)) s := fun s => r1_nat 8 (by decide)
    have hy : ys = [true, true, true, true, true, true, true, true] := by
      rw [List.length_range] at l5
      match ys, l5, hall with
      | [a, b, c, d, e, f, g, h8], _, h =>
        simp at h
        simp [h]
    have m1 : ∀ s, madeL (ys.map PyData.bool) s = .ok (.v (.list (ys.map PyData.bool))) s := fun s => madeL_ok (by rw [List.length_map, l5]; decide)
    refine ⟨s', ?_⟩
    simp only [F__law_right, List.map_cons, List.map_nil, List.length_cons, List.length_nil, List.replicate, List.cons_append, List.nil_append]
    simp [r5', e5, m1]
    simp [hy]
    rfl
  obtain ⟨s', e⟩ := key
  exact ⟨_, call_c (k := k + 13) (as := [.c b]) rfl rfl rfl rfl e⟩
theorem hand_ok : callD Pm 29 604 [] [] = .ok (.v (.bool true)) [] := by
  rw [callQ_eq]
  kernel_rfl
theorem law_ok (ns : List Int) (hl : ns.length ≤ 63) : callD Pm 30 606 [.w ns] [] = .ok (.v (.bool true)) [] :=
  law_end (k := 28) (cst := 1190202) (me := 606) (hand := 604) (right := 605) (t := 3) rfl rfl rfl (by decide) (by decide) hand_ok (fun s b bx h0 hb => right_ok 15 s b bx h0 hb) ns hl
end K02
theorem PySem.Challenge.cw_orderrings_k02_who_is_in_which_group_holds : PySem.Challenge.rw_orderrings_k02_who_is_in_which_group.Holds :=
  K02.holds_of 30 (by decide) K02.law_ok
