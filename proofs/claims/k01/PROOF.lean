import PyProof.Rows.All
import Wide.All
import OpenK.AllK
import Wide.FinOn
import HandS.ForMost
import HandS.IsInst
import HandS.Flow
import HandS.Style
import HandS.Conv
import HandS.Zip
import HandS.TupAny
import HandS.TupMul
import HandS.Wide
import HandS.SortInts
import HandS.Deep
import HandS.Defaults
import HandS.NoneIn
import HandS.Text
import HandS.More
import HandS.Iter
import HandS.Dict
import HandS.DictComp
import HandS.Walk
import HandS.ListItems
import KE.SortData
import KE.KDictZip
import HandS.Zip0
import HandS.Head0
import HandS.Head1
import HandS.Head2
import HandS.HeadEnd
import HandS.HeadHook1
import HandS.HeadHook2
import PySem.Challenge.RW_facechains_k01_deeds_words_programs_and
set_option Elab.async false
set_option linter.all false
set_option autoImplicit false
set_option maxRecDepth 100000
set_option maxHeartbeats 4000000
/-! Part 1: data, the inner language, its evaluator. -/
namespace FC
open PySem

abbrev D := PyData

/-- what a slot holds: a value; a list or dict of one's own; one that was lent by the caller -/
inductive B where
  | val (d : D) | own (d : D) | lent (d : D)
def B.d : B → D
  | .val d => d
  | .own d => d
  | .lent d => d
def B.mine : B → Bool
  | .val _ => false
  | .own _ => true
  | .lent _ => true
def B.put : B → D → B
  | .val _, d => .val d
  | .own _, d => .own d
  | .lent _, d => .lent d
abbrev S := List (Option B)
abbrev M (α : Type) := S → Option (α × S)

def fails {α : Type} : M α := fun _ => none
def gives {α : Type} (a : α) : M α := fun s => some (a, s)
def bnd {α β : Type} (m : M α) (f : α → M β) : M β := fun s =>
  match m s with
  | none => none
  | some (a, s') => f a s'
def lift {α : Type} (o : Option α) : M α := fun s =>
  match o with
  | none => none
  | some a => some (a, s)

/-- an operand: a slot that is looked at, a slot that is lent, a value, a new object -/
inductive Ar where
  | pl (i : Nat) | ln (i : Nat) | vl (d : D) | ow (d : D)

inductive Ty where
  | int | bool | str | list | tuple | dict
  deriving DecidableEq

/-- the operations on data -/
inductive Op where
  | add | sub | mul | fdiv | mod | pow | neg
  | eq | ne | lt | le | gt | ge
  | isN | notN | isB (b : Bool) | notB (b : Bool)
  | inn | notin
  | ix | sl (lo hi : Bool) | rev
  | len | abs | int | list | tuple | listR | tupleR | sorted | sum | max1 | min1 | max2 | min2 | all | any
  | listZ | listR2
  | isi (t : Ty) | isis (ts : List Ty)
  deriving DecidableEq

/-- methods that only read -/
inductive Mt where
  | endswith | index | get1 | get2
  deriving DecidableEq

/-- the mutations of a slot -/
inductive Mu where
  | append | extend | pop0 | pop1
  deriving DecidableEq

inductive Tg where
  | nm (i : Nat) | tp (is : List Nat)
  deriving DecidableEq

/-- expressions, lists of them, and what is walked -/
inductive Ex where
  | con (d : D)
  | glob (x : Str) (d : D)
  | var (i : Nat)
  | pk (i : Nat)
  | lend (i : Nat)
  | give (e : Ex)
  | op (o : Op) (es : Ex)
  | not (a : Ex)
  | and (a b : Ex)
  | or (a b : Ex)
  | chain (o o' : Op) (a b c : Ex)
  | ife (c a b : Ex)
  | tup (es : Ex)
  | lst (es : Ex)
  | dct0
  | dct1 (k v : Ex)
  | call (f : Nat) (perm : List Nat) (es : Ex)
  | mt (m : Mt) (o es : Ex)
  | sl2 (a lo hi : Ex)
  | mu (m : Mu) (i : Nat) (es : Ex)
  | comp (e : Ex) (t : Tg) (it : Ex) (ifs : Ex)
  | comp2 (e : Ex) (t : Tg) (it : Ex) (ifs : Ex) (t1 : Tg) (it1 : Ex) (ifs1 : Ex)
  | dcomp (k v : Ex) (t : Tg) (it : Ex) (ifs : Ex)
  | nil
  | cons (e es : Ex)
  | itOf (e : Ex)
  | itRange (es : Ex)
  | itEnum (e : Ex)
  | itZip (es : Ex)
  | itVals (e : Ex)
  | itItems (e : Ex)
  | nev

inductive Fl where
  | nx | bk | ct | rt (own : Bool) (d : D)

inductive Sx where
  | set (i : Nat) (e : Ex)
  | seto (i : Nat) (e : Ex)
  | par (is : List Nat) (es : Ex)
  | unp (is : List Nat) (e : Ex)
  | sub (i : Nat) (k e : Ex)
  | aug (i : Nat) (o : Op) (e : Ex)
  | expr (e : Ex)
  | ret (e : Ex)
  | reto (e : Ex)
  | retv (i : Nat)
  | retn
  | ife (c : Ex) (a b : Sx)
  | for_ (t : Tg) (it : Ex) (b : Sx)
  | while_ (c : Ex) (b : Sx)
  | pass | brk | cont | nev
  | nil
  | cons (a b : Sx)

/-! ### operations on data -/
def b2n (b : Bool) : Int := if b then 1 else 0
def intsOf : List D → Option (List Int)
  | [] => some []
  | .int i :: r => (intsOf r).map (i :: ·)
  | _ :: _ => none
def strsOf : List D → Option (List Str)
  | [] => some []
  | .str i :: r => (strsOf r).map (i :: ·)
  | _ :: _ => none
def boolsOf : List D → Option (List Bool)
  | [] => some []
  | .bool i :: r => (boolsOf r).map (i :: ·)
  | _ :: _ => none
def strLe (a b : Str) : Bool := !(decide (b.cps.toList < a.cps.toList))
def sortI (ns : List Int) : List Int := ns.mergeSort fun a b => decide (a ≤ b)
def sortS (ns : List Str) : List Str := ns.mergeSort strLe
def mulOk (i j : Int) : Bool := decide (i.natAbs < 2 ^ 64) || decide (j.natAbs < 2 ^ 64) || decide (i.natAbs.log2 + j.natAbs.log2 < 1000000)
def cutD {α : Type} (xs : List α) (lo hi : Option Int) : List α := (xs.drop (HT.sIx xs.length 0 lo)).take (HT.sIx xs.length xs.length hi - HT.sIx xs.length 0 lo)
def keyOf : D → Option (Sum Int Str)
  | .int i => some (.inl i)
  | .str x => some (.inr x)
  | _ => none
def ofKey : Sum Int Str → D
  | .inl i => .int i
  | .inr x => .str x
def maxOf : List Int → Option Int
  | [] => none
  | x :: r => some (r.foldl (fun a b => if b > a then b else a) x)
def minOf : List Int → Option Int
  | [] => none
  | x :: r => some (r.foldl (fun a b => if b < a then b else a) x)
def sh (d : D) : Bool := SeqAt.shaped d
def isTy : Ty → D → Bool
  | .int, .int _ => true
  | .int, .bool _ => true
  | .bool, .bool _ => true
  | .str, .str _ => true
  | .list, .list _ => true
  | .tuple, .tuple _ => true
  | .dict, .dict _ => true
  | _, _ => false
def rgD (n : Int) : List D := (List.range n.toNat).map fun i => PyData.int (0 + (i : Nat))
def rgD2 (a b : Int) : List D := (List.range (b - a).toNat).map fun i => PyData.int (a + (i : Nat))
def smallI (n : Int) : Bool := decide (n.natAbs < 2 ^ 62)
def findD (d : D) : List D → Option Nat
  | [] => none
  | z :: r => if PyData.eqv z d then some 0 else (findD d r).map (· + 1)

def lookD (k : D) : List (D × D) → Option D
  | [] => none
  | (a, v) :: r => match keyOf a, keyOf k with
    | some x, some y => if x = y then some v else lookD k r
    | _, _ => none
/-- in its place, or at the end -/
def putD (kvs : List (D × D)) (k : Sum Int Str) (d : D) : List (D × D) :=
  if (kvs.any fun kv => decide (keyOf kv.1 = some k)) = true then kvs.map (fun kv => if keyOf kv.1 = some k then (kv.1, d) else kv) else kvs ++ [(ofKey k, d)]
def zipD : List D → List D → List D
  | a :: r, b :: q => .tuple [a, b] :: zipD r q
  | _, _ => []
def opAdd : D → D → Option D
  | .int i, .int j => some (.int (i + j))
  | .str x, .str y => if x.length + y.length ≤ sizeLine then some (.str (x ++ y)) else none
  | .list xs, .list ys => if xs.length + ys.length ≤ sizeLine then some (.list (xs ++ ys)) else none
  | .tuple xs, .tuple ys => if xs.length + ys.length ≤ sizeLine then some (.tuple (xs ++ ys)) else none
  | _, _ => none
def opMul : D → D → Option D
  | .int i, .int j => if mulOk i j then some (.int (i * j)) else none
  | .list xs, .int k => if smallI k && decide (xs.length * k.toNat ≤ sizeLine) then some (.list (List.replicate k.toNat xs).flatten) else none
  | .tuple xs, .int k => if decide (-(2 ^ 62) ≤ k) && decide (k ≤ 1000) && decide (xs.length ≤ 1000) then some (.tuple (List.replicate k.toNat xs).flatten) else none
  | _, _ => none
def opIx : D → D → Option D
  | .list xs, .int i => L2.atI xs i
  | .tuple xs, .int i => L2.atI xs i
  | .str z, .int i => if z.length ≤ sizeLine then (L2.atI z.cps.toList i).map fun c => .str ⟨#[c]⟩ else none
  | .dict kvs, k => match keyOf k with
    | some _ => lookD k kvs
    | none => none
  | _, _ => none
def opSl (lo hi : Option Int) : D → Option D
  | .list xs => some (.list (cutD xs lo hi))
  | .tuple xs => some (.tuple (cutD xs lo hi))
  | .str z => if z.length ≤ sizeLine then some (.str (L2.cutS z lo hi)) else none
  | _ => none
def opIn (x : D) : D → Option Bool
  | .list ds => if sh x && sh (.list ds) then some (ds.any fun z => PyData.eqv z x) else none
  | .str z => match x with
    | .str y => some (!(Builtin.Str.occurrences z y 0 z.length 1).isEmpty)
    | _ => none
  | .tuple ds => if sh x && sh (.tuple ds) then some (ds.any fun z => PyData.eqv z x) else none
  | .dict kvs => match keyOf x with
    | some _ => some (lookD x kvs).isSome
    | none => none
  | _ => none
def intD : D → Option Int
  | .int i => some i
  | _ => none

def isNone : D → Bool
  | .none => true
  | _ => false
def opSub : D → D → Option D
  | .int i, .int j => some (.int (i - j))
  | _, _ => none
def opFdiv : D → D → Option D
  | .int i, .int j => if decide (0 < j) && decide (j.natAbs.log2 < 9000) then some (.int (i / j)) else none
  | _, _ => none
def opMod : D → D → Option D
  | .int i, .int j => if decide (0 < j) then some (.int (i % j)) else none
  | _, _ => none
def opPow : D → D → Option D
  | .int i, .int j => if decide (0 ≤ j) && decide (j ≤ 1000000) && decide (i.natAbs < 2 ^ 64) then some (.int (i ^ j.toNat)) else none
  | _, _ => none
def opNeg : D → Option D
  | .int i => some (.int (-i))
  | _ => none
def opLt : D → D → Option D
  | .int i, .int j => some (.bool (decide (i < j)))
  | .str x, .str y => some (.bool (decide (x.cps.toList < y.cps.toList)))
  | _, _ => none
def opLe : D → D → Option D
  | .int i, .int j => some (.bool (decide (i ≤ j)))
  | _, _ => none
def opIsB (b : Bool) : D → Option D
  | .bool a => some (.bool (decide (a = b)))
  | _ => none
def opNotB (b : Bool) : D → Option D
  | .bool a => some (.bool (!decide (a = b)))
  | _ => none
def opSl1 (hi : Bool) (a : D) : D → Option D
  | .int i => if hi then opSl none (some i) a else opSl (some i) none a
  | _ => none
def opRev : D → Option D
  | .list xs => some (.list xs.reverse)
  | .tuple xs => some (.tuple xs.reverse)
  | _ => none
def opLen : D → Option D
  | .list xs => some (.int xs.length)
  | .tuple xs => some (.int xs.length)
  | .str z => if z.length ≤ sizeLine then some (.int z.length) else none
  | .dict kvs => some (.int kvs.length)
  | _ => none
def opAbs : D → Option D
  | .int i => some (.int (if i < 0 then -i else i))
  | _ => none
def opInt : D → Option D
  | .int i => some (.int i)
  | .bool k => some (.int (if k then 1 else 0))
  | _ => none
def opList : D → Option D
  | .list xs => some (.list xs)
  | .tuple xs => some (.list xs)
  | .dict kvs => some (.list (kvs.map (·.1)))
  | _ => none
def opTuple : D → Option D
  | .list xs => some (.tuple xs)
  | .tuple xs => some (.tuple xs)
  | _ => none
def opListR : D → Option D
  | .int n => if smallI n && decide (n.toNat ≤ 2 ^ 24) then some (.list (rgD n)) else none
  | _ => none
def opTupleR : D → Option D
  | .int n => if smallI n && decide (n.toNat ≤ 2 ^ 24) then some (.tuple (rgD n)) else none
  | _ => none
def opListZ : D → D → Option D
  | .list xs, .list ys => some (.list (zipD xs ys))
  | .tuple xs, .tuple ys => some (.list (zipD xs ys))
  | _, _ => none
def opListR2 : D → D → Option D
  | .int a, .int b => if smallI a && smallI b && decide ((b - a).toNat ≤ 2 ^ 24) then some (.list (rgD2 a b)) else none
  | _, _ => none
def isTup1 : D → Bool
  | .tuple (_ :: _) => true
  | _ => false
def sortT (xs : List D) : List D := xs.mergeSort (PySem.W.dataLe false id)
def opSorted : D → Option D
  | .list xs => match intsOf xs with
    | some ns => some (.list ((sortI ns).map .int))
    | none => match strsOf xs with
      | some zs => if zs.length < 64 then some (.list ((sortS zs).map .str)) else none
      | none => if xs.all isTup1 && sh (.list xs) && (xs.all fun a => xs.all fun b => PySem.W.alike a b) then some (.list (sortT xs)) else none
  | _ => none
def opSum : D → Option D
  | .list xs => match intsOf xs with
    | some ns => some (.int ns.sum)
    | none => none
  | _ => none
def opMax1 : D → Option D
  | .list xs => match intsOf xs with
    | some ns => (maxOf ns).map .int
    | none => none
  | _ => none
def opMin1 : D → Option D
  | .list xs => match intsOf xs with
    | some ns => (minOf ns).map .int
    | none => none
  | _ => none
def opMax2 : D → D → Option D
  | .int i, .int j => some (.int (if j > i then j else i))
  | _, _ => none
def opMin2 : D → D → Option D
  | .int i, .int j => some (.int (if j < i then j else i))
  | _, _ => none
def opAll : D → Option D
  | .list xs => match boolsOf xs with
    | some bs => some (.bool (bs.all id))
    | none => none
  | _ => none
def opAny : D → Option D
  | .list xs => match boolsOf xs with
    | some bs => some (.bool (bs.any id))
    | none => none
  | _ => none
def opEndswith : D → D → Option D
  | .str a, .str b => some (.bool (Txt.endswith a b))
  | _, _ => none
def opIndex : D → D → Option D
  | .list ds, d => if sh (.list ds) && sh d then (findD d ds).map fun j => .int (j : Nat) else none
  | _, _ => none
def op1 : Op → D → Option D
  | .neg, a => opNeg a
  | .isN, a => some (.bool (isNone a))
  | .notN, a => some (.bool (!isNone a))
  | .isB b, a => opIsB b a
  | .notB b, a => opNotB b a
  | .sl false false, a => opSl none none a
  | .rev, a => opRev a
  | .len, a => opLen a
  | .abs, a => opAbs a
  | .int, a => opInt a
  | .list, a => opList a
  | .tuple, a => opTuple a
  | .listR, a => opListR a
  | .tupleR, a => opTupleR a
  | .sorted, a => opSorted a
  | .sum, a => opSum a
  | .max1, a => opMax1 a
  | .min1, a => opMin1 a
  | .all, a => opAll a
  | .any, a => opAny a
  | .isi t, a => some (.bool (isTy t a))
  | .isis ts, a => some (.bool (ts.any fun t => isTy t a))
  | _, _ => none
def op2 : Op → D → D → Option D
  | .add, a, b => opAdd a b
  | .sub, a, b => opSub a b
  | .mul, a, b => opMul a b
  | .fdiv, a, b => opFdiv a b
  | .mod, a, b => opMod a b
  | .pow, a, b => opPow a b
  | .eq, a, b => if sh a && sh b then some (.bool (PyData.eqv a b)) else none
  | .ne, a, b => if sh a && sh b then some (.bool (!PyData.eqv a b)) else none
  | .lt, a, b => opLt a b
  | .le, a, b => opLe a b
  | .gt, .int i, .int j => some (.bool (decide (j < i)))
  | .ge, .int i, .int j => some (.bool (decide (j ≤ i)))
  | .inn, a, b => match opIn a b with
    | some k => some (.bool k)
    | none => none
  | .notin, a, b => match opIn a b with
    | some k => some (.bool (!k))
    | none => none
  | .ix, a, b => opIx a b
  | .sl true false, a, b => opSl1 false a b
  | .sl false true, a, b => opSl1 true a b
  | .max2, a, b => opMax2 a b
  | .listZ, a, b => opListZ a b
  | .listR2, a, b => opListR2 a b
  | .min2, a, b => opMin2 a b
  | _, _, _ => none
def op3 : Op → D → D → D → Option D
  | _, _, _, _ => none
def opD (o : Op) : List D → Option D
  | [a] => op1 o a
  | [a, b] => op2 o a b
  | [a, b, c] => op3 o a b c
  | _ => none

def truD : D → Option Bool
  | .none => some false
  | .bool b => some b
  | .int i => some (i != 0)
  | .str x => if x.length ≤ sizeLine then some (x.length != 0) else none
  | .list xs => some (!xs.isEmpty)
  | .tuple xs => some (!xs.isEmpty)
  | .dict _ => none

def muD : Mu → D → List D → Option (D × D)
  | .append, .list xs, [y] => if xs.length < sizeLine then some (.none, .list (xs ++ [y])) else none
  | .extend, .list xs, [.list ys] => if xs.length + ys.length ≤ sizeLine then some (.none, .list (xs ++ ys)) else none
  | .pop0, .list xs, [] => match xs[xs.length - 1]? with
    | some y => some (y, .list xs.dropLast)
    | none => none
  | .pop1, .list xs, [.int i] => match L2.ixN xs.length i with
    | some k => match xs[k]? with
      | some y => if xs.length ≤ sizeLine then some (y, .list (xs.eraseIdx k)) else none
      | none => none
    | none => none
  | _, _, _ => none

/-- the type that a method's receiver has -/
def Mt.ty : Mt → Ty
  | .endswith => .str
  | .index => .list
  | .get1 => .dict
  | .get2 => .dict
def isObj : D → Bool
  | .list _ => true
  | .dict _ => true
  | _ => false
def opGet : D → D → D → Option D
  | .dict kvs, k, x => match keyOf k with
    | some _ => if isObj x then none else some ((lookD k kvs).getD x)
    | none => none
  | _, _, _ => none
def mtD : Mt → D → List D → Option D
  | .endswith, a, [b] => opEndswith a b
  | .index, a, [b] => opIndex a b
  | .get1, a, [k] => opGet a k .none
  | .get2, a, [k, x] => opGet a k x
  | _, _, _ => none

/-! ### the state -/
def rdV (i : Nat) : M D := fun s =>
  match s[i]? with
  | some (some (.val d)) => some (d, s)
  | some (some (.own d)) => some (d, s.set i (some (.val d)))
  | _ => none
def resA (s : S) : Ar → Option D
  | .pl i => match s[i]? with
    | some (some b) => some b.d
    | _ => none
  | .ln i => match s[i]? with
    | some (some (.own d)) => some d
    | some (some (.lent d)) => some d
    | _ => none
  | .vl d => some d
  | .ow d => some d
def resAs (s : S) : List Ar → Option (List D)
  | [] => some []
  | a :: r => match resA s a, resAs s r with
    | some d, some ds => some (d :: ds)
    | _, _ => none
/-- an own or lent slot gets another content -/
def mutS (i : Nat) (d : D) (s : S) : Option S :=
  match s[i]? with
  | some (some (.own _)) => some (s.set i (some (.own d)))
  | some (some (.lent _)) => some (s.set i (some (.lent d)))
  | _ => none
/-- a slot is given a value; what was lent stays -/
def putS (i : Nat) (b : B) (s : S) : Option S :=
  match s[i]? with
  | some (some (.lent _)) => none
  | some _ => some (s.set i (some b))
  | none => none
def putAll : List (Nat × B) → S → Option S
  | [], s => some s
  | (i, b) :: r, s => match putS i b s with
    | some s' => putAll r s'
    | none => none
def itemsOf : D → Option (List D)
  | .list xs => some xs
  | .tuple xs => some xs
  | _ => none
/-- what a loop walks -/
def walkOf : D → Option (List D)
  | .list xs => some xs
  | .tuple xs => some xs
  | .str x => some (x.cps.toList.map fun c => .str ⟨#[c]⟩)
  | .dict kvs => some (kvs.map (·.1))
  | _ => none
def bindT (t : Tg) (d : D) (s : S) : Option S :=
  match t with
  | .nm i => putS i (.val d) s
  | .tp is => match itemsOf d with
    | some ds => if ds.length = is.length then putAll (is.zip (ds.map .val)) s else none
    | none => none
/-- what was lent comes back -/
def backS : List Ar → List D → S → Option S
  | [], [], s => some s
  | .ln i :: r, d :: ds, s => match mutS i d s with
    | some s' => backS r ds s'
    | none => none
  | .ow _ :: r, _ :: ds, s => backS r ds s
  | .vl _ :: r, ds, s => backS r ds s
  | _, _, _ => none
def permL {α : Type} (perm : List Nat) (l : List α) : Option (List α) := perm.mapM fun i => l[i]?
def Tg.slots : Tg → List Nat
  | .nm i => [i]
  | .tp is => is
def wipeS (s : S) : List Nat → S
  | [] => s
  | v :: vs => (wipeS s vs).set v none
def plainS (s : S) (v : Nat) : Bool := match s[v]? with
  | some none => true
  | some (some (.val _)) => true
  | _ => false
def restS (s0 : S) (s : S) : List Nat → S
  | [] => s
  | v :: vs => (restS s0 s vs).set v ((s0[v]?).getD none)

/-- the loop of a comprehension -/
def compLoop (t : Tg) (ifs : M Bool) (e : M D) : List D → List D → M (List D)
  | [], acc => gives acc
  | d :: ds, acc => fun s => match bindT t d (wipeS s t.slots) with
    | none => none
    | some s1 => match ifs s1 with
      | none => none
      | some (false, s2) => compLoop t ifs e ds acc s2
      | some (true, s2) => match e s2 with
        | none => none
        | some (y, s3) => if acc.length < sizeLine then compLoop t ifs e ds (acc ++ [y]) s3 else none
def compM (t : Tg) (it : M (List D)) (ifs : M Bool) (e : M D) : M D := fun s =>
  match it s with
  | none => none
  | some (ds, s1) => if t.slots.all (plainS s1) then
      match compLoop t ifs e ds [] s1 with
      | none => none
      | some (ys, s2) => some (.list ys, restS s1 s2 t.slots)
    else none

def compLoop2 (vs : List Nat) (t : Tg) (ifs : M Bool) (t1 : Tg) (it1 : M (List D)) (ifs1 : M Bool) (e : M D) : List D → List D → M (List D)
  | [], acc => gives acc
  | d :: ds, acc => fun s => match bindT t d (wipeS s vs) with
    | none => none
    | some s1 => match ifs s1 with
      | none => none
      | some (false, s2) => compLoop2 vs t ifs t1 it1 ifs1 e ds acc s2
      | some (true, s2) => match it1 s2 with
        | none => none
        | some (ds1, s3) => match compLoop t1 ifs1 e ds1 acc s3 with
          | none => none
          | some (acc', s4) => compLoop2 vs t ifs t1 it1 ifs1 e ds acc' s4
def compM2 (t : Tg) (it : M (List D)) (ifs : M Bool) (t1 : Tg) (it1 : M (List D)) (ifs1 : M Bool) (e : M D) : M D := fun s =>
  match it s with
  | none => none
  | some (ds, s1) => if (t.slots ++ t1.slots).all (plainS s1) then
      match compLoop2 (t.slots ++ t1.slots) t ifs t1 it1 ifs1 e ds [] s1 with
      | none => none
      | some (ys, s2) => some (.list ys, restS s1 s2 (t.slots ++ t1.slots))
    else none

/-- the loop of a dict's comprehension -/
def dcompLoop (t : Tg) (ifs : M Bool) (ke ve : M D) : List D → List (D × D) → M (List (D × D))
  | [], acc => gives acc
  | d :: ds, acc => fun s => match bindT t d (wipeS s t.slots) with
    | none => none
    | some s1 => match ifs s1 with
      | none => none
      | some (false, s2) => dcompLoop t ifs ke ve ds acc s2
      | some (true, s2) => match ke s2 with
        | none => none
        | some (kd, s3) => match ve s3 with
          | none => none
          | some (vd, s4) => match keyOf kd with
            | none => none
            | some k => if acc.length < sizeLine then dcompLoop t ifs ke ve ds (putD acc k vd) s4 else none
def dcompM (t : Tg) (it : M (List D)) (ifs : M Bool) (ke ve : M D) : M D := fun s =>
  match it s with
  | none => none
  | some (ds, s1) => if t.slots.all (plainS s1) then
      match dcompLoop t ifs ke ve ds [] s1 with
      | none => none
      | some (ys, s2) => some (.dict ys, restS s1 s2 t.slots)
    else none

/-! ### the evaluator -/
structure Sm where
  v : M D := fails
  t : M Bool := fails
  a : M Ar := fails
  as : M (List Ar) := fails
  it : M (List D) := fails
  ts : M Bool := fails
def mk (v : M D) : Sm := { v := v, t := bnd v fun d => lift (truD d), a := bnd v fun d => gives (.vl d) }

abbrev Calls := Nat → List D → Option (D × List D)

def enumD : Nat → List D → List D
  | _, [] => []
  | n, d :: r => .tuple [.int n, d] :: enumD (n + 1) r

def opM (o : Op) (as : M (List Ar)) : M D := bnd as fun l s => match resAs s l with
  | none => none
  | some ds => match opD o ds with
    | none => none
    | some d => some (d, s)
def callM (C : Calls) (f : Nat) (perm : List Nat) (as : M (List Ar)) : M D := bnd as fun l s => match permL perm l with
  | none => none
  | some l' => match resAs s l' with
    | none => none
    | some ds => match C f ds with
      | none => none
      | some (r, ls) => match backS l' ls s with
        | none => none
        | some s' => some (r, s')
def valsA : List Ar → Option (List D)
  | [] => some []
  | .vl d :: r => match valsA r with
    | some ds => some (d :: ds)
    | none => none
  | _ :: _ => none

def isListA (s : S) (a : Ar) (t : Ty) : Bool := match resA s a with
  | some d => isTy t d
  | none => false
def muM (m : Mu) (i : Nat) (as : M (List Ar)) : M D := fun s0 => if isListA s0 (.ln i) .list then (match as s0 with
    | none => none
    | some (l, s) => match valsA l, resA s (.ln i) with
      | some ds, some x => match muD m x ds with
        | none => none
        | some (r, x') => match mutS i x' s with
          | none => none
          | some s' => some (r, s')
      | _, _ => none) else none
def mtM (m : Mt) (o : M Ar) (as : M (List Ar)) : M D := bnd o fun a s0 => if isListA s0 a m.ty then (match as s0 with
    | none => none
    | some (l, s) => match resA s a, resAs s l with
      | some x, some ds => match mtD m x ds with
        | none => none
        | some r => some (r, s)
      | _, _ => none) else none
def newObj : D → Bool
  | .list _ => true
  | .dict _ => true
  | _ => false
def slotA (a : Ar) : M Ar := fun s => match resA s a with
  | some _ => some (a, s)
  | none => none

def sem (C : Calls) : Ex → Sm
  | .con d => mk (gives d)
  | .glob _ d => mk (gives d)
  | .var i => mk (rdV i)
  | .pk i => { a := slotA (.pl i), t := fun s => match resA s (.pl i) with
      | none => none
      | some d => match truD d with
        | none => none
        | some k => some (k, s) }
  | .lend i => { a := slotA (.ln i) }
  | .give e => { a := bnd (sem C e).v fun d => if newObj d then gives (.ow d) else fails }
  | .op o es =>
    let v := opM o (sem C es).as
    { mk v with t := bnd v fun d => lift (truD d) }
  | .not a => { mk (bnd (sem C a).v fun x => bnd (lift (truD x)) fun k => gives (.bool (!k))) with t := bnd (sem C a).t fun k => gives (!k) }
  | .and a b =>
    { mk (bnd (sem C a).v fun x => bnd (lift (truD x)) fun k => if k then (sem C b).v else gives x) with
      t := bnd (sem C a).t fun k => if k then (sem C b).t else gives false }
  | .or a b =>
    { mk (bnd (sem C a).v fun x => bnd (lift (truD x)) fun k => if k then gives x else (sem C b).v) with
      t := bnd (sem C a).t fun k => if k then gives true else (sem C b).t }
  | .chain o o' a b c =>
    mk (bnd (sem C a).v fun x => bnd (sem C b).v fun y => bnd (lift (opD o [x, y])) fun r => match r with
      | .bool true => bnd (sem C c).v fun z => lift (opD o' [y, z])
      | .bool false => gives (.bool false)
      | _ => fails)
  | .ife c a b => { mk (bnd (sem C c).t fun k => if k then (sem C a).v else (sem C b).v) with t := fails }
  | .nev => {}
  | .tup es => mk (bnd (sem C es).as fun l => bnd (lift (valsA l)) fun ds => if ds.length ≤ sizeLine then gives (.tuple ds) else fails)
  | .lst es => mk (bnd (sem C es).as fun l => bnd (lift (valsA l)) fun ds => if ds.length ≤ sizeLine then gives (.list ds) else fails)
  | .dct0 => mk (gives (.dict []))
  | .dct1 k v => mk (bnd (sem C k).v fun kd => bnd (sem C v).v fun vd => match keyOf kd with
      | some _ => gives (.dict [(kd, vd)])
      | none => fails)
  | .call f perm es => mk (callM C f perm (sem C es).as)
  | .mu m i es => mk (muM m i (sem C es).as)
  | .mt m o es => mk (mtM m (sem C o).a (sem C es).as)
  | .sl2 a lo hi => mk (bnd (sem C a).a fun x => bnd (sem C lo).v fun l => bnd (lift (intD l)) fun i => bnd (sem C hi).v fun h => bnd (lift (intD h)) fun j s => match resA s x with
      | none => none
      | some d => match opSl (some i) (some j) d with
        | none => none
        | some r => some (r, s))
  | .comp e t it ifs => mk (compM t (sem C it).it (sem C ifs).ts (sem C e).v)
  | .comp2 e t it ifs t1 it1 ifs1 => mk (compM2 t (sem C it).it (sem C ifs).ts t1 (sem C it1).it (sem C ifs1).ts (sem C e).v)
  | .dcomp k v t it ifs => mk (dcompM t (sem C it).it (sem C ifs).ts (sem C k).v (sem C v).v)
  | .nil => { as := gives [], ts := gives true }
  | .cons e es =>
    { as := bnd (sem C e).a fun x => bnd (sem C es).as fun l => gives (x :: l)
      ts := bnd (sem C e).t fun k => if k then (sem C es).ts else gives false }
  | .itOf e => { it := bnd (sem C e).v fun d => lift (walkOf d) }
  | .itRange es => { it := bnd (sem C es).as fun l => bnd (lift (valsA l)) fun ds => match ds with
      | [.int n] => if smallI n then gives (rgD n) else fails
      | [.int a, .int b] => if smallI a && smallI b then gives (rgD2 a b) else fails
      | _ => fails }
  | .itEnum e => { it := bnd (sem C e).v fun d => match d with
      | .list xs => gives (enumD 0 xs)
      | _ => fails }
  | .itZip es => { it := bnd (sem C es).as fun l => bnd (lift (valsA l)) fun ds => match ds with
      | [.list xs, .list ys] => gives (zipD xs ys)
      | [.tuple xs, .tuple ys] => gives (zipD xs ys)
      | _ => fails }
  | .itVals e => { it := bnd (sem C e).v fun d => match d with
      | .dict kvs => gives (kvs.map (·.2))
      | _ => fails }
  | .itItems e => { it := bnd (sem C e).v fun d => match d with
      | .dict kvs => gives (kvs.map fun kv => .tuple [kv.1, kv.2])
      | _ => fails }

def forLoop (t : Tg) (b : M Fl) : List D → M Fl
  | [] => gives .nx
  | d :: ds => fun s => match bindT t d s with
    | none => none
    | some s1 => match b s1 with
      | none => none
      | some (.nx, s2) => forLoop t b ds s2
      | some (.ct, s2) => forLoop t b ds s2
      | some (.bk, s2) => some (.nx, s2)
      | some (.rt o d, s2) => some (.rt o d, s2)
def whileLoop (c : M Bool) (b : M Fl) : Nat → M Fl
  | 0 => fails
  | n + 1 => fun s => match c s with
    | none => none
    | some (false, s1) => some (.nx, s1)
    | some (true, s1) => match b s1 with
      | none => none
      | some (.nx, s2) => whileLoop c b n s2
      | some (.ct, s2) => whileLoop c b n s2
      | some (.bk, s2) => some (.nx, s2)
      | some (.rt o d, s2) => some (.rt o d, s2)

/-- what a display or a call hands to a slot -/
def bOf : Ar → Option B
  | .vl d => some (.val d)
  | .ow d => some (.own d)
  | _ => none
def bsOf : List Ar → Option (List B)
  | [] => some []
  | a :: r => match bOf a, bsOf r with
    | some b, some bs => some (b :: bs)
    | _, _ => none
def subD : D → D → D → Option D
  | .list xs, .int k, d => match L2.ixN xs.length k with
    | some j => some (.list (xs.set j d))
    | none => none
  | .dict kvs, k, d => match keyOf k with
    | some x => if kvs.length < sizeLine then some (.dict (putD kvs x d)) else none
    | none => none
  | _, _, _ => none

def augD : Op → D → D → Option D
  | .add, .int i, .int j => some (.int (i + j))
  | .sub, .int i, .int j => some (.int (i - j))
  | .mul, .int i, .int j => if (decide (-(2 ^ 64) < i) && decide (i < 2 ^ 64)) || (decide (-(2 ^ 64) < j) && decide (j < 2 ^ 64)) then some (.int (i * j)) else none
  | .fdiv, .int i, .int j => if decide (0 < j) && decide (j < 2 ^ 30) then some (.int (i / j)) else none
  | .mod, .int i, .int j => if decide (0 < j) then some (.int (i % j)) else none
  | .add, .str x, .str y => opAdd (.str x) (.str y)
  | _, _, _ => none
def stm (w : Nat) (C : Calls) : Sx → M Fl
  | .set i e => bnd (sem C e).v fun d s => match putS i (.val d) s with
    | none => none
    | some s' => some (.nx, s')
  | .seto i e => bnd (sem C e).v fun d s => if newObj d then match putS i (.own d) s with
    | none => none
    | some s' => some (.nx, s') else none
  | .par is es => bnd (sem C es).as fun l s => match bsOf l with
    | none => none
    | some bs => if bs.length = is.length then match putAll (is.zip bs) s with
      | none => none
      | some s' => some (.nx, s') else none
  | .unp is e => bnd (sem C e).v fun d s => match bindT (.tp is) d s with
    | none => none
    | some s' => some (.nx, s')
  | .sub i k e => bnd (sem C e).v fun d => bnd (slotA (.ln i)) fun _ => bnd (sem C k).v fun kd s => match resA s (.ln i) with
    | none => none
    | some x => match subD x kd d with
      | none => none
      | some x' => match mutS i x' s with
        | none => none
        | some s' => some (.nx, s')
  | .aug i o e => bnd (rdV i) fun x => bnd (sem C e).v fun y => bnd (lift (augD o x y)) fun z s => match putS i (.val z) s with
    | none => none
    | some s' => some (.nx, s')
  | .expr e => bnd (sem C e).v fun _ => gives .nx
  | .ret e => bnd (sem C e).v fun d => gives (.rt false d)
  | .reto e => bnd (sem C e).v fun d => if newObj d then gives (.rt true d) else fails
  | .retv i => fun s => match s[i]? with
    | some (some (.own d)) => some (.rt true d, s.set i none)
    | _ => none
  | .retn => gives (.rt false .none)
  | .ife c a b => bnd (sem C c).t fun k => if k then stm w C a else stm w C b
  | .for_ t it b => bnd (sem C it).it fun ds => forLoop t (stm w C b) ds
  | .while_ c b => whileLoop (sem C c).t (stm w C b) w
  | .pass => gives .nx
  | .brk => gives .bk
  | .cont => gives .ct
  | .nev => fails
  | .nil => gives .nx
  | .cons a b => bnd (stm w C a) fun f => match f with
    | .nx => stm w C b
    | f => gives f

structure FnI where
  modes : List Bool
  own : Bool
  n : Nat
  body : Sx

def inB (m : Bool) (d : D) : B := if m then .lent d else .val d
def startS (fi : FnI) (ds : List D) : S := (List.zipWith inB fi.modes ds).map some ++ List.replicate (fi.n - ds.length) none
def lentsOf : List Bool → S → Option (List D)
  | [], _ => some []
  | false :: ms, s => lentsOf ms s.tail
  | true :: ms, s => match s.head? with
    | some (some (.lent d)) => match lentsOf ms s.tail with
      | some ds => some (d :: ds)
      | none => none
    | _ => none
def endD (fi : FnI) (r : Option (Fl × S)) : Option (D × List D) :=
  match r with
  | some (.rt o d, s) => if o = fi.own then match lentsOf fi.modes s with
    | some ls => some (d, ls)
    | none => none else none
  | some (.nx, s) => if fi.own = false then match lentsOf fi.modes s with
    | some ls => some (.none, ls)
    | none => none else none
  | _ => none
def run (T : List FnI) (w : Nat) : Nat → Calls
  | 0 => fun _ _ => none
  | k + 1 => fun f ds => match T[f]? with
    | none => none
    | some fi => if ds.length = fi.modes.length then endD fi (stm w (run T w k) fi.body (startS fi ds)) else none
end FC

/-! Part 2: how data and slots lie in the abstract heap. -/
namespace FC
open PySem PySem.Spec PyProof.Rows L2

mutual
inductive Rp (K : PySem.W.Frag) (F : Hp) : V → D → Prop
  | non : Rp K F .non .none
  | bl (b : Bool) : Rp K F (.bl b) (.bool b)
  | int (i : Int) : Rp K F (.int i) (.int i)
  | str (x : Str) : Rp K F (.str x) (.str x)
  | lst {a : Addr} {xs : List V} {ds : List D} : Rd F a (.lst xs) → Rps K F xs ds → Rp K F (.ref a) (.list ds)
  | tup {a : Addr} {xs : List V} {ds : List D} : SqT K F a xs → Rps K F xs ds → Rp K F (.ref a) (.tuple ds)
  | dct {a : Addr} {o : Obj} {kvs : List (Key × V)} {ds : List (D × D)} : F a = some (.frz o (.dK kvs)) → Rpk K F kvs ds → Rp K F (.ref a) (.dict ds)
inductive Rps (K : PySem.W.Frag) (F : Hp) : List V → List D → Prop
  | nil : Rps K F [] []
  | cons {v : V} {vs : List V} {d : D} {ds : List D} : Rp K F v d → Rps K F vs ds → Rps K F (v :: vs) (d :: ds)
inductive Rpk (K : PySem.W.Frag) (F : Hp) : List (Key × V) → List (D × D) → Prop
  | nil : Rpk K F [] []
  | cons {k : Key} {v : V} {vs : List (Key × V)} {d : D} {ds : List (D × D)} : Rp K F v d → Rpk K F vs ds → Rpk K F ((k, v) :: vs) ((ofKey k, d) :: ds)
end

section
variable {K : PySem.W.Frag} {F F' G H H' : Hp}
theorem Rd.same {a : Addr} {u : HO} (s : Same F F') (h : Rd F a u) : Rd F' a u := by
  rcases h with h | ⟨o, h⟩
  · exact .inl (s _ _ h)
  · exact .inr ⟨o, s _ _ h⟩
theorem SqL.same {a : Addr} {xs : List V} (s : Same F F') (h : SqL K F a xs) : SqL K F' a xs := by
  rcases h with h | h
  · exact .inl (Rd.same s h)
  · exact .inr h
theorem SqT.same {a : Addr} {xs : List V} (s : Same F F') (h : SqT K F a xs) : SqT K F' a xs := by
  rcases h with h | h
  · exact .inl (Rd.same s h)
  · exact .inr h
mutual
theorem Rp.same (s : Same F F') : ∀ {v : V} {d : D}, Rp K F v d → Rp K F' v d
  | _, _, .non => .non
  | _, _, .bl b => .bl b
  | _, _, .int i => .int i
  | _, _, .str x => .str x
  | _, _, .lst h r => .lst (Rd.same s h) (Rps.same s r)
  | _, _, .tup h r => .tup (SqT.same s h) (Rps.same s r)
  | _, _, .dct h r => .dct (s _ _ h) (Rpk.same s r)
theorem Rps.same (s : Same F F') : ∀ {v : List V} {d : List D}, Rps K F v d → Rps K F' v d
  | _, _, .nil => .nil
  | _, _, .cons h r => .cons (Rp.same s h) (Rps.same s r)
theorem Rpk.same (s : Same F F') : ∀ {v : List (Key × V)} {d : List (D × D)}, Rpk K F v d → Rpk K F' v d
  | _, _, .nil => .nil
  | _, _, .cons h r => .cons (Rp.same s h) (Rpk.same s r)
end
theorem Rps.length : ∀ {v : List V} {d : List D}, Rps K F v d → v.length = d.length
  | _, _, .nil => rfl
  | _, _, .cons _ r => by rw [List.length_cons, List.length_cons, Rps.length r]
theorem Rps.get : ∀ {v : List V} {ds : List D} {i : Nat} {d : D}, Rps K F v ds → ds[i]? = some d → ∃ x, v[i]? = some x ∧ Rp K F x d
  | _, _, _, _, .nil, e => by simp at e
  | _, _, 0, _, .cons h _, e => by simp at e; subst e; exact ⟨_, rfl, h⟩
  | _, _, i + 1, d, .cons _ r, e => by
    obtain ⟨x, h1, h2⟩ := Rps.get (i := i) (d := d) r (by simpa using e)
    exact ⟨x, by simpa using h1, h2⟩
theorem Rps.get' : ∀ {v : List V} {ds : List D} {i : Nat} {x : V}, Rps K F v ds → v[i]? = some x → ∃ d, ds[i]? = some d ∧ Rp K F x d
  | _, _, _, _, .nil, e => by simp at e
  | _, _, 0, _, .cons h _, e => by simp at e; subst e; exact ⟨_, rfl, h⟩
  | _, _, i + 1, d, .cons _ r, e => by
    obtain ⟨x, h1, h2⟩ := Rps.get' (i := i) (x := d) r (by simpa using e)
    exact ⟨x, by simpa using h1, h2⟩
theorem Rps.append : ∀ {v w : List V} {d e : List D}, Rps K F v d → Rps K F w e → Rps K F (v ++ w) (d ++ e)
  | _, _, _, _, .nil, s => s
  | _, _, _, _, .cons h r, s => .cons h (Rps.append r s)
theorem Rps.take : ∀ {v : List V} {d : List D} (n : Nat), Rps K F v d → Rps K F (v.take n) (d.take n)
  | _, _, 0, _ => .nil
  | _, _, _ + 1, .nil => .nil
  | _, _, n + 1, .cons h r => .cons h (Rps.take n r)
theorem Rps.drop : ∀ {v : List V} {d : List D} (n : Nat), Rps K F v d → Rps K F (v.drop n) (d.drop n)
  | _, _, 0, h => h
  | _, _, _ + 1, .nil => .nil
  | _, _, n + 1, .cons _ r => Rps.drop n r
theorem Rps.reverse : ∀ {v : List V} {d : List D}, Rps K F v d → Rps K F v.reverse d.reverse
  | _, _, .nil => .nil
  | _, _, .cons h r => by
    rw [List.reverse_cons, List.reverse_cons]
    exact Rps.append (Rps.reverse r) (.cons h .nil)
theorem Rps.set {x : V} {y : D} (h : Rp K F x y) : ∀ {v : List V} {d : List D} (n : Nat), Rps K F v d → Rps K F (v.set n x) (d.set n y)
  | _, _, _, .nil => .nil
  | _, _, 0, .cons _ r => .cons h r
  | _, _, n + 1, .cons q r => .cons q (Rps.set h n r)
theorem Rps.erase : ∀ {v : List V} {d : List D} (n : Nat), Rps K F v d → Rps K F (v.eraseIdx n) (d.eraseIdx n)
  | _, _, _, .nil => .nil
  | _, _, 0, .cons _ r => r
  | _, _, n + 1, .cons q r => .cons q (Rps.erase n r)
theorem Rps.dropLast {v : List V} {d : List D} (h : Rps K F v d) : Rps K F v.dropLast d.dropLast := by
  rw [List.dropLast_eq_take, List.dropLast_eq_take, h.length]
  exact h.take _
theorem Rps.ints : ∀ {ns : List Int} {v : List V}, Rps K F v (ns.map .int) → v = ns.map V.int
  | [], _, .nil => rfl
  | n :: ns, _, .cons h r => by
    cases h
    rw [List.map_cons, Rps.ints r]
theorem Rps.strs : ∀ {ns : List Str} {v : List V}, Rps K F v (ns.map .str) → v = ns.map V.str
  | [], _, .nil => rfl
  | n :: ns, _, .cons h r => by
    cases h
    rw [List.map_cons, Rps.strs r]
theorem Rps.bools : ∀ {ns : List Bool} {v : List V}, Rps K F v (ns.map .bool) → v = ns.map V.bl
  | [], _, .nil => rfl
  | n :: ns, _, .cons h r => by
    cases h
    rw [List.map_cons, Rps.bools r]
theorem rps_ints : ∀ (ns : List Int), Rps K F (ns.map V.int) (ns.map .int)
  | [] => .nil
  | n :: ns => .cons (.int n) (rps_ints ns)
theorem rps_strs : ∀ (ns : List Str), Rps K F (ns.map V.str) (ns.map .str)
  | [] => .nil
  | n :: ns => .cons (.str n) (rps_strs ns)
theorem Rps.rep {v : List V} {d : List D} (h : Rps K F v d) : ∀ n : Nat, Rps K F (List.replicate n v).flatten (List.replicate n d).flatten
  | 0 => .nil
  | n + 1 => by
    rw [List.replicate_succ, List.replicate_succ, List.flatten_cons, List.flatten_cons]
    exact h.append (h.rep n)
theorem cutD_rps {v : List V} {d : List D} (h : Rps K F v d) (lo hi : Option Int) : Rps K F (cutV v lo hi) (cutD d lo hi) := by
  unfold cutV cutD
  rw [h.length]
  exact (h.drop _).take _
theorem intsOf_eq : ∀ {ds : List D} {ns : List Int}, intsOf ds = some ns → ds = ns.map .int
  | [], ns, h => by cases h; rfl
  | .int i :: r, ns, h => by
    simp only [intsOf, Option.map_eq_some_iff] at h
    obtain ⟨m, h1, rfl⟩ := h
    rw [intsOf_eq h1]; rfl
  | .none :: _, _, h | .bool _ :: _, _, h | .str _ :: _, _, h | .list _ :: _, _, h | .tuple _ :: _, _, h | .dict _ :: _, _, h => by simp [intsOf] at h
theorem strsOf_eq : ∀ {ds : List D} {ns : List Str}, strsOf ds = some ns → ds = ns.map .str
  | [], ns, h => by cases h; rfl
  | .str i :: r, ns, h => by
    simp only [strsOf, Option.map_eq_some_iff] at h
    obtain ⟨m, h1, rfl⟩ := h
    rw [strsOf_eq h1]; rfl
  | .none :: _, _, h | .bool _ :: _, _, h | .int _ :: _, _, h | .list _ :: _, _, h | .tuple _ :: _, _, h | .dict _ :: _, _, h => by simp [strsOf] at h
theorem boolsOf_eq : ∀ {ds : List D} {ns : List Bool}, boolsOf ds = some ns → ds = ns.map .bool
  | [], ns, h => by cases h; rfl
  | .bool i :: r, ns, h => by
    simp only [boolsOf, Option.map_eq_some_iff] at h
    obtain ⟨m, h1, rfl⟩ := h
    rw [boolsOf_eq h1]; rfl
  | .none :: _, _, h | .str _ :: _, _, h | .int _ :: _, _, h | .list _ :: _, _, h | .tuple _ :: _, _, h | .dict _ :: _, _, h => by simp [boolsOf] at h

mutual
theorem Rp.dp : ∀ (d : D) {v : V}, Rp K F v d → d.canLay0 = true → Dp K F v d
  | .none, _, .non, _ => .non
  | .bool b, _, .bl _, _ => .bl b
  | .int i, _, .int _, _ => .int i
  | .str x, _, .str _, _ => .str x
  | .list ds, _, .lst h r, c => .lst (.inl h) (Rps.dp ds r (by simpa [PyData.canLay0] using c))
  | .tuple ds, _, .tup h r, c => .tup h (Rps.dp ds r (by simpa [PyData.canLay0] using c))
  | .dict _, _, _, c => by simp [PyData.canLay0] at c
theorem Rps.dp : ∀ (d : List D) {v : List V}, Rps K F v d → PyData.canLayAll0 d = true → DpAll K F v d
  | [], _, .nil, _ => .nil
  | x :: r, _, .cons h t, c => by
    simp only [PyData.canLayAll0, Bool.and_eq_true] at c
    exact .cons (Rp.dp x h c.1) (Rps.dp r t c.2)
end

/-! ### own objects -/
def Ob (K : PySem.W.Frag) (F H : Hp) (a : Addr) : D → Prop
  | .list ds => ∃ vs, H a = some (.lst vs) ∧ Rps K F vs ds
  | .dict ds => ∃ vs, H a = some (.dK vs) ∧ Rpk K F vs ds
  | _ => False
theorem Ob.has {a : Addr} {d : D} (h : Ob K F H a d) : ∃ o, H a = some o := by
  cases d <;> first | exact h.elim | (obtain ⟨vs, e, _⟩ := h; exact ⟨_, e⟩)
theorem Ob.mono {a : Addr} {d : D} (h : Ob K F H a d) (s : Same F F') (e : H' a = H a) : Ob K F' H' a d := by
  cases d with
  | list ds => obtain ⟨vs, e1, r⟩ := h; exact ⟨vs, by rw [e, e1], Rps.same s r⟩
  | dict ds => obtain ⟨vs, e1, r⟩ := h; exact ⟨vs, by rw [e, e1], Rpk.same s r⟩
  | _ => exact h.elim
theorem Ob.frz {a : Addr} {ds : List D} {o : HO} (h : Ob K F H a (.list ds)) (e : H a = some o) (hn : F a = none) : Rp K (upd F a o) (.ref a) (.list ds) := by
  have s : Same F (upd F a o) := fun b x q => by rw [upd_ne (ne_of_none q hn)]; exact q
  obtain ⟨vs, e1, r⟩ := h
  rw [e] at e1; cases e1
  exact .lst (.inl upd_same) (Rps.same s r)
theorem Ob.frzD {a : Addr} {ds : List (D × D)} {vs : List (Key × V)} {od : Obj} (h : Ob K F H a (.dict ds)) (e : H a = some (.dK vs)) (hn : F a = none) : Rp K (upd F a (.frz od (.dK vs))) (.ref a) (.dict ds) := by
  have s : Same F (upd F a (.frz od (.dK vs))) := fun b x q => by rw [upd_ne (ne_of_none q hn)]; exact q
  obtain ⟨vs', e1, r⟩ := h
  rw [e] at e1; cases e1
  exact .dct upd_same (Rpk.same s r)
/-- an operand: a value, or an object that lies open -/
def TR (K : PySem.W.Frag) (F H : Hp) (v : V) (d : D) : Prop := Rp K F v d ∨ ∃ a, v = .ref a ∧ Ob K F H a d
inductive TRs (K : PySem.W.Frag) (F H : Hp) : List V → List D → Prop
  | nil : TRs K F H [] []
  | cons {v : V} {vs : List V} {d : D} {ds : List D} : TR K F H v d → TRs K F H vs ds → TRs K F H (v :: vs) (d :: ds)
theorem TR.list {v : V} {ds : List D} (s : Same F H) (h : TR K F H v (.list ds)) : ∃ a vs, v = .ref a ∧ Rd H a (.lst vs) ∧ Rps K F vs ds := by
  rcases h with h | ⟨a, rfl, vs, e, r⟩
  · cases h with
    | lst h r => exact ⟨_, _, rfl, Rd.same s h, r⟩
  · exact ⟨a, vs, rfl, .inl e, r⟩
theorem TR.tuple {v : V} {ds : List D} (s : Same F H) (h : TR K F H v (.tuple ds)) : ∃ a vs, v = .ref a ∧ SqT K H a vs ∧ SqT K F a vs ∧ Rps K F vs ds := by
  rcases h with h | ⟨a, rfl, h⟩
  · cases h with
    | tup h r => exact ⟨_, _, rfl, SqT.same s h, h, r⟩
  · exact h.elim
theorem TR.int {v : V} {i : Int} (h : TR K F H v (.int i)) : v = .int i := by
  rcases h with h | ⟨a, rfl, h⟩
  · cases h; rfl
  · exact h.elim
theorem TR.bl {v : V} {i : Bool} (h : TR K F H v (.bool i)) : v = .bl i := by
  rcases h with h | ⟨a, rfl, h⟩
  · cases h; rfl
  · exact h.elim
theorem TR.str {v : V} {i : Str} (h : TR K F H v (.str i)) : v = .str i := by
  rcases h with h | ⟨a, rfl, h⟩
  · cases h; rfl
  · exact h.elim
theorem TR.non {v : V} (h : TR K F H v .none) : v = .non := by
  rcases h with h | ⟨a, rfl, h⟩
  · cases h; rfl
  · exact h.elim
theorem TR.rp {v : V} {d : D} (h : TR K F H v d) (hd : newObj d = false) : Rp K F v d := by
  rcases h with h | ⟨a, rfl, h⟩
  · exact h
  · cases d <;> first | exact h.elim | cases hd
theorem TR.dp {v : V} {d : D} (s : Same F H) (h : TR K F H v d) (c : d.canLay0 = true) : Dp K H v d := by
  rcases h with h | ⟨a, rfl, h⟩
  · exact Rp.dp d (Rp.same s h) c
  · cases d with
    | list ds =>
      obtain ⟨vs, e, r⟩ := h
      exact .lst (.inl (.inl e)) (Rps.dp ds (Rps.same s r) (by simpa [PyData.canLay0] using c))
    | dict _ => simp [PyData.canLay0] at c
    | _ => exact h.elim

/-! ### slots -/
def RB (K : PySem.W.Frag) (F H : Hp) (v : V) : B → Prop
  | .val d => Rp K F v d
  | .own d => ∃ a, v = .ref a ∧ F a = none ∧ Ob K F H a d
  | .lent d => ∃ a, v = .ref a ∧ F a = none ∧ Ob K F H a d
theorem RB.tr {v : V} {b : B} (h : RB K F H v b) : TR K F H v b.d := by
  cases b with
  | val d => exact .inl h
  | own d => obtain ⟨a, e, _, o⟩ := h; exact .inr ⟨a, e, o⟩
  | lent d => obtain ⟨a, e, _, o⟩ := h; exact .inr ⟨a, e, o⟩
theorem RB.mineAt {v : V} {b : B} (h : RB K F H v b) (m : b.mine = true) : ∃ a, v = .ref a ∧ F a = none ∧ Ob K F H a b.d := by
  cases b with
  | val d => cases m
  | own d => exact h
  | lent d => exact h
/-- the addresses of own and lent slots -/
def Ad (σ : L2.St) (s : S) (a : Addr) : Prop := ∃ (i : Nat) (b : B), s[i]? = some (some b) ∧ b.mine = true ∧ σ[i]? = some (some (.ref a))
structure Rs (K : PySem.W.Frag) (F H : Hp) (σ : L2.St) (s : S) : Prop where
  sub : Same F H
  len : σ.length = s.length
  at_ : ∀ (i : Nat) (b : B), s[i]? = some (some b) → ∃ v, σ[i]? = some (some v) ∧ RB K F H v b
  dis : ∀ (i j : Nat) (b c : B) (a : Addr), s[i]? = some (some b) → s[j]? = some (some c) → b.mine = true → c.mine = true → σ[i]? = some (some (.ref a)) → σ[j]? = some (some (.ref a)) → i = j
structure Ext (A : Addr → Prop) (F H F' H' : Hp) : Prop where
  f : Same F F'
  k : ∀ a o, ¬ A a → H a = some o → H' a = some o
  z : ∀ a, ¬ A a → F a = none → H a ≠ none → F' a = none
  t : ∀ a, H a ≠ none → H' a ≠ none
theorem Same.refl : Same H H := fun _ _ e => e
theorem Ext.refl {A : Addr → Prop} : Ext A F H F H := ⟨Same.refl, fun _ _ _ e => e, fun _ _ e _ => e, fun _ e => e⟩
theorem Ext.trans {A B : Addr → Prop} {F1 H1 F2 H2 : Hp} (x : Ext A F H F1 H1) (y : Ext B F1 H1 F2 H2) (h : ∀ a, B a → A a ∨ H a = none) : Ext A F H F2 H2 := by
  have nb : ∀ a, ¬ A a → H a ≠ none → ¬ B a := fun a n e b => by
    rcases h a b with q | q
    · exact n q
    · exact e q
  refine ⟨fun a o e => y.f a o (x.f a o e), fun a o n e => y.k a o (nb a n (by rw [e]; intro z; cases z)) (x.k a o n e), fun a n e q => ?_, fun a e => y.t a (x.t a e)⟩
  refine y.z a (nb a n q) (x.z a n e q) ?_
  cases e2 : H a with
  | none => exact absurd e2 q
  | some o => rw [x.k a o n e2]; intro z; cases z
theorem Ext.mono {A B : Addr → Prop} (x : Ext A F H F' H') (h : ∀ a, A a → B a) : Ext B F H F' H' :=
  ⟨x.f, fun a o n e => x.k a o (fun z => n (h a z)) e, fun a n e q => x.z a (fun z => n (h a z)) e q, x.t⟩
/-- nothing was open: all stays -/
theorem Ext.none_ {A : Addr → Prop} (x : Ext (fun _ => False) F H F' H') : Ext A F H F' H' := x.mono fun _ z => z.elim

/-- the slots stay where the heap grows -/
theorem Rs.ext {σ : L2.St} {s : S} (r : Rs K F H σ s) (x : Ext (fun _ => False) F H F' H') (q : Same F' H') : Rs K F' H' σ s := by
  refine ⟨q, r.len, fun i b e => ?_, r.dis⟩
  obtain ⟨v, e1, h⟩ := r.at_ i b e
  refine ⟨v, e1, ?_⟩
  cases b with
  | val d => exact Rp.same x.f h
  | own d =>
    obtain ⟨a, rfl, hn, ob⟩ := h
    obtain ⟨o, eo⟩ := ob.has
    exact ⟨a, rfl, x.z a (fun z => z) hn (by rw [eo]; intro z; cases z), ob.mono x.f (by rw [x.k a o (fun z => z) eo, eo])⟩
  | lent d =>
    obtain ⟨a, rfl, hn, ob⟩ := h
    obtain ⟨o, eo⟩ := ob.has
    exact ⟨a, rfl, x.z a (fun z => z) hn (by rw [eo]; intro z; cases z), ob.mono x.f (by rw [x.k a o (fun z => z) eo, eo])⟩
theorem upd_some {p a : Addr} {o : HO} (e : H a ≠ none) : upd H p o a ≠ none := by
  unfold upd
  split
  · intro z; cases z
  · exact e
theorem ext_new {p : Addr} {o : HO} (hp : H p = none) : Ext (fun _ => False) F H F (upd H p o) :=
  ⟨Same.refl, fun a u _ e => by rw [upd_ne (ne_of_none e hp)]; exact e, fun _ _ e _ => e, fun a e => upd_some e⟩
theorem ext_newF {p : Addr} {o : HO} (sub : Same F H) (hp : H p = none) : Ext (fun _ => False) F H (upd F p o) (upd H p o) := by
  have fp : F p = none := by
    cases e : F p with
    | none => rfl
    | some u => rw [sub p u e] at hp; cases hp
  refine ⟨fun a u e => by rw [upd_ne (ne_of_none e fp)]; exact e, fun a u _ e => by rw [upd_ne (ne_of_none e hp)]; exact e, fun a _ e q => ?_, fun a e => upd_some e⟩
  rw [upd_ne (show a ≠ p from fun z => q (by rw [z]; exact hp))]
  exact e
theorem same_newF {p : Addr} {o : HO} (sub : Same F H) : Same (upd F p o) (upd H p o) := fun a u e => by
  by_cases h : a = p
  · subst h; rw [upd_same] at e ⊢; exact e
  · rw [upd_ne h] at e ⊢; exact sub a u e
theorem same_new {p : Addr} {o : HO} (sub : Same F H) (hp : H p = none) : Same F (upd H p o) := fun a u e => by
  have q := sub a u e
  rw [upd_ne (ne_of_none q hp)]; exact q
/-- an open object is shut: from now on a value -/
theorem ext_shut {A : Addr → Prop} {p : Addr} {o : HO} (hf : F p = none) (hA : A p) : Ext A F H (upd F p o) H :=
  ⟨fun a u e => by rw [upd_ne (ne_of_none e hf)]; exact e, fun _ _ _ e => e, fun a n e _ => by rw [upd_ne (fun z => n (by rw [z]; exact hA))]; exact e, fun _ e => e⟩
theorem same_shut {p : Addr} {o : HO} (sub : Same F H) (e : H p = some o) : Same (upd F p o) H := fun a u q => by
  by_cases h : a = p
  · subst h; rw [upd_same] at q; cases q; exact e
  · rw [upd_ne h] at q; exact sub a u q
end
end FC

/-! Part 3a: more operations on tuples. -/
namespace FC
open PySem PySem.Spec PyProof.Rows L2
/-! ### t * n: n = 1 or t empty gives t itself, n ≤ 0 an empty one -/
theorem tuple_mulSame (l : Addr) (items : Array Value) (n : Nat) (dd : Option Addr) (sl : Array (Option Value)) (x : Int) (u : Tok) (c0 : (decide (x < -(2 ^ 63)) || decide (x ≥ 2 ^ 63)) = false) (c1 : (items.isEmpty || x == 1) = true) :
    Meets (Builtin.«tuple.__mul__» ⟨[.ref l, .int x u], []⟩) (fun _ R s => s.heap.get? l = some { cls := .type "tuple", dict := dd, data := .seq items n, slots := sl } ∧ R (.ok (.ret (Value.ref l))) s) :=
  .of_wp fun prog w A R s h => by
    obtain ⟨hp, g, d, tk, os⟩ := s
    obtain ⟨hl, h⟩ := h
    have f1 := AutoSeq1.idx_int
    wp_walk using wpAny_loadPart' hl
    repeat (first
      | (refine wpAny_ite_false (decide_eq_false (by rw [c0]; exact Bool.false_ne_true)) ?_; wp_walk using wpAny_loadPart' hl)
      | (refine wpAny_ite_true (decide_eq_true c1) ?_; wp_walk using wpAny_loadPart' hl))
    exact ⟨_, rfl, h⟩
theorem tuple_mulNone (l : Addr) (items : Array Value) (n : Nat) (dd : Option Addr) (sl : Array (Option Value)) (x : Int) (u : Tok) (c0 : (decide (x < -(2 ^ 63)) || decide (x ≥ 2 ^ 63)) = false) (c1 : (items.isEmpty || x == 1) = false) (c2 : (decide (x ≤ 0) || items.isEmpty) = true) :
    Meets (Builtin.«tuple.__mul__» ⟨[.ref l, .int x u], []⟩) (fun _ R s => s.heap.get? l = some { cls := .type "tuple", dict := dd, data := .seq items n, slots := sl } ∧
      R (.ok (.ret (Value.ref s.heap.objs.size))) { s with heap := s.heap.push { cls := Value.type "tuple", data := Data.seq #[] }, toks := s.toks }) :=
  .of_wp fun prog w A R s h => by
    obtain ⟨hp, g, d, tk, os⟩ := s
    obtain ⟨hl, h⟩ := h
    have f1 := AutoSeq1.idx_int
    wp_walk using wpAny_loadPart' hl
    repeat (first
      | (refine wpAny_ite_false (decide_eq_false (by rw [c0]; exact Bool.false_ne_true)) ?_; wp_walk using wpAny_loadPart' hl)
      | (refine wpAny_ite_false (decide_eq_false (by rw [c1]; exact Bool.false_ne_true)) ?_; wp_walk using wpAny_loadPart' hl)
      | (refine wpAny_ite_true (decide_eq_true c2) ?_; wp_walk using wpAny_loadPart' hl))
    exact ⟨_, rfl, h⟩
section
variable {X : Cx}
def rRepA (K : PySem.W.Frag) : R2 := fun x y H Q => ∃ l k xs, x = .ref l ∧ y = .int k ∧ SqT K H l xs ∧ k ≤ 1000 ∧ -(2 ^ 62) ≤ k ∧ xs.length ≤ 1000 ∧
  ((xs = [] ∨ k = 1) → Q (.ref l) H) ∧ (¬ (xs = [] ∨ k = 1) → ∀ p, H p = none → Q (.ref p) (upd H p (.tup (List.replicate k.toNat xs).flatten)))
theorem op_repA : OpR X (binaryOp .Mult) (rRepA X.K) := by
  intro pins s σ H x y v u Q I rx ry h
  obtain ⟨l, k, xs, rfl, rfl, hT, h2, h1, hz, q1, q2⟩ := h
  by_cases hb : 2 ≤ k ∧ xs ≠ []
  · refine op_repT pins s σ H _ _ v u Q I rx ry ⟨l, k, xs, rfl, rfl, hT, hb.2, hb.1, h2, hz, q2 ?_⟩
    rintro (z | z)
    · exact hb.2 z
    · omega
  · cases rx
    obtain ⟨t, rfl⟩ := ry
    obtain ⟨its, r, ⟨⟨cls, dd, data, sl⟩, ho, hc, n, hd⟩, hs⟩ := I.tuple hT
    simp only at hc hd
    subst hc hd
    have he : its.toArray.isEmpty = xs.isEmpty := by
      cases r <;> rfl
    have c0 : (decide (k < -(2 ^ 63)) || decide (k ≥ 2 ^ 63)) = false := by
      rw [decide_eq_false (by omega), decide_eq_false (by omega)] <;> rfl
    by_cases h3 : xs = [] ∨ k = 1
    · have c1 : (its.toArray.isEmpty || k == 1) = true := by
        rw [he, Bool.or_eq_true]
        rcases h3 with rfl | rfl
        · exact .inl rfl
        · exact .inr rfl
      exact wpAny_binaryOp_repeat_ref (T := "tuple") (U := "int") (by decide) ⟨_, ho, rfl⟩ (fun s' => typeIs_int s' k t) noFill_tuple_mul F.fills_int_mul F.slot_int_rmul repeat_tuple F.slot_int_index.lookup
        (call_meets F.slot_int_rmul (typeIs_int s k t) F.entry_int_rmul (F.args_int_rmul_2 _ _) (int_rmul_tuple k t l its.toArray n dd sl)
          ⟨ho, rfl, ⟨_, ho, rfl⟩, call_meets F.slot_tuple_mul ⟨_, ho, rfl⟩ F.entry_tuple_mul (F.args_tuple_mul_2 _ _) (tuple_mulSame l its.toArray n dd sl k t c0 c1) ⟨ho, .ref l, H, I, rfl, q1 h3⟩⟩)
    · have hx : xs ≠ [] := fun z => h3 (.inl z)
      have hk : k ≤ 0 := by
        have : k ≠ 1 := fun z => h3 (.inr z)
        have : ¬ 2 ≤ k := fun z => hb ⟨z, hx⟩
        omega
      have c1 : (its.toArray.isEmpty || k == 1) = false := by
        rw [he, Bool.or_eq_false_iff]
        refine ⟨?_, beq_eq_false_iff_ne.mpr fun z => h3 (.inr z)⟩
        cases xs with
        | nil => exact absurd rfl hx
        | cons _ _ => rfl
      have c2 : (decide (k ≤ 0) || its.toArray.isEmpty) = true := by
        rw [decide_eq_true hk] <;> rfl
      refine wpAny_binaryOp_repeat_ref (T := "tuple") (U := "int") (by decide) ⟨_, ho, rfl⟩ (fun s' => typeIs_int s' k t) noFill_tuple_mul F.fills_int_mul F.slot_int_rmul repeat_tuple F.slot_int_index.lookup
        (call_meets F.slot_int_rmul (typeIs_int s k t) F.entry_int_rmul (F.args_int_rmul_2 _ _) (int_rmul_tuple k t l its.toArray n dd sl)
          ⟨ho, rfl, ⟨_, ho, rfl⟩, call_meets F.slot_tuple_mul ⟨_, ho, rfl⟩ F.entry_tuple_mul (F.args_tuple_mul_2 _ _) (tuple_mulNone l its.toArray n dd sl k t c0 c1 c2) ⟨ho, ?_⟩⟩)
      have e0 : (List.replicate k.toNat xs).flatten = [] := by
        rw [show k.toNat = 0 by omega]
        rfl
      have q3 := q2 h3
      rw [e0] at q3
      refine ⟨.ref s.heap.objs.size, _, I.laid (t' := s.toks) (o := .tup []) (fun b ob q => Heap.get?_push_of_some _ q) (Nat.le_refl _) ?_, rfl, q3 _ (I.hok.fresh (Nat.le_refl _))⟩
      exact ⟨by decide, _, .nil, IsTup.new _ _⟩

/-! ### t[::-1] -/
theorem sliceApplied_rev {prog : Program} {w : World} {A : Around} {E : Value → Shared → Prop} {s : Shared} {sl : Addr} {vs : Value} {n : Nat} {Q : Int × Int × Nat → Shared → Prop} (hs : s.heap.IsSliceOf sl .none .none vs) (ps : IsPart vs (some (-1)))
    (h : Q ((n : Int) - 1, -1, n) s) : wpAny (model prog w) A (Builtin.Slice.sliceApplied (.ref sl) (pure (n : Int))) Q E s := by
  obtain ⟨os, hos, hcs, hds⟩ := id hs
  unfold Builtin.Slice.sliceApplied Builtin.Slice.sliceFields
  refine wpAny_bind (wpAny_bind (wpAny_field hos hds (x := .none) rfl (wpAny_bind (wpAny_field hos hds (x := .none) rfl (wpAny_bind (wpAny_field hos hds (x := vs) rfl (wpAny_pure ?_)))))))
  refine wpAny_bind (HT.slicePart_ ps ?_)
  show wpAny _ _ (if ((-1 : Int) == 0) = true then _ else _) _ _ s
  rw [if_neg (by decide)]
  refine wpAny_bind (HT.slicePart_ .none (wpAny_bind (HT.slicePart_ .none (wpAny_bind (wpAny_pure ?_)))))
  show wpAny _ _ (match Builtin.Slice.sliceAdjust none none (-1) (n : Int) with | (lo, hi) => pure (lo, (-1 : Int), Builtin.Slice.slicePlaces lo hi (-1))) _ _ s
  have e1 : Builtin.Slice.sliceAdjust none none (-1) (n : Int) = ((n : Int) - 1, -1) := by
    unfold Builtin.Slice.sliceAdjust
    simp
  rw [e1]
  have e2 : Builtin.Slice.slicePlaces ((n : Int) - 1) (-1) (-1) = n := by
    unfold Builtin.Slice.slicePlaces
    simp
    omega
  show wpAny _ _ (pure ((n : Int) - 1, (-1 : Int), Builtin.Slice.slicePlaces ((n : Int) - 1) (-1) (-1))) _ _ s
  rw [e2]
  exact wpAny_pure h
theorem fm_congr {α β : Type} {f g : α → Option β} : ∀ (l : List α), (∀ m ∈ l, f m = g m) → l.filterMap f = l.filterMap g
  | [], _ => rfl
  | a :: l, h => by
    rw [List.filterMap_cons, List.filterMap_cons, h a List.mem_cons_self, fm_congr l fun m hm => h m (List.mem_cons_of_mem _ hm)]
theorem pick_rev (xs : Array Value) : ((List.range xs.size).filterMap fun (m : Nat) => xs[(((xs.size : Int) - 1) + (m : Int) * (-1)).toNat]?).toArray = xs.toList.reverse.toArray := by
  congr 1
  have e : ∀ (l : List Value), ((List.range l.length).filterMap fun (m : Nat) => l[(((l.length : Int) - 1) + (m : Int) * (-1)).toNat]?) = l.reverse := by
    intro l
    apply List.ext_getElem?
    intro i
    have h1 : (List.range l.length).filterMap (fun (m : Nat) => l[(((l.length : Int) - 1) + (m : Int) * (-1)).toNat]?) = (List.range l.length).map fun m => l.reverse[m]?.getD default := by
      rw [← List.filterMap_eq_map]
      apply fm_congr
      intro m hm
      have hm' : m < l.length := List.mem_range.mp hm
      have e1 : (((l.length : Int) - 1) + (m : Int) * (-1)).toNat = l.length - 1 - m := by omega
      show l[(((l.length : Int) - 1) + (m : Int) * (-1)).toNat]? = some (l.reverse[m]?.getD default)
      rw [e1, List.getElem?_reverse hm', List.getElem?_eq_getElem (by omega)]
      rfl
    rw [h1, List.getElem?_map]
    by_cases hi : i < l.length
    · rw [List.getElem?_range hi]
      show some (l.reverse[i]?.getD default) = l.reverse[i]?
      rw [List.getElem?_eq_getElem (by simpa using hi)]
      rfl
    · rw [List.getElem?_eq_none (by simpa using hi), List.getElem?_eq_none (by simpa using hi)]
      rfl
  have := e xs.toList
  rw [Array.length_toList] at this
  rw [← this]
  apply fm_congr
  intro m _
  rw [Array.getElem?_toList]
theorem getItem_tuple_rev {prog : Program} {w : World} {A : Around} {E : Value → Shared → Prop} {s : Shared} {t sl : Addr} {items : Array Value} {vs : Value} {Q : Value → Shared → Prop} (ht : IsTup s.heap t items) (hs : s.heap.IsSliceOf sl .none .none vs) (ps : IsPart vs (some (-1)))
    (h : Q (.ref s.heap.objs.size) { s with heap := s.heap.push { cls := .type "tuple", data := .seq items.toList.reverse.toArray } })
    (hsz : items.size ≤ sizeLine) : wpAny (model prog w) A (getItem (.ref t) (.ref sl)) Q E s := by
  have htake : sizeOk (.seq items.toList.reverse.toArray) := by
    show items.toList.reverse.toArray.size ≤ sizeLine
    rw [List.size_toArray, List.length_reverse, Array.length_toList]
    omega
  obtain ⟨os, hos, hcs, hds⟩ := id hs
  have hTs : s.TypeIs (.ref sl) "slice" := ⟨os, hos, hcs⟩
  unfold getItem
  try with_reducible refine wpAny_holding ?_
  first | refine wpAny_bind (wpAny_pure ?_) | skip
  refine wpAny_bind (wpAny_sequenceKey ht.typeIs (by decide) ?_)
  refine wpAny_bind (wpAny_callSpecial?_slot (name := Str.ofString "__getitem__") ht.typeIs PyProof.Rows.slot_tuple_getitem
    (wpAny_call_entry PyProof.Rows.slot_tuple_getitem ht.typeIs entry_tuple_getitem ?_ (args_tuple_getitem _ _)))
  show wpAny _ _ (Builtin.Tuple.tupleItemsOf (.ref t) >>= _) _ _ s
  refine wpAny_bind (tupleItemsOf_ ht ?_)
  refine wpAny_bind (wpAny_typeOf hTs ?_)
  rw [if_pos (by decide)]
  refine wpAny_bind (sliceApplied_rev hs ps ?_)
  have hno : ¬ ((((items.size : Int) - 1) == 0 && (-1 : Int) == 1 && items.size == items.size) = true) := by
    intro q
    rw [Bool.and_eq_true, Bool.and_eq_true] at q
    exact absurd q.1.2 (by decide)
  show wpAny _ _ (if (((items.size : Int) - 1) == 0 && (-1 : Int) == 1 && items.size == items.size) = true then _ else _) _ _ s
  rw [if_neg hno, pick_rev]
  first
    | exact wpAny_bind (m := Builtin.Tuple.tupleExact _) (wpAny_newObj_type (wpAny_pure ⟨_, rfl, wpAny_pure h⟩) htake)
    | exact wpAny_bind (m := Builtin.Tuple.tupleExact _) (wpAny_newObj_type (wpAny_bind (wpAny_pure (wpAny_pure ⟨_, rfl, wpAny_pure h⟩))) htake)
    | exact wpAny_bind (wpAny_bind (m := Builtin.Tuple.tupleExact _) (wpAny_newObj_type (wpAny_pure (wpAny_pure ⟨_, rfl, wpAny_pure h⟩)) htake))
    | exact wpAny_bind (wpAny_bind (m := Builtin.Tuple.tupleExact _) (wpAny_newObj_type (wpAny_pure ⟨_, rfl, wpAny_pure h⟩) htake))
def tRevA (K : PySem.W.Frag) (te : TE) : TE := fun σ H Q => te σ H fun x H1 => ∃ a xs, x = .ref a ∧ ((SqL K H1 a xs ∧ ∀ p, H1 p = none → Q (.ref p) (upd H1 p (.lst xs.reverse))) ∨ (SqT K H1 a xs ∧ ∀ p, H1 p = none → Q (.ref p) (upd H1 p (.tup xs.reverse))))
theorem pe_revA {e : Expr} {te : TE} {k : Nat} {p1 p2 p3 pos : Pos} (he : PE X e te) : PE X (.Subscript e (.Slice none none (some (.UnaryOp .USub (.Constant (.int 1) k p1) p2)) p3) pos) (tRevA X.K te) := by
  refine ⟨fun pins s σ H Q I h => ?_⟩
  refine Subscript_ (thn (he.run pins s σ H _ I h) fun v s1 ⟨x, H1, I1, r1, q1⟩ => ?_)
  obtain ⟨a, xs, ex, hx⟩ := q1
  subst ex
  cases r1
  have hst : PO X (some (.UnaryOp .USub (.Constant (.int 1) k p1) p2)) (tPart (tUn (rU fun i => .int (-i)) (tC (.int 1)))) := po_some (pe_un un_neg pe_int)
  refine wpAny_Slice (thn (po_none.run pins s1 σ H1 (fun o H2 => o = none ∧ H2 = H1) I1 ⟨rfl, rfl⟩) fun vl s2 ⟨l, H2, I2, pl, el, e2⟩ => ?_)
  subst el e2
  refine thn (po_none.run pins s2 σ H2 (fun o H3 => o = none ∧ H3 = H2) I2 ⟨rfl, rfl⟩) fun vu s3 ⟨u, H3, I3, pu, eu, e3⟩ => ?_
  subst eu e3
  refine thn (hst.run pins s3 σ H3 (fun o H4 => o = some (-1) ∧ H4 = H3) I3 ⟨1, rfl, -1, rfl, rfl, rfl⟩) fun vs s4 ⟨o, H4, I4, ps, eo, e4⟩ => ?_
  subst eo e4
  have I5 : Inv X pins σ H4 { s4 with heap := s4.heap.push { cls := .type "slice", data := .fields #[vl, vu, vs] } } := I4.kept (t' := s4.toks) fun b ob q => Heap.get?_push_of_some _ q
  show wpAny (model X.prog X.w) X.A (subscriptTail e (.Slice none none (some (.UnaryOp .USub (.Constant (.int 1) k p1) p2)) p3) (.ref a) (.ref s4.heap.objs.size)) (EP X pins σ Q) X.xe { s4 with heap := s4.heap.push { cls := .type "slice", data := .fields #[vl, vu, vs] } }
  rcases hx with ⟨hx, q⟩ | ⟨hx, q⟩
  · obtain ⟨its, r, ht, hz⟩ := I5.list hx
    have hlen := r.length
    refine tail_any (ops := [.ref a, .ref s4.heap.objs.size]) ht.isList.typeIs (PySem.slot_list_getitem.lookup) ?_ (by with_unfolding_all rfl)
    refine wpAny_getItem_list_slice ht.isList (Heap.IsSliceOf.new _ vl vu vs) pl pu ps (by decide) ?_ (by rw [List.size_toArray]; omega)
    rw [PySem.W.krv_pick]
    refine ⟨.ref _, _, I5.laid (t' := s4.toks) (o := .lst xs.reverse) (fun b ob q => Heap.get?_push_of_some _ q) (Nat.le_refl _) ?_, rfl, q _ (I5.hok.fresh (Nat.le_refl _))⟩
    exact ⟨by rw [List.length_reverse]; exact hz, _, 0, r.reverse, Heap.get?_push_size _ rfl⟩
  · obtain ⟨its, r, ht, hz⟩ := I5.tuple hx
    have hlen := r.length
    cases pl
    cases pu
    refine tail_any (ops := [.ref a, .ref s4.heap.objs.size]) ht.typeIs (PyProof.Rows.slot_tuple_getitem.lookup) ?_ (by with_unfolding_all rfl)
    refine getItem_tuple_rev ht (Heap.IsSliceOf.new _ .none .none vs) ps ?_ (by rw [List.size_toArray]; omega)
    refine ⟨.ref _, _, I5.laid (t' := s4.toks) (o := .tup xs.reverse) (fun b ob q => Heap.get?_push_of_some _ q) (Nat.le_refl _) ?_, rfl, q _ (I5.hok.fresh (Nat.le_refl _))⟩
    exact ⟨by rw [List.length_reverse]; exact hz, _, r.reverse, IsTup.new _ _⟩
end
end FC

/-! Part 3: each operation on data is what the hand layer's rule says. -/
namespace FC
open PySem PySem.Spec PyProof.Rows L2

def opFresh : Op → Bool
  | .add | .mul | .sl _ _ | .rev | .list | .listR | .listZ | .listR2 | .sorted => true
  | _ => false
def Out (fr : Bool) (K : PySem.W.Frag) (F H : Hp) (d : D) (Q : VK) : Prop := ∀ (v : V) (F' H' : Hp), Ext (fun _ => False) F H F' H' → Same F' H' →
  (if (fr && newObj d) = true then (∃ a, v = V.ref a ∧ H a = none ∧ F' a = none ∧ Ob K F' H' a d) else Rp K F' v d) → Q v H'
def OpRd (K : PySem.W.Frag) (o : Op) (vs : List V) (H : Hp) (Q : VK) : Prop := ∃ (F : Hp) (ds : List D) (d : D), Same F H ∧ TRs K F H vs ds ∧ opD o ds = some d ∧ Out (opFresh o) K F H d Q

section
variable {K : PySem.W.Frag} {F H : Hp} {Q : VK} {fr : Bool} {v : V} {d : D}
theorem none_sub {p : Addr} (sub : Same F H) (hp : H p = none) : F p = none := by
  cases e : F p with
  | none => rfl
  | some u => rw [sub p u e] at hp; cases hp
theorem Out.scal (sub : Same F H) (r : Rp K F v d) (hd : newObj d = false) (o : Out fr K F H d Q) : Q v H := by
  refine o v F H Ext.refl sub ?_
  rw [hd, Bool.and_false, if_neg Bool.false_ne_true]
  exact r
theorem Out.val (sub : Same F H) (r : Rp K F v d) (o : Out false K F H d Q) : Q v H := by
  refine o v F H Ext.refl sub ?_
  rw [Bool.false_and, if_neg Bool.false_ne_true]
  exact r
theorem Out.tup {vs : List V} {ds : List D} {p : Addr} (sub : Same F H) (r : Rps K F vs ds) (hp : H p = none) (o : Out fr K F H (.tuple ds) Q) : Q (.ref p) (upd H p (.tup vs)) := by
  refine o _ (upd F p (.tup vs)) _ (ext_newF sub hp) (same_newF sub) ?_
  rw [show newObj (.tuple ds) = false from rfl, Bool.and_false, if_neg Bool.false_ne_true]
  exact .tup (.inl (.inl upd_same)) (Rps.same (ext_newF sub hp).f r)
theorem Out.lst {vs : List V} {ds : List D} {p : Addr} (sub : Same F H) (r : Rps K F vs ds) (hp : H p = none) (o : Out true K F H (.list ds) Q) : Q (.ref p) (upd H p (.lst vs)) := by
  refine o _ F _ (ext_new hp) (same_new sub hp) ?_
  rw [show (true && newObj (.list ds)) = true from rfl, if_pos rfl]
  exact ⟨p, rfl, hp, none_sub sub hp, vs, upd_same, r⟩
theorem trs1 {x : V} {ds : List D} (h : TRs K F H [x] ds) : ∃ d, ds = [d] ∧ TR K F H x d := by
  cases h with
  | cons h r => cases r; exact ⟨_, rfl, h⟩
theorem trs2 {x y : V} {ds : List D} (h : TRs K F H [x, y] ds) : ∃ d e, ds = [d, e] ∧ TR K F H x d ∧ TR K F H y e := by
  cases h with
  | cons h r => obtain ⟨e, rfl, q⟩ := trs1 r; exact ⟨_, _, rfl, h, q⟩
theorem trs3 {x y z : V} {ds : List D} (h : TRs K F H [x, y, z] ds) : ∃ d e f, ds = [d, e, f] ∧ TR K F H x d ∧ TR K F H y e ∧ TR K F H z f := by
  cases h with
  | cons h r => obtain ⟨e, f, rfl, q, q'⟩ := trs2 r; exact ⟨_, _, _, rfl, h, q, q'⟩
theorem TRs.length {vs : List V} {ds : List D} (h : TRs K F H vs ds) : vs.length = ds.length := by
  induction h with
  | nil => rfl
  | cons _ _ ih => rw [List.length_cons, List.length_cons, ih]
end

section
variable {X : Cx}
theorem OpR.imp {f : Value → Value → Sem Value} {r r0 : R2} (h : OpR X f r0) (i : ∀ x y H Q, r x y H Q → r0 x y H Q) : OpR X f r :=
  fun pins s σ H x y v u Q I rx ry q => h pins s σ H x y v u Q I rx ry (i _ _ _ _ q)
theorem Inv.lstR {pins : List (Addr × Obj)} {σ : L2.St} {H : Hp} {s : Shared} {l : Addr} {xs : List V} (I : Inv X pins σ H s) (hH : Rd H l (.lst xs)) : xs.length ≤ sizeLine ∧ ∃ (its : List Value) (n : Nat), Vals xs its ∧ xs.length = its.length ∧ s.heap.get? l = some { cls := .type "list", data := .seq its.toArray n } := by
  obtain ⟨z, its, n, r, e⟩ := hH.ok I.hok
  exact ⟨z, its, n, r, r.length, e⟩
def rCatR : R2 := fun x y H Q => ∃ l b xs zs, x = .ref l ∧ y = .ref b ∧ Rd H l (.lst xs) ∧ Rd H b (.lst zs) ∧ xs.length + zs.length ≤ sizeLine ∧ ∀ p, H p = none → Q (.ref p) (upd H p (.lst (xs ++ zs)))
theorem op_catR : OpR X (binaryOp .Add) rCatR := by
  intro pins s σ H x y v u Q I rx ry h
  obtain ⟨l, b, xs, zs, rfl, rfl, hH, hB, hz, q⟩ := h
  cases rx
  cases ry
  obtain ⟨z, its, n, r, hl, e⟩ := Inv.lstR I hH
  obtain ⟨z2, its2, n2, r2, hl2, e2⟩ := Inv.lstR I hB
  refine PySem.P.add_list e e2 ?_ (by rw [List.size_toArray, List.size_toArray]; omega)
  have ea : its.toArray ++ its2.toArray = (its ++ its2).toArray := by simp
  rw [ea]
  exact ⟨.ref _, _, I.lnew (t' := s.toks) (r.append r2) (by rw [List.length_append]; omega), rfl, q _ I.fresh⟩
def rRepR : R2 := fun x y H Q => ∃ l k xs, x = .ref l ∧ y = .int k ∧ Rd H l (.lst xs) ∧ -(2 ^ 63) ≤ k ∧ k < 2 ^ 63 ∧ xs.length * k.toNat ≤ sizeLine ∧
  ∀ p, H p = none → Q (.ref p) (upd H p (.lst (List.replicate k.toNat xs).flatten))
theorem op_repR : OpR X (binaryOp .Mult) rRepR := by
  intro pins s σ H x y v u Q I rx ry h
  obtain ⟨l, k, xs, rfl, rfl, hH, h1, h2, hz, q⟩ := h
  cases rx
  obtain ⟨t, rfl⟩ := ry
  obtain ⟨z, its, n, r, hl, e⟩ := Inv.lstR I hH
  have hlen : its.toArray.size * k.toNat ≤ sizeLine := by rw [List.size_toArray, ← hl]; exact hz
  have hcap : ¬ its.toArray.size * k.toNat > (2 ^ 63 - 1) / 8 := by
    have : (sizeLine : Nat) ≤ (2 ^ 63 - 1) / 8 := by decide
    omega
  have hfit : ¬ (!Builtin.List.listFitsIndex k) = true := by
    rw [fitsIndex_both h1 h2]
    exact Bool.false_ne_true
  have hlong : ¬ Builtin.List.listTooLong (its.toArray.size * k.toNat) = true := by
    rw [notLongL hlen]
    exact Bool.false_ne_true
  have hnew : List.foldl (fun x1 x2 => x1 ++ x2) #[] (List.replicate (if its.toArray.isEmpty = true then 0 else k.toNat) its.toArray) = (List.replicate k.toNat its).flatten.toArray := by
    have f0 : ∀ m : Nat, List.foldl (fun x1 x2 => x1 ++ x2) #[] (List.replicate m its.toArray) = (List.replicate m its).flatten.toArray := fun m => by
      have := foldl_rep its m []
      rw [List.nil_append] at this
      exact this
    rw [f0]
    cases its with
    | nil => simp
    | cons a r' => rw [if_neg (by simp)]
  refine wpAny_binaryOp_repeat_ref (T := "list") (U := "int") (by decide) ⟨_, e, rfl⟩ (fun s' => typeIs_int s' k t) noFill_list_mul F.fills_int_mul F.slot_int_rmul repeat_list F.slot_int_index.lookup
    (call_meets F.slot_int_rmul (typeIs_int s k t) F.entry_int_rmul (F.args_int_rmul_2 _ _) (int___rmul___int_list k t l its.toArray n)
      ⟨e, rfl, ⟨_, e, rfl⟩, call_meets F.slot_list_mul ⟨_, e, rfl⟩ F.entry_list_mul (F.args_list_mul_2 _ _) (AutoListH.list___mul___list_int_3 l its.toArray n k t hfit hcap hlong) ⟨e, ?_⟩⟩)
  rw [hnew]
  exact ⟨.ref _, _, I.lnew (t' := s.toks) (r.rep k.toNat) (by rw [PyProof.Rows.lm_len_rep_flat, Nat.mul_comm]; exact hz), rfl, q _ I.fresh⟩

theorem ro_add : OpR X (binaryOp .Add) (fun x y H Q => OpRd X.K .add [x, y] H Q) := by
  refine OpR.imp (((op_add.or op_add_str).or (op_catR.or op_catA))) fun x y H Q h => ?_
  obtain ⟨F, ds, d, sub, trs, hd, out⟩ := h
  obtain ⟨d1, d2, rfl, t1, t2⟩ := trs2 trs
  change opAdd d1 d2 = some d at hd
  unfold opAdd at hd
  split at hd
  · cases hd
    exact .inl (.inl ⟨_, _, t1.int, t2.int, out.scal sub (.int _) rfl⟩)
  · split at hd
    · rename_i h
      cases hd
      exact .inl (.inr ⟨_, _, t1.str, t2.str, h, out.scal sub (.str _) rfl⟩)
    · cases hd
  · split at hd
    · rename_i h
      cases hd
      obtain ⟨a, xs, rfl, h1, r1⟩ := t1.list sub
      obtain ⟨b, ys, rfl, h2, r2⟩ := t2.list sub
      exact .inr (.inl ⟨a, b, xs, ys, rfl, rfl, h1, h2, by rw [r1.length, r2.length]; exact h, fun p hp => out.lst sub (r1.append r2) hp⟩)
    · cases hd
  · split at hd
    · rename_i h
      cases hd
      obtain ⟨a, xs, rfl, h1, f1, r1⟩ := t1.tuple sub
      obtain ⟨b, ys, rfl, h2, f2, r2⟩ := t2.tuple sub
      refine .inr (.inr ⟨a, b, xs, ys, rfl, rfl, h1, h2, by rw [r1.length, r2.length]; exact h, fun e => ?_, fun _ e => ?_, fun _ _ p hp => out.tup sub (r1.append r2) hp⟩)
      · subst e
        cases r1
        exact out.scal sub (.tup f2 r2) rfl
      · subst e
        cases r2
        refine out.scal sub (.tup f1 ?_) rfl
        rw [List.append_nil]
        exact r1
    · cases hd
  · cases hd
theorem ro_sub : OpR X (binaryOp .Sub) (fun x y H Q => OpRd X.K .sub [x, y] H Q) := by
  refine OpR.imp op_sub fun x y H Q h => ?_
  obtain ⟨F, ds, d, sub, trs, hd, out⟩ := h
  obtain ⟨d1, d2, rfl, t1, t2⟩ := trs2 trs
  change opSub d1 d2 = some d at hd
  cases d1 <;> cases d2 <;> simp only [opSub] at hd <;> first | cases hd | skip
  exact ⟨_, _, t1.int, t2.int, out.scal sub (.int _) rfl⟩
theorem flat_nil {α : Type} : ∀ n : Nat, (List.replicate n ([] : List α)).flatten = []
  | 0 => rfl
  | n + 1 => by rw [List.replicate_succ, List.flatten_cons, flat_nil n]; rfl
theorem ro_mul : OpR X (binaryOp .Mult) (fun x y H Q => OpRd X.K .mul [x, y] H Q) := by
  refine OpR.imp ((op_mul.or op_mulW).or (op_repR.or op_repA)) fun x y H Q h => ?_
  obtain ⟨F, ds, d, sub, trs, hd, out⟩ := h
  obtain ⟨d1, d2, rfl, t1, t2⟩ := trs2 trs
  change opMul d1 d2 = some d at hd
  unfold opMul at hd
  split at hd
  · split at hd
    · rename_i i j hm
      cases hd
      unfold mulOk at hm
      simp only [Bool.or_eq_true, Bool.and_eq_true, decide_eq_true_eq] at hm
      rcases hm with hm | hm
      · exact .inl (.inl ⟨_, _, t1.int, t2.int, (by rcases hm with hm | hm; exact .inl (by omega); exact .inr (by omega)), out.scal sub (.int _) rfl⟩)
      · exact .inl (.inr ⟨_, _, t1.int, t2.int, hm, out.scal sub (.int _) rfl⟩)
    · cases hd
  · split at hd
    · rename_i xs k hk
      cases hd
      simp only [Bool.and_eq_true, decide_eq_true_eq, smallI] at hk
      obtain ⟨a, vs, rfl, h1, r1⟩ := t1.list sub
      exact .inr (.inl ⟨a, k, vs, rfl, t2.int, h1, by omega, by omega, by rw [r1.length]; exact hk.2, fun p hp => out.lst sub (r1.rep _) hp⟩)
    · cases hd
  · split at hd
    · rename_i xs k hk
      cases hd
      simp only [Bool.and_eq_true, decide_eq_true_eq] at hk
      obtain ⟨a, vs, rfl, h1, f1, r1⟩ := t1.tuple sub
      refine .inr (.inr ⟨a, k, vs, rfl, t2.int, h1, hk.1.2, hk.1.1, by rw [r1.length]; exact hk.2, fun e => ?_, fun _ p hp => out.tup sub (r1.rep _) hp⟩)
      have e2 : (List.replicate k.toNat xs).flatten = xs := by
        rcases e with rfl | rfl
        · cases r1
          exact flat_nil _
        · show (List.replicate 1 xs).flatten = xs
          simp
      rw [e2] at out
      exact out.scal sub (.tup f1 r1) rfl
    · cases hd
  · cases hd
theorem ro_fdiv : OpR X (binaryOp .FloorDiv) (fun x y H Q => OpRd X.K .fdiv [x, y] H Q) := by
  refine OpR.imp op_fdivW fun x y H Q h => ?_
  obtain ⟨F, ds, d, sub, trs, hd, out⟩ := h
  obtain ⟨d1, d2, rfl, t1, t2⟩ := trs2 trs
  change opFdiv d1 d2 = some d at hd
  cases d1 <;> cases d2 <;> simp only [opFdiv] at hd <;> first | cases hd | skip
  split at hd
  · rename_i hk
    cases hd
    simp only [Bool.and_eq_true, decide_eq_true_eq] at hk
    exact ⟨_, _, t1.int, t2.int, hk, out.scal sub (.int _) rfl⟩
  · cases hd
theorem ro_mod : OpR X (binaryOp .Mod) (fun x y H Q => OpRd X.K .mod [x, y] H Q) := by
  refine OpR.imp op_mod fun x y H Q h => ?_
  obtain ⟨F, ds, d, sub, trs, hd, out⟩ := h
  obtain ⟨d1, d2, rfl, t1, t2⟩ := trs2 trs
  change opMod d1 d2 = some d at hd
  cases d1 <;> cases d2 <;> simp only [opMod] at hd <;> first | cases hd | skip
  split at hd
  · rename_i hk
    cases hd
    simp only [decide_eq_true_eq] at hk
    exact ⟨_, _, t1.int, t2.int, hk, out.scal sub (.int _) rfl⟩
  · cases hd
theorem ro_pow : OpR X (binaryOp .Pow) (fun x y H Q => OpRd X.K .pow [x, y] H Q) := by
  refine OpR.imp op_pow fun x y H Q h => ?_
  obtain ⟨F, ds, d, sub, trs, hd, out⟩ := h
  obtain ⟨d1, d2, rfl, t1, t2⟩ := trs2 trs
  change opPow d1 d2 = some d at hd
  cases d1 <;> cases d2 <;> simp only [opPow] at hd <;> first | cases hd | skip
  split at hd
  · rename_i hk
    cases hd
    simp only [Bool.and_eq_true, decide_eq_true_eq] at hk
    exact ⟨_, _, t1.int, t2.int, ⟨hk.1.1, hk.1.2, hk.2⟩, out.scal sub (.int _) rfl⟩
  · cases hd
theorem ro_eq (hu : X.A.units + 64 < cLine) : OpR X (compareOp .Eq) (fun x y H Q => OpRd X.K .eq [x, y] H Q) := by
  refine OpR.imp (op_eqD hu) fun x y H Q h => ?_
  obtain ⟨F, ds, d, sub, trs, hd, out⟩ := h
  obtain ⟨d1, d2, rfl, t1, t2⟩ := trs2 trs
  change (if (sh d1 && sh d2) = true then some (.bool (PyData.eqv d1 d2)) else none) = some d at hd
  split at hd
  · rename_i hk
    cases hd
    simp only [sh, Bool.and_eq_true] at hk
    exact ⟨d1, d2, t1.dp sub (SeqAt.canLay_of_shaped hk.1), t2.dp sub (SeqAt.canLay_of_shaped hk.2), hk.1, hk.2, out.scal sub (.bl _) rfl⟩
  · cases hd
theorem ro_ne (hu : X.A.units + 64 < cLine) : OpR X (compareOp .NotEq) (fun x y H Q => OpRd X.K .ne [x, y] H Q) := by
  refine OpR.imp (op_neD hu) fun x y H Q h => ?_
  obtain ⟨F, ds, d, sub, trs, hd, out⟩ := h
  obtain ⟨d1, d2, rfl, t1, t2⟩ := trs2 trs
  change (if (sh d1 && sh d2) = true then some (.bool (!PyData.eqv d1 d2)) else none) = some d at hd
  split at hd
  · rename_i hk
    cases hd
    simp only [sh, Bool.and_eq_true] at hk
    exact ⟨d1, d2, t1.dp sub (SeqAt.canLay_of_shaped hk.1), t2.dp sub (SeqAt.canLay_of_shaped hk.2), hk.1, hk.2, out.scal sub (.bl _) rfl⟩
  · cases hd
theorem ro_lt : OpR X (compareOp .Lt) (fun x y H Q => OpRd X.K .lt [x, y] H Q) := by
  refine OpR.imp (op_lt.or op_lt_str) fun x y H Q h => ?_
  obtain ⟨F, ds, d, sub, trs, hd, out⟩ := h
  obtain ⟨d1, d2, rfl, t1, t2⟩ := trs2 trs
  change opLt d1 d2 = some d at hd
  cases d1 <;> cases d2 <;> simp only [opLt] at hd <;> first | cases hd | skip
  · exact .inl ⟨_, _, t1.int, t2.int, out.scal sub (.bl _) rfl⟩
  · exact .inr ⟨_, _, t1.str, t2.str, out.scal sub (.bl _) rfl⟩
theorem ro_le : OpR X (compareOp .LtE) (fun x y H Q => OpRd X.K .le [x, y] H Q) := by
  refine OpR.imp op_le fun x y H Q h => ?_
  obtain ⟨F, ds, d, sub, trs, hd, out⟩ := h
  obtain ⟨d1, d2, rfl, t1, t2⟩ := trs2 trs
  change opLe d1 d2 = some d at hd
  cases d1 <;> cases d2 <;> simp only [opLe] at hd <;> first | cases hd | skip
  exact ⟨_, _, t1.int, t2.int, out.scal sub (.bl _) rfl⟩
theorem ro_gt : OpR X (compareOp .Gt) (fun x y H Q => OpRd X.K .gt [x, y] H Q) := by
  refine OpR.imp op_gt fun x y H Q h => ?_
  obtain ⟨F, ds, d, sub, trs, hd, out⟩ := h
  obtain ⟨d1, d2, rfl, t1, t2⟩ := trs2 trs
  cases d1 <;> cases d2 <;> simp only [opD, op2] at hd <;> first | cases hd | skip
  exact ⟨_, _, t1.int, t2.int, out.scal sub (.bl _) rfl⟩
theorem ro_ge : OpR X (compareOp .GtE) (fun x y H Q => OpRd X.K .ge [x, y] H Q) := by
  refine OpR.imp op_ge fun x y H Q h => ?_
  obtain ⟨F, ds, d, sub, trs, hd, out⟩ := h
  obtain ⟨d1, d2, rfl, t1, t2⟩ := trs2 trs
  cases d1 <;> cases d2 <;> simp only [opD, op2] at hd <;> first | cases hd | skip
  exact ⟨_, _, t1.int, t2.int, out.scal sub (.bl _) rfl⟩
/-! ### dicts -/
theorem keyOf_ofKey (k : Key) : keyOf (ofKey k) = some k := by cases k <;> rfl
theorem key_tr {F H : Hp} {K : PySem.W.Frag} {x : V} {d : D} {k : Key} (t : TR K F H x d) (h : keyOf d = some k) : x = kV k := by
  cases d with
  | int i => cases h; exact t.int
  | str z => cases h; exact t.str
  | _ => cases h
theorem rpk_look {K : PySem.W.Frag} {F : Hp} {kd : D} {k : Key} (hk : keyOf kd = some k) : ∀ {kvs : List (Key × V)} {ds : List (D × D)}, Rpk K F kvs ds →
    (∀ d, lookD kd ds = some d → ∃ v, valV kvs k = some v ∧ Rp K F v d) ∧ (lookD kd ds = none → valV kvs k = none)
  | _, _, .nil => ⟨fun d h => (by cases h), fun _ => rfl⟩
  | _, _, .cons (k := k0) (v := v0) (vs := vs0) (ds := ds0) h r => by
    have ih := rpk_look hk r
    unfold lookD
    rw [keyOf_ofKey, hk]
    by_cases e : k0 = k
    · simp only [if_pos e]
      rw [valV_pos (p := (k0, v0)) e]
      exact ⟨fun d q => ⟨v0, rfl, by cases q; exact h⟩, fun q => (by cases q)⟩
    · simp only [if_neg e]
      rw [valV_neg (p := (k0, v0)) e]
      exact ih
theorem rpk_any {K : PySem.W.Frag} {F : Hp} {k : Key} : ∀ {kvs : List (Key × V)} {ds : List (D × D)}, Rpk K F kvs ds → (kvs.any fun kv => decide (kv.1 = k)) = (ds.any fun kv => decide (keyOf kv.1 = some k))
  | _, _, .nil => rfl
  | _, _, .cons (k := k0) h r => by
    rw [List.any_cons, List.any_cons, rpk_any r, keyOf_ofKey]
    simp
theorem rpk_app {K : PySem.W.Frag} {F : Hp} : ∀ {kvs kvs' : List (Key × V)} {ds ds' : List (D × D)}, Rpk K F kvs ds → Rpk K F kvs' ds' → Rpk K F (kvs ++ kvs') (ds ++ ds')
  | _, _, _, _, .nil, s => s
  | _, _, _, _, .cons h r, s => .cons h (rpk_app r s)
theorem rpk_upd {K : PySem.W.Frag} {F : Hp} {k : Key} {v : V} {d : D} (w : Rp K F v d) : ∀ {kvs : List (Key × V)} {ds : List (D × D)}, Rpk K F kvs ds →
    Rpk K F (kvs.map fun kv => if kv.1 = k then (kv.1, v) else kv) (ds.map fun kv => if keyOf kv.1 = some k then (kv.1, d) else kv)
  | _, _, .nil => .nil
  | _, _, .cons (k := k0) (v := v0) (d := d0) h r => by
    rw [List.map_cons, List.map_cons]
    have ih := rpk_upd (k := k) w r
    by_cases e : k0 = k
    · have e2 : keyOf (ofKey k0) = some k := by rw [keyOf_ofKey, e]
      simp only [if_pos e, if_pos e2]
      exact .cons w ih
    · have e2 : ¬ keyOf (ofKey k0) = some k := by rw [keyOf_ofKey]; intro z; cases z; exact e rfl
      simp only [if_neg e, if_neg e2]
      exact .cons h ih
theorem rpk_put {K : PySem.W.Frag} {F : Hp} {k : Key} {v : V} {d : D} {kvs : List (Key × V)} {ds : List (D × D)} (r : Rpk K F kvs ds) (w : Rp K F v d) : Rpk K F (putK kvs k v) (putD ds k d) := by
  unfold putK putD
  rw [rpk_any r]
  split
  · exact rpk_upd w r
  · exact rpk_app r (.cons w .nil)
theorem TR.dict {K : PySem.W.Frag} {F H : Hp} {v : V} {ds : List (D × D)} (s : Same F H) (h : TR K F H v (.dict ds)) : ∃ a vs, v = .ref a ∧ Rd H a (.dK vs) ∧ Rpk K F vs ds := by
  rcases h with h | ⟨a, rfl, vs, e, r⟩
  · cases h with
    | dct h r => exact ⟨_, _, rfl, .inr ⟨_, s _ _ h⟩, r⟩
  · exact ⟨a, vs, rfl, .inl e, r⟩
def rInK : R2 := fun x y H Q => ∃ a o, y = .ref a ∧ DGet H a x o ∧ Q (.bl o.isSome) H
def rNotInK : R2 := fun x y H Q => ∃ a o, y = .ref a ∧ DGet H a x o ∧ Q (.bl (!o.isSome)) H
theorem op_in_dK (hu : X.A.units + 65 < cLine) : OpR X (compareOp .In) rInK := by
  intro pins s σ H x y v u Q I rx ry h
  obtain ⟨a, o, rfl, g, q⟩ := h
  cases ry
  exact d_in (by omega) I g rx fun s' I' => ⟨.bl _, H, I', rfl, q⟩
theorem op_notIn_dK (hu : X.A.units + 65 < cLine) : OpR X (compareOp .NotIn) rNotInK := by
  intro pins s σ H x y v u Q I rx ry h
  obtain ⟨a, o, rfl, g, q⟩ := h
  cases ry
  exact d_notIn (by omega) I g rx fun s' I' => ⟨.bl _, H, I', rfl, q⟩
def rInT (K : PySem.W.Frag) : R2 := fun x y H Q => ∃ d ds, Dp K H x d ∧ Dp K H y (.tuple ds) ∧ SeqAt.shaped d = true ∧ SeqAt.shaped (.tuple ds) = true ∧ Q (.bl (ds.any fun z => PyData.eqv z d)) H
def rNotInT (K : PySem.W.Frag) : R2 := fun x y H Q => ∃ d ds, Dp K H x d ∧ Dp K H y (.tuple ds) ∧ SeqAt.shaped d = true ∧ SeqAt.shaped (.tuple ds) = true ∧ Q (.bl (!ds.any fun z => PyData.eqv z d)) H
theorem op_in_T (hu : X.A.units + 65 < cLine) : OpR X (compareOp .In) (rInT X.K) := by
  intro pins s σ H x y v u Q I rx ry h
  obtain ⟨d, ds, hd, he, sd, se, q⟩ := h
  obtain ⟨as, r1⟩ := Dp.reads I d x v hd rx
  obtain ⟨bs, r2⟩ := Dp.reads I (.tuple ds) y u he ry
  exact SeqAt.in_tuple_reads r2 r1 (SeqAt.canLay_of_shaped se) (SeqAt.canLay_of_shaped sd) (room_in_shaped sd hu) ⟨.bl _, H, I, rfl, q⟩
theorem op_notIn_T (hu : X.A.units + 65 < cLine) : OpR X (compareOp .NotIn) (rNotInT X.K) := by
  intro pins s σ H x y v u Q I rx ry h
  obtain ⟨d, ds, hd, he, sd, se, q⟩ := h
  obtain ⟨as, r1⟩ := Dp.reads I d x v hd rx
  obtain ⟨bs, r2⟩ := Dp.reads I (.tuple ds) y u he ry
  exact SeqAt.notIn_tuple_reads r2 r1 (SeqAt.canLay_of_shaped se) (SeqAt.canLay_of_shaped sd) (room_in_shaped sd hu) ⟨.bl _, H, I, rfl, q⟩
theorem ro_in (hu : X.A.units + 65 < cLine) : OpR X (compareOp .In) (fun x y H Q => OpRd X.K .inn [x, y] H Q) := by
  refine OpR.imp (((op_inD hu).or op_in_str).or ((op_in_T hu).or (op_in_dK hu))) fun x y H Q h => ?_
  obtain ⟨F, ds, d, sub, trs, hd, out⟩ := h
  obtain ⟨d1, d2, rfl, t1, t2⟩ := trs2 trs
  change (match opIn d1 d2 with | some k => some (.bool (k)) | none => none) = some d at hd
  cases hk : opIn d1 d2 with
  | none => rw [hk] at hd; cases hd
  | some k =>
  rw [hk] at hd
  cases hd
  unfold opIn at hk
  split at hk
  · split at hk
    · rename_i ds hs
      cases hk
      simp only [sh, Bool.and_eq_true] at hs
      exact .inl (.inl ⟨d1, ds, t1.dp sub (SeqAt.canLay_of_shaped hs.1), t2.dp sub (SeqAt.canLay_of_shaped hs.2), hs.1, hs.2, out.scal sub (.bl _) rfl⟩)
    · cases hk
  · split at hk
    · cases hk
      exact .inl (.inr ⟨_, _, t1.str, t2.str, out.scal sub (.bl _) rfl⟩)
    · cases hk
  · split at hk
    · rename_i ds hs
      cases hk
      simp only [sh, Bool.and_eq_true] at hs
      exact .inr (.inl ⟨d1, ds, t1.dp sub (SeqAt.canLay_of_shaped hs.1), t2.dp sub (SeqAt.canLay_of_shaped hs.2), hs.1, hs.2, out.scal sub (.bl _) rfl⟩)
    · cases hk
  · split at hk
    · rename_i k0 hk0
      cases hk
      obtain ⟨a, vs, rfl, h1, r1⟩ := t2.dict sub
      have ex := key_tr t1 hk0
      have lk := rpk_look hk0 r1
      refine .inr (.inr ⟨a, valV vs k0, rfl, .inl ⟨vs, k0, h1, ex, rfl⟩, ?_⟩)
      cases hl : lookD d1 _ with
      | none =>
        rw [lk.2 hl]
        rw [hl] at out
        exact out.scal sub (.bl _) rfl
      | some d' =>
        obtain ⟨v', e1, _⟩ := lk.1 d' hl
        rw [e1]
        rw [hl] at out
        exact out.scal sub (.bl _) rfl
    · cases hk
  · cases hk
theorem ro_notin (hu : X.A.units + 65 < cLine) : OpR X (compareOp .NotIn) (fun x y H Q => OpRd X.K .notin [x, y] H Q) := by
  refine OpR.imp (((op_notInD hu).or op_notIn_str).or ((op_notIn_T hu).or (op_notIn_dK hu))) fun x y H Q h => ?_
  obtain ⟨F, ds, d, sub, trs, hd, out⟩ := h
  obtain ⟨d1, d2, rfl, t1, t2⟩ := trs2 trs
  change (match opIn d1 d2 with | some k => some (.bool (!k)) | none => none) = some d at hd
  cases hk : opIn d1 d2 with
  | none => rw [hk] at hd; cases hd
  | some k =>
  rw [hk] at hd
  cases hd
  unfold opIn at hk
  split at hk
  · split at hk
    · rename_i ds hs
      cases hk
      simp only [sh, Bool.and_eq_true] at hs
      exact .inl (.inl ⟨d1, ds, t1.dp sub (SeqAt.canLay_of_shaped hs.1), t2.dp sub (SeqAt.canLay_of_shaped hs.2), hs.1, hs.2, out.scal sub (.bl _) rfl⟩)
    · cases hk
  · split at hk
    · cases hk
      exact .inl (.inr ⟨_, _, t1.str, t2.str, out.scal sub (.bl _) rfl⟩)
    · cases hk
  · split at hk
    · rename_i ds hs
      cases hk
      simp only [sh, Bool.and_eq_true] at hs
      exact .inr (.inl ⟨d1, ds, t1.dp sub (SeqAt.canLay_of_shaped hs.1), t2.dp sub (SeqAt.canLay_of_shaped hs.2), hs.1, hs.2, out.scal sub (.bl _) rfl⟩)
    · cases hk
  · split at hk
    · rename_i k0 hk0
      cases hk
      obtain ⟨a, vs, rfl, h1, r1⟩ := t2.dict sub
      have ex := key_tr t1 hk0
      have lk := rpk_look hk0 r1
      refine .inr (.inr ⟨a, valV vs k0, rfl, .inl ⟨vs, k0, h1, ex, rfl⟩, ?_⟩)
      cases hl : lookD d1 _ with
      | none =>
        rw [lk.2 hl]
        rw [hl] at out
        exact out.scal sub (.bl _) rfl
      | some d' =>
        obtain ⟨v', e1, _⟩ := lk.1 d' hl
        rw [e1]
        rw [hl] at out
        exact out.scal sub (.bl _) rfl
    · cases hk
  · cases hk

/-! ### one operand -/
theorem ro_neg : UnR X (unaryOp .USub) (fun x H Q => OpRd X.K .neg [x] H Q) := by
  intro pins s σ H x v Q I rx h
  refine un_neg pins s σ H x v Q I rx ?_
  obtain ⟨F, ds, d, sub, trs, hd, out⟩ := h
  obtain ⟨d1, rfl, t1⟩ := trs1 trs
  change opNeg d1 = some d at hd
  cases d1 <;> simp only [opNeg] at hd <;> first | cases hd | skip
  exact ⟨_, t1.int, out.scal sub (.int _) rfl⟩
theorem isN_of {F H : Hp} {x : V} {d : D} (t : TR X.K F H x d) : decide (x = .non) = isNone d := by
  rcases t with t | ⟨a, rfl, t⟩
  · cases t <;> simp [isNone]
  · cases d <;> first | exact t.elim | simp [isNone]
theorem ro_isN {H : Hp} {x : V} {Q : VK} (h : OpRd X.K .isN [x] H Q) : Q (.bl (decide (x = .non))) H := by
  obtain ⟨F, ds, d, sub, trs, hd, out⟩ := h
  obtain ⟨d1, rfl, t1⟩ := trs1 trs
  change some (.bool (isNone d1)) = some d at hd
  cases hd
  rw [isN_of t1]
  exact out.scal sub (.bl _) rfl
theorem ro_notN {H : Hp} {x : V} {Q : VK} (h : OpRd X.K .notN [x] H Q) : Q (.bl (!decide (x = .non))) H := by
  obtain ⟨F, ds, d, sub, trs, hd, out⟩ := h
  obtain ⟨d1, rfl, t1⟩ := trs1 trs
  change some (.bool (!isNone d1)) = some d at hd
  cases hd
  rw [isN_of t1]
  exact out.scal sub (.bl _) rfl
theorem ro_isB {b : Bool} {H : Hp} {x : V} {Q : VK} (h : OpRd X.K (.isB b) [x] H Q) : ∃ a, x = .bl a ∧ Q (.bl (decide (a = b))) H := by
  obtain ⟨F, ds, d, sub, trs, hd, out⟩ := h
  obtain ⟨d1, rfl, t1⟩ := trs1 trs
  change opIsB b d1 = some d at hd
  cases d1 <;> simp only [opIsB] at hd <;> first | cases hd | skip
  exact ⟨_, t1.bl, out.scal sub (.bl _) rfl⟩
theorem ro_notB {b : Bool} {H : Hp} {x : V} {Q : VK} (h : OpRd X.K (.notB b) [x] H Q) : ∃ a, x = .bl a ∧ Q (.bl (!decide (a = b))) H := by
  obtain ⟨F, ds, d, sub, trs, hd, out⟩ := h
  obtain ⟨d1, rfl, t1⟩ := trs1 trs
  change opNotB b d1 = some d at hd
  cases d1 <;> simp only [opNotB] at hd <;> first | cases hd | skip
  exact ⟨_, t1.bl, out.scal sub (.bl _) rfl⟩

/-! ### items and slices -/
theorem atI_rps {K : PySem.W.Frag} {F : Hp} {vs : List V} {ds : List D} {i : Int} {d : D} (r : Rps K F vs ds) (h : atI ds i = some d) : ∃ v, atI vs i = some v ∧ Rp K F v d := by
  unfold atI at h ⊢
  rw [r.length]
  cases e : ixN ds.length i with
  | none => rw [e] at h; cases h
  | some j =>
    rw [e] at h
    exact r.get h
def rIxK : R2 := fun x y H Q => ∃ a v, x = .ref a ∧ DGet H a y (some v) ∧ Q v H
theorem ix_dK (hu : X.A.units + 65 < cLine) : IxR X rIxK := by
  intro va sl pins s σ H x y v u Q I rx ry h hs
  obtain ⟨p, r, rfl, g, q⟩ := h
  obtain rfl : v = Value.ref p := rx
  refine tail_any (dict_typeIs I g) slot_dict_getitem.lookup (d_getItem (by show X.A.units + 1 < cLine; omega) I g ry fun w' s' I' rw' => ⟨r, H, I', rw', q⟩) hs
theorem ro_ix (hu : X.A.units + 65 < cLine) : IxR X (fun x y H Q => OpRd X.K .ix [x, y] H Q) := by
  intro va sl pins s σ H x y v u Q I rx ry h
  refine (ix_seq.or (ix_dK hu)) va sl pins s σ H x y v u Q I rx ry ?_
  obtain ⟨F, ds, d, sub, trs, hd, out⟩ := h
  obtain ⟨d1, d2, rfl, t1, t2⟩ := trs2 trs
  change opIx d1 d2 = some d at hd
  unfold opIx at hd
  split at hd
  · obtain ⟨a, vs, rfl, h1, r1⟩ := t1.list sub
    obtain ⟨w, hw, rw'⟩ := atI_rps r1 hd
    exact .inl (.inl ⟨a, vs, _, w, rfl, t2.int, .inl h1, hw, out.val sub rw'⟩)
  · obtain ⟨a, vs, rfl, h1, f1, r1⟩ := t1.tuple sub
    obtain ⟨w, hw, rw'⟩ := atI_rps r1 hd
    exact .inl (.inr (.inl ⟨a, vs, _, w, rfl, t2.int, h1, hw, out.val sub rw'⟩))
  · split at hd
    · rename_i hz
      simp only [Option.map_eq_some_iff] at hd
      obtain ⟨c, hc, rfl⟩ := hd
      exact .inl (.inr (.inr ⟨_, _, c, t1.str, t2.int, hz, hc, out.scal sub (.str _) rfl⟩))
    · cases hd
  · split at hd
    · rename_i k0 hk0
      obtain ⟨a, vs, rfl, h1, r1⟩ := t1.dict sub
      obtain ⟨v', e1, w1⟩ := (rpk_look hk0 r1).1 d hd
      exact .inr ⟨a, v', rfl, .inl ⟨vs, k0, h1, key_tr t2 hk0, e1.symm⟩, out.val sub w1⟩
    · cases hd
  · cases hd
def rSlAll (K : PySem.W.Frag) : V → Option Int → Option Int → Hp → VK → Prop := fun x lo hi H Q => ((∃ a xs, x = .ref a ∧ SqL K H a xs ∧ ∀ p, H p = none → Q (.ref p) (upd H p (.lst (cutV xs lo hi)))) ∨ rSlA K x lo hi H Q) ∨ rSlS x lo hi H Q
theorem sl_out {K : PySem.W.Frag} {F H : Hp} {x : V} {lo hi : Option Int} {d1 d : D} {Q : VK} (sub : Same F H) (t1 : TR K F H x d1) (hd : opSl lo hi d1 = some d) (out : Out true K F H d Q) : rSlAll K x lo hi H Q := by
  unfold opSl at hd
  split at hd
  · cases hd
    obtain ⟨a, vs, rfl, h1, r1⟩ := t1.list sub
    exact .inl (.inl ⟨a, vs, rfl, .inl h1, fun p hp => out.lst sub (cutD_rps r1 lo hi) hp⟩)
  · cases hd
    obtain ⟨a, vs, rfl, h1, f1, r1⟩ := t1.tuple sub
    refine .inl (.inr ⟨a, vs, rfl, h1, fun e => ?_, fun _ p hp => out.tup sub (cutD_rps r1 lo hi) hp⟩)
    refine out.scal sub (.tup f1 ?_) rfl
    have e2 : cutV vs lo hi = vs := by
      unfold cutV
      rw [e.1, e.2, List.drop_zero, Nat.sub_zero, List.take_length]
    have := cutD_rps r1 lo hi
    rw [e2] at this
    exact this
  · split at hd
    · rename_i z hz
      cases hd
      exact .inr ⟨z, t1.str, hz, out.scal sub (.str _) rfl⟩
    · cases hd
  · cases hd
theorem sl_both : SlR X (rSlAll X.K) := (sl_list.or sl_tupA).or sl_str

/-! ### built-ins -/
theorem CallR.imp {f : Value} {r r0 : List V → Hp → VK → Prop} (h : CallR X f r0) (i : ∀ vs H Q, r vs H Q → r0 vs H Q) : CallR X f r :=
  fun pins s σ H xs us Q I rx q => h pins s σ H xs us Q I rx (i _ _ _ q)
theorem CallR.or {f : Value} {r r' : List V → Hp → VK → Prop} (h : CallR X f r) (h' : CallR X f r') : CallR X f (fun vs H Q => r vs H Q ∨ r' vs H Q) :=
  fun pins s σ H xs us Q I rx q => q.elim (h pins s σ H xs us Q I rx) (h' pins s σ H xs us Q I rx)
theorem one_of {K : PySem.W.Frag} {F H : Hp} {vs : List V} {d : D} (h : TRs K F H vs [d]) : ∃ x, vs = [x] ∧ TR K F H x d := by
  cases h with
  | cons h r => cases r; exact ⟨_, rfl, h⟩
theorem two_of {K : PySem.W.Frag} {F H : Hp} {vs : List V} {d e : D} (h : TRs K F H vs [d, e]) : ∃ x y, vs = [x, y] ∧ TR K F H x d ∧ TR K F H y e := by
  cases h with
  | cons h r => obtain ⟨y, rfl, q⟩ := one_of r; exact ⟨_, _, rfl, h, q⟩
theorem op_one {o : Op} {ds : List D} {d : D} (h : opD o ds = some d) (h2 : ∀ a b, op2 o a b = none) (h3 : ∀ a b c, op3 o a b c = none) : ∃ a, ds = [a] ∧ op1 o a = some d := by
  match ds, h with
  | [a], h => exact ⟨a, rfl, h⟩
  | [a, b], h => rw [show opD o [a, b] = op2 o a b from rfl, h2] at h; cases h
  | [a, b, c], h => rw [show opD o [a, b, c] = op3 o a b c from rfl, h3] at h; cases h
theorem op_two {o : Op} {ds : List D} {d : D} (h : opD o ds = some d) (h1 : ∀ a, op1 o a = none) (h3 : ∀ a b c, op3 o a b c = none) : ∃ a b, ds = [a, b] ∧ op2 o a b = some d := by
  match ds, h with
  | [a], h => rw [show opD o [a] = op1 o a from rfl, h1] at h; cases h
  | [a, b], h => exact ⟨a, b, rfl, h⟩
  | [a, b, c], h => rw [show opD o [a, b, c] = op3 o a b c from rfl, h3] at h; cases h
theorem call_len_dK (X : Cx) : CallR X (.builtin "len") (fun xs H Q => ∃ p kvs, xs = [.ref p] ∧ Rd H p (.dK kvs) ∧ Q (.int kvs.length) H) := by
  intro pins s σ H xs us Q I r h
  obtain ⟨a, kvs, rfl, ha, q⟩ := h
  obtain ⟨u, rfl, ru⟩ := vals1 r
  cases ru
  exact d_len I ha fun t s' I' => ⟨.int kvs.length, H, I', ⟨t, rfl⟩, q⟩
theorem Rpk.length {K : PySem.W.Frag} {F : Hp} : ∀ {v : List (Key × V)} {d : List (D × D)}, Rpk K F v d → v.length = d.length
  | _, _, .nil => rfl
  | _, _, .cons _ r => by rw [List.length_cons, List.length_cons, Rpk.length r]
theorem ro_len : CallR X (.builtin "len") (fun vs H Q => OpRd X.K .len vs H Q) := by
  refine CallR.imp ((call_len_seq.or call_len_str).or (call_len_dK X)) fun vs H Q h => ?_
  obtain ⟨F, ds, d, sub, trs, hd, out⟩ := h
  obtain ⟨a, rfl, hd⟩ := op_one hd (fun _ _ => rfl) (fun _ _ _ => rfl)
  obtain ⟨x, rfl, t⟩ := one_of trs
  change opLen a = some d at hd
  unfold opLen at hd
  split at hd
  · cases hd
    obtain ⟨a, vs, rfl, h1, r1⟩ := t.list sub
    refine .inl (.inl ⟨a, vs, rfl, .inl (.inl h1), ?_⟩)
    rw [r1.length]
    exact out.scal sub (.int _) rfl
  · cases hd
    obtain ⟨a, vs, rfl, h1, f1, r1⟩ := t.tuple sub
    refine .inl (.inl ⟨a, vs, rfl, .inr h1, ?_⟩)
    rw [r1.length]
    exact out.scal sub (.int _) rfl
  · split at hd
    · rename_i hz
      cases hd
      exact .inl (.inr ⟨_, by rw [t.str], hz, out.scal sub (.int _) rfl⟩)
    · cases hd
  · cases hd
    obtain ⟨a, vs, rfl, h1, r1⟩ := t.dict sub
    refine .inr ⟨a, vs, rfl, h1, ?_⟩
    rw [r1.length]
    exact out.scal sub (.int _) rfl
  · cases hd
theorem ro_abs : CallR X (.builtin "abs") (fun vs H Q => OpRd X.K .abs vs H Q) := by
  refine CallR.imp call_abs fun vs H Q h => ?_
  obtain ⟨F, ds, d, sub, trs, hd, out⟩ := h
  obtain ⟨a, rfl, hd⟩ := op_one hd (fun _ _ => rfl) (fun _ _ _ => rfl)
  obtain ⟨x, rfl, t⟩ := one_of trs
  change opAbs a = some d at hd
  cases a <;> simp only [opAbs] at hd <;> first | cases hd | skip
  exact ⟨_, by rw [t.int], out.scal sub (.int _) rfl⟩
theorem ro_int : CallR X (.type "int") (fun vs H Q => OpRd X.K .int vs H Q) := by
  refine CallR.imp call_int1 fun vs H Q h => ?_
  obtain ⟨F, ds, d, sub, trs, hd, out⟩ := h
  obtain ⟨a, rfl, hd⟩ := op_one hd (fun _ _ => rfl) (fun _ _ _ => rfl)
  obtain ⟨x, rfl, t⟩ := one_of trs
  change opInt a = some d at hd
  cases a <;> simp only [opInt] at hd <;> first | cases hd | skip
  · exact .inr ⟨_, by rw [t.bl], out.scal sub (.int _) rfl⟩
  · exact .inl ⟨_, by rw [t.int], out.scal sub (.int _) rfl⟩
theorem rpk_keys {K : PySem.W.Frag} {F : Hp} : ∀ {v : List (Key × V)} {d : List (D × D)}, Rpk K F v d → Rps K F (v.map fun kv => kV kv.1) (d.map (·.1))
  | _, _, .nil => .nil
  | _, _, .cons (k := k) _ r => by
    refine .cons ?_ (rpk_keys r)
    cases k with
    | inl i => exact .int i
    | inr x => exact .str x
theorem ro_list (hc : X.calm = true) : CallR X (.type "list") (fun vs H Q => OpRd X.K .list vs H Q) := by
  refine CallR.imp (call_list_of.or (call_listD hc)) fun vs H Q h => ?_
  obtain ⟨F, ds, d, sub, trs, hd, out⟩ := h
  obtain ⟨a, rfl, hd⟩ := op_one hd (fun _ _ => rfl) (fun _ _ _ => rfl)
  obtain ⟨x, rfl, t⟩ := one_of trs
  change opList a = some d at hd
  cases a <;> simp only [opList] at hd <;> first | cases hd | skip
  · obtain ⟨a, vs, rfl, h1, r1⟩ := t.list sub
    exact .inl ⟨a, vs, rfl, .inl (.inl h1), fun p hp => out.lst sub r1 hp⟩
  · obtain ⟨a, vs, rfl, h1, f1, r1⟩ := t.tuple sub
    exact .inl ⟨a, vs, rfl, .inr h1, fun p hp => out.lst sub r1 hp⟩
  · obtain ⟨a, vs, rfl, h1, r1⟩ := t.dict sub
    exact .inr ⟨a, vs, rfl, h1, fun p hp => out.lst sub (rpk_keys r1) hp⟩
theorem ro_tuple : CallR X (.type "tuple") (fun vs H Q => OpRd X.K .tuple vs H Q) := by
  refine CallR.imp call_tuple_of fun vs H Q h => ?_
  obtain ⟨F, ds, d, sub, trs, hd, out⟩ := h
  obtain ⟨a, rfl, hd⟩ := op_one hd (fun _ _ => rfl) (fun _ _ _ => rfl)
  obtain ⟨x, rfl, t⟩ := one_of trs
  change opTuple a = some d at hd
  cases a <;> simp only [opTuple] at hd <;> first | cases hd | skip
  · obtain ⟨a, vs, rfl, h1, r1⟩ := t.list sub
    exact ⟨a, vs, rfl, .inl ⟨.inl h1, fun p hp => out.tup sub r1 hp⟩⟩
  · obtain ⟨a, vs, rfl, h1, f1, r1⟩ := t.tuple sub
    exact ⟨a, vs, rfl, .inr ⟨h1, out.scal sub (.tup f1 r1) rfl⟩⟩
theorem sortI_uniq {ns ns' : List Int} (h : ns'.Perm ns) (p : ns'.Pairwise (· ≤ ·)) : ns' = sortI ns := by
  have hs : (sortI ns).Pairwise (· ≤ ·) := by
    have := List.pairwise_mergeSort (le := fun (a b : Int) => decide (a ≤ b)) (fun a b c h1 h2 => by simp only [decide_eq_true_eq] at *; omega) (fun a b => by simp only [Bool.or_eq_true, decide_eq_true_eq]; omega) ns
    exact this.imp fun h => by simpa using h
  have hp : (sortI ns).Perm ns := List.mergeSort_perm ns _
  exact List.Perm.eq_of_pairwise (le := (· ≤ ·)) (fun a b _ _ h1 h2 => by omega) p hs (h.trans hp.symm)
theorem strLe_trans (a b c : Str) (h1 : strLe a b = true) (h2 : strLe b c = true) : strLe a c = true := by
  simp only [strLe, Bool.not_eq_true', decide_eq_false_iff_not] at *
  have h1 := List.not_lt.mp h1
  have h2 := List.not_lt.mp h2
  exact List.not_lt.mpr (List.le_trans h1 h2)
theorem strLe_total (a b : Str) : (strLe a b || strLe b a) = true := by
  simp only [strLe, Bool.or_eq_true, Bool.not_eq_true', decide_eq_false_iff_not]
  rcases List.le_total a.cps.toList b.cps.toList with h | h
  · exact .inl (List.not_lt.mpr h)
  · exact .inr (List.not_lt.mpr h)
theorem strLe_anti (a b : Str) (h1 : strLe a b = true) (h2 : strLe b a = true) : a = b := by
  simp only [strLe, Bool.not_eq_true', decide_eq_false_iff_not] at *
  have h := List.le_antisymm (List.not_lt.mp h1) (List.not_lt.mp h2)
  cases a; cases b
  simp only at h
  rw [Array.toList_inj.mp h]
theorem ltCps_eq : ∀ (a b : List Nat), ltCps a b = decide (a < b)
  | [], [] => by simp [ltCps]
  | [], _ :: _ => by simp [ltCps]
  | _ :: _, [] => by simp [ltCps]
  | a :: r, b :: t => by
    simp only [ltCps, ltCps_eq r t, List.cons_lt_cons_iff, Bool.decide_or, Bool.decide_and]
    rfl
theorem risingS_pair : ∀ (r : List Str) (x : Str), risingS x r = true → (x :: r).Pairwise (fun a b => strLe a b = true)
  | [], x, _ => List.pairwise_singleton _ _
  | y :: r, x, h => by
    have h' : (!ltCps y.cps.toList x.cps.toList && risingS y r) = true := h
    simp only [Bool.and_eq_true] at h'
    have hxy : strLe x y = true := by
      unfold strLe
      rw [← ltCps_eq]
      exact h'.1
    have ih := risingS_pair r y h'.2
    refine List.pairwise_cons.mpr ⟨fun z hz => ?_, ih⟩
    rcases List.mem_cons.mp hz with rfl | hz
    · exact hxy
    · exact strLe_trans x y z hxy ((List.pairwise_cons.mp ih).1 z hz)
theorem sortS_uniq {ns ns' : List Str} (h : ns'.Perm ns) (p : sortedS ns' = true) : ns' = sortS ns := by
  have p2 : ns'.Pairwise (fun a b => strLe a b = true) := by
    cases ns' with
    | nil => exact List.Pairwise.nil
    | cons x r => exact risingS_pair r x p
  have hs : (sortS ns).Pairwise (fun a b => strLe a b = true) := List.pairwise_mergeSort strLe_trans strLe_total ns
  have hp : (sortS ns).Perm ns := List.mergeSort_perm ns _
  exact List.Perm.eq_of_pairwise (le := fun a b => strLe a b = true) (fun a b _ _ h1 h2 => strLe_anti a b h1 h2) p2 hs (h.trans hp.symm)
theorem rps_pairs {K : PySem.W.Frag} {F : Hp} : ∀ (l : List (V × D)), (∀ p ∈ l, Rp K F p.1 p.2) → Rps K F (l.map Prod.fst) (l.map Prod.snd)
  | [], _ => .nil
  | p :: l, h => .cons (h p List.mem_cons_self) (rps_pairs l fun q hq => h q (List.mem_cons_of_mem _ hq))
theorem zip_rps {K : PySem.W.Frag} {F : Hp} : ∀ {vs : List V} {ds : List D}, Rps K F vs ds → (vs.zip ds).map Prod.snd = ds ∧ (vs.zip ds).map Prod.fst = vs ∧ ∀ p ∈ vs.zip ds, Rp K F p.1 p.2
  | _, _, .nil => ⟨rfl, rfl, fun p h => nomatch h⟩
  | _, _, .cons h r => by
    obtain ⟨h1, h2, h3⟩ := zip_rps r
    refine ⟨by simp [h1], by simp [h2], fun p hp => ?_⟩
    rcases List.mem_cons.mp hp with rfl | hp
    · exact h
    · exact h3 p hp
theorem each_of_vals {us : List Value} : ∀ {vs : List V} {ds : List D}, vs.length = ds.length → Vals vs us → PySem.W.EachIs (fun (u : Value) (b : V × D) => RelV b.1 u) us (vs.zip ds) := by
  induction us with
  | nil => intro vs ds hl r; cases r; exact .nil
  | cons u us ih =>
    intro vs ds hl r
    cases r with
    | cons r t =>
      match ds, hl with
      | d :: ds, hl => exact .cons r (ih (Nat.succ.inj hl) t)
theorem vals_each {us : List Value} : ∀ {bs : List (V × D)}, PySem.W.EachIs (fun (u : Value) (b : V × D) => RelV b.1 u) us bs → Vals (bs.map Prod.fst) us := by
  induction us with
  | nil => intro bs h; cases h; exact .nil
  | cons u us ih =>
    intro bs h
    cases h with
    | cons r t => exact .cons r (ih t)
/-- sorted(xs), tuples that can be compared place by place -/
def rSortedT' (K : PySem.W.Frag) : List V → Hp → VK → Prop := fun vs H Q => ∃ (a : Addr) (xs : List V) (ds : List D), vs = [.ref a] ∧ SqL K H a xs ∧ DpAll K H xs ds ∧ xs.length = ds.length ∧ PySem.W.AllAlike ds ∧ PySem.W.Sortable ds ∧ (∀ d ∈ ds, PyData.depth d ≤ 64) ∧
  ∀ p, H p = none → Q (.ref p) (upd H p (.lst (((xs.zip ds).mergeSort (PySem.W.dataLe false Prod.snd)).map Prod.fst)))
theorem cr_sortedT' (hu : X.A.units + 70 < cLine) : CallR X (.builtin "sorted") (rSortedT' X.K) := by
  intro pins s σ H vs us Q I r h
  obtain ⟨a, xs, ds, rfl, hs, hd, hlen, hal, hso, hdep, q⟩ := h
  obtain ⟨its, rv, hl, hz⟩ := I.list hs
  rw [Vals.ref1 r]
  obtain ⟨as, hr⟩ := Dp.readsAll I ds xs its hd rv
  have hzs : ((xs.zip ds).map Prod.snd) = ds := by
    rw [List.map_snd_zip]; omega
  have hzl : (xs.zip ds).length = xs.length := by rw [List.length_zip]; omega
  refine PySem.W.sorted_data (vs := its) (bs := xs.zip ds) (enc := Prod.snd) (R := fun (u : Value) (b : V × D) => RelV b.1 u) hl.isList (each_of_vals hlen rv) (PySem.W.readsAll_each Prod.snd (as := as) (by rw [hzs]; exact hr)) (by rw [hzs]; exact hal) (by rw [hzs]; exact hso) (by rw [hzl]; exact hz) (fun b hb => ?_) fun out ho he => ?_
  · have : b.2 ∈ ds := by rw [← hzs]; exact List.mem_map.mpr ⟨b, hb, rfl⟩
    have := hdep _ this
    omega
  · obtain ⟨ep, he'⟩ := PyProof.Rows.sortedAll_at s.heap its out.toArray
    have hl2 : (((xs.zip ds).mergeSort (PySem.W.dataLe false Prod.snd)).map Prod.fst).length ≤ sizeLine := by
      rw [List.length_map, List.length_mergeSort, hzl]; exact hz
    exact ⟨.ref _, upd H (s.heap.objs.size + 1) (.lst (((xs.zip ds).mergeSort (PySem.W.dataLe false Prod.snd)).map Prod.fst)), I.laid (t' := s.toks) (fun _ _ => PyProof.Rows.sortedAll_old) (Nat.le_succ _) ⟨hl2, out, ep, vals_each he, he'⟩, rfl, q _ (I.hok.fresh (Nat.le_succ _))⟩
theorem ro_sorted (hu : X.A.units + 70 < cLine) : CallR X (.builtin "sorted") (fun vs H Q => OpRd X.K .sorted vs H Q) := by
  refine CallR.imp ((cr_sortedI.or cr_sortedS).or (cr_sortedT' hu)) fun vs H Q h => ?_
  obtain ⟨F, ds, d, sub, trs, hd, out⟩ := h
  obtain ⟨a, rfl, hd⟩ := op_one hd (fun _ _ => rfl) (fun _ _ _ => rfl)
  obtain ⟨x, rfl, t⟩ := one_of trs
  change opSorted a = some d at hd
  unfold opSorted at hd
  split at hd
  · rename_i xs _
    split at hd
    · rename_i ns e
      cases hd
      rw [intsOf_eq e] at t
      obtain ⟨a, vs, rfl, h1, r1⟩ := t.list sub
      rw [r1.ints] at h1
      refine .inl (.inl ⟨a, ns, rfl, .inl h1, fun ns' p h2 h3 hp => ?_⟩)
      rw [sortI_uniq h2 h3]
      exact out.lst sub (rps_ints _) hp
    · split at hd
      · split at hd
        · rename_i ns e h64
          cases hd
          rw [strsOf_eq e] at t
          obtain ⟨a, vs, rfl, h1, r1⟩ := t.list sub
          rw [r1.strs] at h1
          refine .inl (.inr ⟨a, ns, rfl, .inl h1, h64, fun ns' p h2 h3 hp => ?_⟩)
          rw [sortS_uniq h2 h3]
          exact out.lst sub (rps_strs _) hp
        · cases hd
      · split at hd
        · rename_i hc
          cases hd
          simp only [Bool.and_eq_true] at hc
          obtain ⟨⟨c1, c2⟩, c3⟩ := hc
          obtain ⟨a, vs, rfl, h1, r1⟩ := t.list sub
          obtain ⟨z1, z2, z3⟩ := zip_rps r1
          have dp := Rps.dp xs (Rps.same sub r1) (by have := SeqAt.canLay_of_shaped c2; simpa [PyData.canLay0] using this)
          have al : PySem.W.AllAlike xs := fun d hd d' hd' => List.all_eq_true.mp (List.all_eq_true.mp c3 d hd) d' hd'
          have so : PySem.W.Sortable xs := .inl fun d hd => by
            have := List.all_eq_true.mp c1 d hd
            cases d <;> first | (cases this; done) | skip
            rename_i l
            cases l with
            | nil => cases this
            | cons x r => exact ⟨x, r, rfl⟩
          have dep : ∀ d ∈ xs, PyData.depth d ≤ 64 := fun d hd => by
            have h64 := SeqAt.depth_of_shaped c2
            have : ∀ (l : List D), d ∈ l → PyData.depth d ≤ PyData.depthAll l := by
              intro l
              induction l with
              | nil => intro h; cases h
              | cons x l ih =>
                intro h
                unfold PyData.depthAll
                rcases List.mem_cons.mp h with rfl | h
                · exact Nat.le_max_left _ _
                · exact Nat.le_trans (ih h) (Nat.le_max_right _ _)
            have h2 := this xs hd
            unfold PyData.depth at h64
            omega
          refine .inr ⟨a, vs, xs, rfl, .inl h1, dp, r1.length, al, so, dep, fun p hp => ?_⟩
          have e : sortT xs = ((vs.zip xs).mergeSort (PySem.W.dataLe false Prod.snd)).map Prod.snd := by
            have e2 : ((vs.zip xs).mergeSort (PySem.W.dataLe false Prod.snd)).map Prod.snd = ((vs.zip xs).map Prod.snd).mergeSort (PySem.W.dataLe false id) := List.map_mergeSort (fun _ _ _ _ => rfl)
            rw [e2, z1]
            rfl
          rw [e] at out
          exact out.lst sub (rps_pairs _ fun q hq => z3 q ((List.mergeSort_perm _ _).mem_iff.mp hq)) hp
        · cases hd
  · cases hd
theorem maxOf_is : ∀ (r : List Int) (x m : Int), r.foldl (fun a b => if b > a then b else a) x = m → (m ∈ x :: r) ∧ ∀ y ∈ x :: r, y ≤ m
  | [], x, m, h => by
    have h : x = m := h
    subst h
    exact ⟨List.mem_cons_self, fun y hy => by rcases List.mem_cons.mp hy with rfl | hy; exact Int.le_refl _; cases hy⟩
  | z :: r, x, m, h => by
    have h : r.foldl (fun a b => if b > a then b else a) (if z > x then z else x) = m := h
    obtain ⟨h1, h2⟩ := maxOf_is r _ m h
    have hx : x ≤ m := by
      have := h2 _ List.mem_cons_self
      split at this <;> omega
    have hz : z ≤ m := by
      have := h2 _ List.mem_cons_self
      split at this <;> omega
    refine ⟨?_, fun y hy => ?_⟩
    · rcases List.mem_cons.mp h1 with e | e
      · split at e
        · rw [e]; exact List.mem_cons_of_mem _ List.mem_cons_self
        · rw [e]; exact List.mem_cons_self
      · exact List.mem_cons_of_mem _ (List.mem_cons_of_mem _ e)
    · rcases List.mem_cons.mp hy with rfl | hy
      · exact hx
      · rcases List.mem_cons.mp hy with rfl | hy
        · exact hz
        · exact h2 y (List.mem_cons_of_mem _ hy)
theorem minOf_is : ∀ (r : List Int) (x m : Int), r.foldl (fun a b => if b < a then b else a) x = m → (m ∈ x :: r) ∧ ∀ y ∈ x :: r, m ≤ y
  | [], x, m, h => by
    have h : x = m := h
    subst h
    exact ⟨List.mem_cons_self, fun y hy => by rcases List.mem_cons.mp hy with rfl | hy; exact Int.le_refl _; cases hy⟩
  | z :: r, x, m, h => by
    have h : r.foldl (fun a b => if b < a then b else a) (if z < x then z else x) = m := h
    obtain ⟨h1, h2⟩ := minOf_is r _ m h
    have hx : m ≤ x := by
      have := h2 _ List.mem_cons_self
      split at this <;> omega
    have hz : m ≤ z := by
      have := h2 _ List.mem_cons_self
      split at this <;> omega
    refine ⟨?_, fun y hy => ?_⟩
    · rcases List.mem_cons.mp h1 with e | e
      · split at e
        · rw [e]; exact List.mem_cons_of_mem _ List.mem_cons_self
        · rw [e]; exact List.mem_cons_self
      · exact List.mem_cons_of_mem _ (List.mem_cons_of_mem _ e)
    · rcases List.mem_cons.mp hy with rfl | hy
      · exact hx
      · rcases List.mem_cons.mp hy with rfl | hy
        · exact hz
        · exact h2 y (List.mem_cons_of_mem _ hy)
theorem ro_max1 (hc : X.calm = true) : CallR X (.builtin "max") (fun vs H Q => OpRd X.K .max1 vs H Q) := by
  refine CallR.imp (cr_max hc) fun vs H Q h => ?_
  obtain ⟨F, ds, d, sub, trs, hd, out⟩ := h
  obtain ⟨a, rfl, hd⟩ := op_one hd (fun _ _ => rfl) (fun _ _ _ => rfl)
  obtain ⟨x, rfl, t⟩ := one_of trs
  change opMax1 a = some d at hd
  unfold opMax1 at hd
  split at hd
  · split at hd
    · rename_i ns e
      rw [intsOf_eq e] at t
      obtain ⟨a, vs, rfl, h1, r1⟩ := t.list sub
      rw [r1.ints] at h1
      cases ns with
      | nil => cases hd
      | cons z r =>
        cases hd
        refine ⟨a, _, rfl, .inl h1, by simp, fun m hm hm2 => ?_⟩
        obtain ⟨k1, k2⟩ := maxOf_is r z _ rfl
        rw [show m = r.foldl (fun a b => if b > a then b else a) z from Int.le_antisymm (k2 m hm) (hm2 _ k1)]
        exact out.scal sub (.int _) rfl
    · cases hd
  · cases hd
theorem ro_min1 (hc : X.calm = true) : CallR X (.builtin "min") (fun vs H Q => OpRd X.K .min1 vs H Q) := by
  refine CallR.imp (cr_min hc) fun vs H Q h => ?_
  obtain ⟨F, ds, d, sub, trs, hd, out⟩ := h
  obtain ⟨a, rfl, hd⟩ := op_one hd (fun _ _ => rfl) (fun _ _ _ => rfl)
  obtain ⟨x, rfl, t⟩ := one_of trs
  change opMin1 a = some d at hd
  unfold opMin1 at hd
  split at hd
  · split at hd
    · rename_i ns e
      rw [intsOf_eq e] at t
      obtain ⟨a, vs, rfl, h1, r1⟩ := t.list sub
      rw [r1.ints] at h1
      cases ns with
      | nil => cases hd
      | cons z r =>
        cases hd
        refine ⟨a, _, rfl, .inl h1, by simp, fun m hm hm2 => ?_⟩
        obtain ⟨k1, k2⟩ := minOf_is r z _ rfl
        rw [show m = r.foldl (fun a b => if b < a then b else a) z from Int.le_antisymm (hm2 _ k1) (k2 m hm)]
        exact out.scal sub (.int _) rfl
    · cases hd
  · cases hd
theorem ro_max2 (hc : X.calm = true) : CallR X (.builtin "max") (fun vs H Q => OpRd X.K .max2 vs H Q) := by
  refine CallR.imp (call_max2 hc) fun vs H Q h => ?_
  obtain ⟨F, ds, d, sub, trs, hd, out⟩ := h
  obtain ⟨a, b, rfl, hd⟩ := op_two hd (fun _ => rfl) (fun _ _ _ => rfl)
  obtain ⟨x, y, rfl, t1, t2⟩ := two_of trs
  change opMax2 a b = some d at hd
  cases a <;> cases b <;> simp only [opMax2] at hd <;> first | cases hd | skip
  exact ⟨_, _, by rw [t1.int, t2.int], out.scal sub (.int _) rfl⟩
theorem ro_min2 (hc : X.calm = true) : CallR X (.builtin "min") (fun vs H Q => OpRd X.K .min2 vs H Q) := by
  refine CallR.imp (call_min2 hc) fun vs H Q h => ?_
  obtain ⟨F, ds, d, sub, trs, hd, out⟩ := h
  obtain ⟨a, b, rfl, hd⟩ := op_two hd (fun _ => rfl) (fun _ _ _ => rfl)
  obtain ⟨x, y, rfl, t1, t2⟩ := two_of trs
  change opMin2 a b = some d at hd
  cases a <;> cases b <;> simp only [opMin2] at hd <;> first | cases hd | skip
  exact ⟨_, _, by rw [t1.int, t2.int], out.scal sub (.int _) rfl⟩
/-! ### isinstance -/
def tyN : Ty → String
  | .int => "int"
  | .bool => "bool"
  | .str => "str"
  | .list => "list"
  | .tuple => "tuple"
  | .dict => "dict"
def dTy : D → String
  | .none => "NoneType"
  | .bool _ => "bool"
  | .int _ => "int"
  | .str _ => "str"
  | .list _ => "list"
  | .tuple _ => "tuple"
  | .dict _ => "dict"
theorem tyx_of {K : PySem.W.Frag} {F H : Hp} {x : V} {d : D} (sub : Same F H) (t : TR K F H x d) : TyX K H x (.type (dTy d)) := by
  cases d with
  | none => rw [t.non]; exact .base .non
  | bool b => rw [t.bl]; exact .base (.bl _)
  | int i => rw [t.int]; exact .base (.int _)
  | str z => rw [t.str]; exact .base (.str _)
  | list ds =>
    obtain ⟨a, vs, rfl, h1, _⟩ := t.list sub
    rcases h1 with h1 | ⟨o, h1⟩
    · exact .base (.lst h1)
    · exact .base (.frz h1)
  | tuple ds =>
    obtain ⟨a, vs, rfl, h1, _, _⟩ := t.tuple sub
    rcases h1 with h1 | ⟨o, its, n, hk, hc, _⟩
    · rcases h1 with h1 | ⟨o, h1⟩
      · exact .base (.tup h1)
      · exact .fTuple h1
    · exact .kTuple hk hc
  | dict ds =>
    obtain ⟨a, vs, rfl, h1, _⟩ := t.dict sub
    rcases h1 with h1 | ⟨o, h1⟩
    · exact .base (.dK h1)
    · exact .fDict h1
def isTyS : Ty → String → Bool
  | .int, s => s == "int" || s == "bool"
  | t, s => s == tyN t
theorem kit_tab : (["NoneType", "bool", "int", "str", "list", "tuple", "dict"].all fun s => [Ty.int, Ty.bool, Ty.str, Ty.list, Ty.tuple, Ty.dict].all fun t => decide (kitB s (tyN t) = some (isTyS t s))) = true := by decide +kernel
theorem isTyS_eq (t : Ty) (d : D) : isTyS t (dTy d) = isTy t d := by
  cases t <;> cases d <;> rfl
theorem kit_dty {K : PySem.W.Frag} (t : Ty) (d : D) : PySem.W.kitOne K (.type (dTy d)) (.type (tyN t)) = some (isTy t d) := by
  refine kit_ty ?_
  rw [← isTyS_eq]
  have h1 := List.all_eq_true.mp kit_tab (dTy d) (by cases d <;> simp [dTy])
  have h2 := List.all_eq_true.mp h1 t (by cases t <;> simp)
  exact of_decide_eq_true h2
theorem kit_dtys {K : PySem.W.Frag} (d : D) : ∀ ts : List Ty, PySem.W.kitAny K (.type (dTy d)) (ts.map fun t => .type (tyN t)) = some (ts.any fun t => isTy t d)
  | [] => rfl
  | t :: ts => by
    rw [List.map_cons, List.any_cons]
    refine kitAny_cons (kit_dty t d) (fun e => ?_) fun e => ?_
    · rw [kit_dtys d ts, e, Bool.false_or]
    · rw [e, Bool.true_or]
theorem ro_sum (hc : X.calm = true) : CallR X (.builtin "sum") (fun vs H Q => OpRd X.K .sum vs H Q) := by
  refine CallR.imp (cr_sum hc) fun vs H Q h => ?_
  obtain ⟨F, ds, d, sub, trs, hd, out⟩ := h
  obtain ⟨a, rfl, hd⟩ := op_one hd (fun _ _ => rfl) (fun _ _ _ => rfl)
  obtain ⟨x, rfl, t⟩ := one_of trs
  change opSum a = some d at hd
  unfold opSum at hd
  split at hd
  · split at hd
    · rename_i ns e
      cases hd
      rw [intsOf_eq e] at t
      obtain ⟨a, vs, rfl, h1, r1⟩ := t.list sub
      rw [r1.ints] at h1
      exact ⟨a, ns, rfl, .inl h1, out.scal sub (.int _) rfl⟩
    · cases hd
  · cases hd
theorem ro_all (hc : X.calm = true) : CallR X (.builtin "all") (fun vs H Q => OpRd X.K .all vs H Q) := by
  refine CallR.imp (cr_all hc) fun vs H Q h => ?_
  obtain ⟨F, ds, d, sub, trs, hd, out⟩ := h
  obtain ⟨a, rfl, hd⟩ := op_one hd (fun _ _ => rfl) (fun _ _ _ => rfl)
  obtain ⟨x, rfl, t⟩ := one_of trs
  change opAll a = some d at hd
  unfold opAll at hd
  split at hd
  · split at hd
    · rename_i ns e
      cases hd
      rw [boolsOf_eq e] at t
      obtain ⟨a, vs, rfl, h1, r1⟩ := t.list sub
      rw [r1.bools] at h1
      exact ⟨a, ns, rfl, .inl h1, out.scal sub (.bl _) rfl⟩
    · cases hd
  · cases hd
theorem ro_any (hc : X.calm = true) : CallR X (.builtin "any") (fun vs H Q => OpRd X.K .any vs H Q) := by
  refine CallR.imp (cr_any hc) fun vs H Q h => ?_
  obtain ⟨F, ds, d, sub, trs, hd, out⟩ := h
  obtain ⟨a, rfl, hd⟩ := op_one hd (fun _ _ => rfl) (fun _ _ _ => rfl)
  obtain ⟨x, rfl, t⟩ := one_of trs
  change opAny a = some d at hd
  unfold opAny at hd
  split at hd
  · split at hd
    · rename_i ns e
      cases hd
      rw [boolsOf_eq e] at t
      obtain ⟨a, vs, rfl, h1, r1⟩ := t.list sub
      rw [r1.bools] at h1
      exact ⟨a, ns, rfl, .inl h1, out.scal sub (.bl _) rfl⟩
    · cases hd
  · cases hd
end
end FC

/-! list(zip(a, b)) of two lists or two tuples. -/
namespace FC
open PySem
open PySem.Sem (wp)
section
variable {prog : Program} {w : World} {A : Around} {E : Value → Shared → Prop} {s : Shared} {z TI TO T i1 i2 l1 l2 : Addr} {f : Bool} {oT : Obj} {k1 k2 : Nat} {xs ys : Array Value} {x y : Value}
theorem IsTupleIter.ext {h h' : Heap} {i l : Addr} {k : Nat} (q : h.IsTupleIter i l k) (e : ∀ o, h.get? i = some o → h'.get? i = some o) : h'.IsTupleIter i l k := by
  obtain ⟨o, ho, c⟩ := q
  exact ⟨o, e o ho, c⟩
theorem IsTuple.ext {h h' : Heap} {l : Addr} {a : Array Value} (q : h.IsTuple l a) (e : ∀ o, h.get? l = some o → h'.get? l = some o) : h'.IsTuple l a := by
  obtain ⟨o, ho, c⟩ := q
  exact ⟨o, e o ho, c⟩
theorem zT_item_held {Q : Value → Shared → Prop} (D : ZipApart z TI TO i1 i2 l1 l2) (hz : IsZipHeld s.heap z TI TO T f) (hT : s.heap.get? T = some oT) (hTI : IsPair s.heap TI (.ref i1) (.ref i2))
    (h1 : s.heap.IsTupleIter i1 l1 k1) (h2 : s.heap.IsTupleIter i2 l2 k2) (hl1 : s.heap.IsTuple l1 xs) (hl2 : s.heap.IsTuple l2 ys) (hx : xs[k1]? = some x) (hy : ys[k2]? = some y)
    (hQ : ∀ h', IsZipHeld h' z TI TO T true → h'.IsTupleIter i1 l1 (k1 + 1) → h'.IsTupleIter i2 l2 (k2 + 1) → IsPair h' s.heap.objs.size x y → h'.objs.size = s.heap.objs.size + 1 →
      (∀ c o, c ≠ z → c ≠ i1 → c ≠ i2 → s.heap.get? c = some o → h'.get? c = some o) → Q (.ref s.heap.objs.size) { s with heap := h' }) :
    wpAny (model prog w) A (Builtin.«zip.__next__» ⟨[.ref z], []⟩) (fun fin s' => ∃ v, fin = .done (.ret v) ∧ Q v s') E s := by
  refine wpAny_bind (m := field (.ref z) 2) (wpAny_field hz rfl (x := .bool false) rfl ?_)
  refine wpAny_bind (m := field (.ref z) 3) (wpAny_field hz rfl (x := .ref TI) rfl ?_)
  refine wpAny_bind (wpAny_seqItems hTI rfl (wpAny_bind (m := Builtin.SmallTypes.ownedTupleIsFree (.ref z)) (wpAny_tupleHeld_zip hz hT fun g1 z1 m1 => ?_)))
  simp only [Bool.false_eq_true, if_false]
  refine wpAny_bind ?_
  rw [← Array.forIn_toList]
  simp only [List.forIn_cons, List.forIn_nil]
  refine wpAny_bind (wpAny_bind (wpAny_holding (wpAny_bind (m := Builtin.SmallTypes.nextOf (.ref i1)) ?_)))
  refine RZ.nextOf_tuple_item (s := { s with heap := g1 }) (IsTupleIter.ext h1 fun o e => m1.extBut _ _ D.i1z e) (IsTuple.ext hl1 fun o e => m1.extBut _ _ D.l1z e) hx fun g2 q2 m2 => wpAny_pure ?_
  refine wpAny_pure (wpAny_bind (wpAny_bind (wpAny_holding (wpAny_bind (m := Builtin.SmallTypes.nextOf (.ref i2)) ?_))))
  refine RZ.nextOf_tuple_item (s := { s with heap := g2 }) (IsTupleIter.ext h2 fun o e => m2.extBut _ _ D.i12.symm (m1.extBut _ _ D.i2z e)) (IsTuple.ext hl2 fun o e => m2.extBut _ _ D.l2i1 (m1.extBut _ _ D.l2z e)) hy fun g3 q3 m3 => wpAny_pure ?_
  refine wpAny_pure (wpAny_pure (wpAny_bind (m := newTuple [x, y]) (wpAny_newTuple ?_)))
  have hs : g3.objs.size = s.heap.objs.size := by rw [m3.1, m2.1, m1.1]
  have z3 : IsZipHeld g3 z TI TO T true := m3.extBut _ _ D.i2z.symm (m2.extBut _ _ D.i1z.symm z1)
  have p1 : IsPair (g3.push { cls := .type "tuple", data := .seq #[x, y] }) g3.objs.size x y := Heap.get?_push_size _ rfl
  have p2 : (g3.push { cls := .type "tuple", data := .seq #[x, y] }).objs.size = g3.objs.size + 1 := Heap.size_push ..
  refine wpAny_pure ⟨_, rfl, ?_⟩
  change Q (.ref g3.objs.size) _
  rw [hs] at p1 p2 ⊢
  exact hQ _ (Heap.get?_push_of_some _ z3) (IsTupleIter.ext q2 fun o e => Heap.get?_push_of_some _ (m3.extBut _ _ D.i12 e)) (IsTupleIter.ext q3 fun o e => Heap.get?_push_of_some _ e) p1 p2
    fun c o a1 a2 a3 e => Heap.get?_push_of_some _ (m3.extBut _ _ a3 (m2.extBut _ _ a2 (m1.extBut _ _ a1 e)))
theorem zT_end_held {Q : Fin → Shared → Prop} (hh : A.handled = none) (D : ZipApart z TI TO i1 i2 l1 l2) (hz : IsZipHeld s.heap z TI TO T f) (hT : s.heap.get? T = some oT) (hTI : IsPair s.heap TI (.ref i1) (.ref i2))
    (h1 : s.heap.IsTupleIter i1 l1 k1) (h2 : s.heap.IsTupleIter i2 l2 k2) (hl1 : s.heap.IsTuple l1 xs) (hl2 : s.heap.IsTuple l2 ys) (hend : xs[k1]? = none ∨ ys[k2]? = none)
    (hE : ∀ h' e, (∀ c o, c ≠ z → c ≠ i1 → c ≠ i2 → s.heap.get? c = some o → h'.get? c = some o) → (∃ o, h'.get? e = some o ∧ o.cls = .type "StopIteration") → E (.ref e) { s with heap := h' }) :
    wpAny (model prog w) A (Builtin.«zip.__next__» ⟨[.ref z], []⟩) Q E s := by
  refine wpAny_bind (m := field (.ref z) 2) (wpAny_field hz rfl (x := .bool false) rfl ?_)
  refine wpAny_bind (m := field (.ref z) 3) (wpAny_field hz rfl (x := .ref TI) rfl ?_)
  refine wpAny_bind (wpAny_seqItems hTI rfl (wpAny_bind (m := Builtin.SmallTypes.ownedTupleIsFree (.ref z)) (wpAny_tupleHeld_zip hz hT fun g1 z1 m1 => ?_)))
  simp only [Bool.false_eq_true, if_false]
  refine wpAny_bind ?_
  rw [← Array.forIn_toList]
  simp only [List.forIn_cons, List.forIn_nil]
  refine wpAny_bind (wpAny_bind (wpAny_holding (wpAny_bind (m := Builtin.SmallTypes.nextOf (.ref i1)) ?_)))
  cases hx : xs[k1]? with
  | none => exact RZ.nextOf_tuple_end (s := { s with heap := g1 }) hh (IsTupleIter.ext h1 fun o e => m1.extBut _ _ D.i1z e) (IsTuple.ext hl1 fun o e => m1.extBut _ _ D.l1z e) hx fun g2 e m2 he => hE g2 e (fun c o a1 a2 _ q => m2 _ _ a2 (m1.extBut _ _ a1 q)) he
  | some x =>
    have hy : ys[k2]? = none := hend.resolve_left (by rw [hx]; intro q; cases q)
    refine RZ.nextOf_tuple_item (s := { s with heap := g1 }) (IsTupleIter.ext h1 fun o e => m1.extBut _ _ D.i1z e) (IsTuple.ext hl1 fun o e => m1.extBut _ _ D.l1z e) hx fun g2 q2 m2 => wpAny_pure ?_
    refine wpAny_pure (wpAny_bind (wpAny_bind (wpAny_holding (wpAny_bind (m := Builtin.SmallTypes.nextOf (.ref i2)) ?_))))
    exact RZ.nextOf_tuple_end (s := { s with heap := g2 }) hh (IsTupleIter.ext h2 fun o e => m2.extBut _ _ D.i12.symm (m1.extBut _ _ D.i2z e)) (IsTuple.ext hl2 fun o e => m2.extBut _ _ D.l2i1 (m1.extBut _ _ D.l2z e)) hy
      fun g3 e m3 he => hE g3 e (fun c o a1 a2 a3 q => m3 _ _ a3 (m2.extBut _ _ a2 (m1.extBut _ _ a1 q))) he
theorem pT_item_held {Q : Option Value → Shared → Prop} (D : ZipApart z TI TO i1 i2 l1 l2) (hz : IsZipHeld s.heap z TI TO T f) (hT : s.heap.get? T = some oT) (hTI : IsPair s.heap TI (.ref i1) (.ref i2))
    (h1 : s.heap.IsTupleIter i1 l1 k1) (h2 : s.heap.IsTupleIter i2 l2 k2) (hl1 : s.heap.IsTuple l1 xs) (hl2 : s.heap.IsTuple l2 ys) (hx : xs[k1]? = some x) (hy : ys[k2]? = some y)
    (hQ : ∀ h', IsZipHeld h' z TI TO T true → h'.IsTupleIter i1 l1 (k1 + 1) → h'.IsTupleIter i2 l2 (k2 + 1) → IsPair h' s.heap.objs.size x y → h'.objs.size = s.heap.objs.size + 1 →
      (∀ c o, c ≠ z → c ≠ i1 → c ≠ i2 → s.heap.get? c = some o → h'.get? c = some o) → Q (some (.ref s.heap.objs.size)) { s with heap := h' }) : wpAny (model prog w) A (pyNext (.ref z)) Q E s := by
  have ty : s.TypeIs (.ref z) "zip" := ⟨_, hz, rfl⟩
  unfold pyNext
  refine wpAny_bind (wpAny_attempt (wpAny_callSpecial?_slot (name := Str.ofString "__next__") ty F.slot_zip_next ?_))
  exact wpAny_call_entry F.slot_zip_next ty F.entry_zip_next (zT_item_held D hz hT hTI h1 h2 hl1 hl2 hx hy fun h' a b c d e f => wpAny_pure (hQ h' a b c d e f)) (F.args_zip_next_1 _)
theorem pT_end_held {Q : Option Value → Shared → Prop} (hh : A.handled = none) (D : ZipApart z TI TO i1 i2 l1 l2) (hz : IsZipHeld s.heap z TI TO T f) (hT : s.heap.get? T = some oT) (hTI : IsPair s.heap TI (.ref i1) (.ref i2))
    (h1 : s.heap.IsTupleIter i1 l1 k1) (h2 : s.heap.IsTupleIter i2 l2 k2) (hl1 : s.heap.IsTuple l1 xs) (hl2 : s.heap.IsTuple l2 ys) (hend : xs[k1]? = none ∨ ys[k2]? = none)
    (hQ : ∀ h', (∀ c o, c ≠ z → c ≠ i1 → c ≠ i2 → s.heap.get? c = some o → h'.get? c = some o) → Q none { s with heap := h' }) : wpAny (model prog w) A (pyNext (.ref z)) Q E s := by
  have ty : s.TypeIs (.ref z) "zip" := ⟨_, hz, rfl⟩
  unfold pyNext
  refine wpAny_bind (wpAny_attempt (wpAny_callSpecial?_slot (name := Str.ofString "__next__") ty F.slot_zip_next ?_))
  refine wpAny_call_entry F.slot_zip_next ty F.entry_zip_next (zT_end_held hh D hz hT hTI h1 h2 hl1 hl2 hend fun h' e hk he => ?_) (F.args_zip_next_1 _)
  obtain ⟨o, ho, hc⟩ := he
  exact wpAny_bind (wpAny_isInstance (T := "StopIteration") (b := true) ⟨o, ho, hc⟩ isSubtype_stop (wpAny_pure (hQ _ hk)))
end
/-- a zip behind i pairs; S: the list that is filled meanwhile -/
structure ZW (prog : Program) (w : World) (z S : Addr) (fp : List Addr) (n : Nat) (xs ys : List Value) (St : Nat → Heap → Prop) : Prop where
  low : ∀ c ∈ fp, c < S
  mem : z ∈ fp
  next : ∀ (A : Around) (E : Value → Shared → Prop) (s : Shared) (i : Nat) (Q : Option Value → Shared → Prop), i < n → St i s.heap → S < s.heap.objs.size →
    (∀ h' x y, xs[i]? = some x → ys[i]? = some y → St (i + 1) h' → IsPair h' s.heap.objs.size x y → h'.objs.size = s.heap.objs.size + 1 → (∀ c o, c ∉ fp → s.heap.get? c = some o → h'.get? c = some o) → Q (some (.ref s.heap.objs.size)) { s with heap := h' }) →
    wpAny (model prog w) A (pyNext (.ref z)) Q E s
  done : ∀ (A : Around) (E : Value → Shared → Prop) (s : Shared) (Q : Option Value → Shared → Prop), A.handled = none → St n s.heap →
    (∀ h', (∀ c o, c ∉ fp → s.heap.get? c = some o → h'.get? c = some o) → Q none { s with heap := h' }) → wpAny (model prog w) A (pyNext (.ref z)) Q E s
  keep : ∀ (i : Nat) (h h' : Heap), St i h → (∀ c o, c ≠ S → h.get? c = some o → h'.get? c = some o) → St i h'
  typ : ∀ (i : Nat) (h : Heap), St i h → ∃ o, h.get? z = some o ∧ o.cls = .type "zip"
  self : ∀ (A : Around) (E : Value → Shared → Prop) (s : Shared) (Q : Value → Shared → Prop), St 0 s.heap → Q (.ref z) s → wpAny (model prog w) A (pyIter (.ref z)) Q E s
/-- the pairs that are made -/
structure ZG (S : Addr) (xs ys : List Value) (h : Heap) (as : List Addr) : Prop where
  rise : as.Pairwise (· < ·)
  above : ∀ a ∈ as, S < a
  pairs : ∀ (j : Nat) (a : Addr), as[j]? = some a → ∃ x y, xs[j]? = some x ∧ ys[j]? = some y ∧ IsPair h a x y
theorem zip_no_len : typeLookup (.type "zip") "__len__" = pure none := am_miss_of_fast (by decide +kernel)
theorem zip_no_hint : typeLookup (.type "zip") "__length_hint__" = pure none := am_miss_of_fast (by decide +kernel)
abbrev LOb (acc : Array Value) (c : Nat) : Obj := { cls := .type "list", dict := none, data := .seq acc c, slots := #[] }
section
variable {prog : Program} {w : World} {A : Around} {s : Shared} {R : Result → Shared → Prop} {z S : Addr} {fp : List Addr} {n : Nat} {xs ys : List Value} {St : Nat → Heap → Prop}
theorem zl_loop (W : ZW prog w z S fp n xs ys St) (hh : A.handled = none) (hn : n ≤ sizeLine) (res : Value) :
    ∀ (k i : Nat) (s : Shared) (acc : Array Value) (c : Nat) (as : List Addr), n - i = k → i ≤ n → St i s.heap → s.heap.get? S = some (LOb acc c) → acc.toList = as.map Value.ref → as.length = i → (∀ a ∈ as, a < s.heap.objs.size) → ZG S xs ys s.heap as →
    (∀ h' acc' c' as', (∀ b o, b ∉ fp → b ≠ S → s.heap.get? b = some o → h'.get? b = some o) → h'.get? S = some (LOb acc' c') → acc'.toList = as'.map Value.ref → as'.length = n → ZG S xs ys h' as' → R (.ok (.ret res)) { s with heap := h' }) →
    codeAny (model prog w) A (.builtin "list.extend.loop" ⟨[.ref S, .ref z, res], []⟩) R s := by
  intro k
  induction k with
  | zero =>
    intro i s acc c as hk hi hst hS hacc hl hlt hG hR
    have hin : i = n := by omega
    subst hin
    refine codeAny_builtin F.entry_extend_loop ?_
    rw [Around.under_plainId F.plain_extend_loop _]
    refine wpAny_bind (m := pyNext (.ref z)) (W.done _ _ s _ hh hst fun h' hk => ?_)
    refine wpAny_pure (hR h' acc c as (fun b o hb _ e => hk b o hb e) (hk S _ (fun q => Nat.lt_irrefl _ (W.low _ q)) hS) hacc hl ⟨hG.rise, hG.above, fun j a e => ?_⟩)
    obtain ⟨x, y, e1, e2, e3⟩ := hG.pairs j a e
    exact ⟨x, y, e1, e2, hk a _ (fun q => Nat.lt_asymm (W.low _ q) (hG.above a (List.mem_of_getElem? e))) e3⟩
  | succ k ih =>
    intro i s acc c as hk hi hst hS hacc hl hlt hG hR
    have hlt' : i < n := by omega
    have hSs := Heap.lt_size hS
    refine codeAny_builtin F.entry_extend_loop ?_
    rw [Around.under_plainId F.plain_extend_loop _]
    refine wpAny_bind (m := pyNext (.ref z)) (W.next _ _ s i _ hlt' hst hSs fun h' x y ex ey hst' hp hsz hk' => ?_)
    have hS' : h'.get? S = some (LOb acc c) := hk' S _ (fun q => Nat.lt_irrefl _ (W.low _ q)) hS
    have hne : s.heap.objs.size ≠ S := Nat.ne_of_gt hSs
    have hai : acc.size = i := by rw [← Array.length_toList, hacc, List.length_map, hl]
    refine wpAny_bind (m := updateSeq S (·.push (Value.ref s.heap.objs.size))) (wpAny_updateSeq hS' rfl (wpAny_pure ⟨plainId_quiet F.plain_extend_loop _, ?_⟩) (by rw [hai]; omega) (by show (acc.push _).size ≤ sizeLine + 1; rw [Array.size_push, hai]; omega))
    have oth : ∀ b o, b ≠ S → h'.get? b = some o → (h'.update S (Obj.mapSeq (·.push (Value.ref s.heap.objs.size)))).get? b = some o := fun b o hb e => (Heap.get?_update_other _ _ (Ne.symm hb)).trans e
    have lsz : ∀ a, a < s.heap.objs.size + 1 → a < (h'.update S (Obj.mapSeq (·.push (Value.ref s.heap.objs.size)))).objs.size := fun a q => Nat.lt_of_lt_of_le q (by
      have e : (h'.update S (Obj.mapSeq (·.push (Value.ref s.heap.objs.size)))).get? s.heap.objs.size = _ := oth _ _ hne hp
      exact Heap.lt_size e)
    refine ih (i + 1) { s with heap := h'.update S (Obj.mapSeq (·.push (Value.ref s.heap.objs.size))) } (acc.push (.ref s.heap.objs.size)) _ (as ++ [s.heap.objs.size]) (by omega) hlt' (W.keep _ _ _ hst' oth) (Heap.get?_update_self _ hS' rfl) (by rw [Array.toList_push, hacc]; simp) (by simp [hl]) (fun a ha => ?_) ⟨?_, fun a ha => ?_, fun j a e => ?_⟩ fun h2 acc2 c2 as2 k2 => ?_
    · rcases List.mem_append.mp ha with ha | ha
      · exact lsz a (Nat.lt_succ_of_lt (hlt a ha))
      · rw [List.mem_singleton.mp ha]; exact lsz _ (Nat.lt_succ_self _)
    · refine List.pairwise_append.mpr ⟨hG.rise, List.pairwise_singleton _ _, fun a ha b hb => ?_⟩
      rw [List.mem_singleton.mp hb]; exact hlt a ha
    · rcases List.mem_append.mp ha with ha | ha
      · exact hG.above a ha
      · rw [List.mem_singleton.mp ha]; exact hSs
    · by_cases hj : j < as.length
      · rw [List.getElem?_append_left hj] at e
        obtain ⟨x', y', e1, e2, e3⟩ := hG.pairs j a e
        have hab := hG.above a (List.mem_of_getElem? e)
        exact ⟨x', y', e1, e2, oth _ _ (Nat.ne_of_gt hab) (hk' a _ (fun q => Nat.lt_asymm (W.low _ q) hab) e3)⟩
      · have hj2 : j = as.length := by
          have := (List.getElem?_eq_some_iff.mp e).1
          rw [List.length_append, List.length_singleton] at this
          omega
        subst hj2
        have ea : s.heap.objs.size = a := by simpa using e
        subst ea
        rw [hl]
        exact ⟨x, y, ex, ey, oth _ _ hne hp⟩
    · exact hR h2 acc2 c2 as2 fun b o b1 b2 e => k2 b o b1 b2 (oth b o b2 (hk' b o b1 e))
theorem zl_hint {E : Value → Shared → Prop} (hT : s.TypeIs (.ref z) "zip") {Q : Bool → Shared → Prop} (h : ∀ b, Q b s) : wpAny (model prog w) A (Builtin.List.listLengthHint (.ref z)) Q E s := by
  unfold Builtin.List.listLengthHint
  refine wpAny_bind (wpAny_specialOf hT zip_no_len ?_)
  refine wpAny_bind (m := specialOf (Value.ref z) (Str.ofString "__length_hint__")) (wpAny_specialOf hT zip_no_hint ?_)
  exact wpAny_pure (h _)
theorem zl_extend (W : ZW prog w z S fp n xs ys St) (hh : A.handled = none) (hn : n ≤ sizeLine) (res : Value) (c₀ : Nat) (hst : St 0 s.heap) (hS : s.heap.get? S = some { cls := .type "list", data := .seq #[] c₀ })
    (hR : ∀ h' acc' c' as', (∀ b o, b ∉ fp → b ≠ S → s.heap.get? b = some o → h'.get? b = some o) → h'.get? S = some (LOb acc' c') → acc'.toList = as'.map Value.ref → as'.length = n → ZG S xs ys h' as' → R (.ok (.ret res)) { s with heap := h' }) :
    wpAny (model prog w) A.in1 (Builtin.List.listExtendWith (.ref S) (.ref z) res)
      (fun fin s' => match fin with | .done f => R (.ok f) s' | .again c' => c'.quiet = true ∧ codeAny (model prog w) A c' R s') (fun e s' => R (.error e) s') s := by
  have hSz : S ≠ z := fun e => Nat.lt_irrefl S (W.low S (by rw [e]; exact W.mem))
  have hT : s.TypeIs (.ref z) "zip" := W.typ 0 _ hst
  unfold Builtin.List.listExtendWith
  refine wpAny_bind (wpAny_typeOf (T := "zip") hT ?_)
  have q1 : Builtin.List.listSameRef (.ref S) (.ref z) = false := by simp [Builtin.List.listSameRef, hSz]
  have q2 : (Value.type "zip" == Value.type "list") = false := by decide
  have q3 : (Value.type "zip" == Value.type "tuple") = false := by decide
  simp only [q1, q2, q3, Bool.or_false, Bool.false_eq_true, if_false]
  refine wpAny_bind (W.self _ _ s _ hst ?_)
  refine wpAny_bind (wpAny_holding (zl_hint hT fun b => ?_))
  have g0 : ZG S xs ys s.heap [] := ⟨List.Pairwise.nil, (fun _ q => nomatch q), fun j a e => by simp at e⟩
  refine wpAny_ite_split (fun _ => ?_) (fun _ => wpAny_pure ⟨plainId_quiet F.plain_extend_loop _, zl_loop W hh hn res n 0 s #[] c₀ [] rfl (Nat.zero_le _) hst hS rfl rfl (fun _ q => nomatch q) g0 hR⟩)
  refine wpAny_bind (wpAny_rule (wpAny_bind ?_))
  refine wpAny_bind (m := updateSeq S (·.push .none)) (wpAny_updateSeq hS rfl ?_)
  have hS2 := Heap.get?_update_self (Obj.mapSeq (·.push Value.none)) hS rfl
  refine wpAny_updateSeq (hz := by seq_fits) hS2 rfl ?_
  have hS3 := Heap.get?_update_self (Obj.mapSeq (·.pop)) hS2 rfl
  have oth : ∀ b o, b ≠ S → s.heap.get? b = some o → ((s.heap.update S (Obj.mapSeq (·.push Value.none))).update S (Obj.mapSeq (·.pop))).get? b = some o := fun b o hb e => (Heap.get?_update_other _ _ (Ne.symm hb)).trans ((Heap.get?_update_other _ _ (Ne.symm hb)).trans e)
  refine wpAny_pure ⟨plainId_quiet F.plain_extend_loop _, zl_loop W hh hn res n 0 { s with heap := (s.heap.update S (Obj.mapSeq (·.push Value.none))).update S (Obj.mapSeq (·.pop)) } _ _ [] rfl (Nat.zero_le _) (W.keep _ _ _ hst oth) hS3 rfl rfl (fun _ q => nomatch q) ⟨List.Pairwise.nil, (fun _ q => nomatch q), fun j a e => by simp at e⟩ fun h2 acc2 c2 as2 k2 => hR h2 acc2 c2 as2 fun b o b1 b2 e => k2 b o b1 b2 (oth b o b2 e)⟩
theorem zl_init (W : ZW prog w z S fp n xs ys St) (hh : A.handled = none) (hn : n ≤ sizeLine) (hst : St 0 s.heap) (hS : s.heap.get? S = some { cls := .type "list", data := .seq #[] })
    (hR : ∀ h' acc' c' as', (∀ b o, b ∉ fp → b ≠ S → s.heap.get? b = some o → h'.get? b = some o) → h'.get? S = some (LOb acc' c') → acc'.toList = as'.map Value.ref → as'.length = n → ZG S xs ys h' as' → R (.ok (.ret .none)) { s with heap := h' }) :
    wpAny (model prog w) A.in1 (Builtin.«list.__init__» ⟨[.ref S, .ref z], []⟩)
      (fun fin s' => match fin with | .done f => R (.ok f) s' | .again c' => c'.quiet = true ∧ codeAny (model prog w) A c' R s') (fun e s' => R (.error e) s') s := by
  refine wpAny_bind (m := Builtin.List.listItems (.ref S)) ?_
  unfold Builtin.List.listItems
  refine wpAny_bind (wpAny_seqItems hS rfl (wpAny_pure (wpAny_bind (m := updateSeq S (fun _ => #[])) (wpAny_updateSeq hS rfl ?_))))
  have hS2 := Heap.get?_update_self (Obj.mapSeq (fun _ => (#[] : Array Value))) hS rfl
  have oth : ∀ b o, b ≠ S → s.heap.get? b = some o → (s.heap.update S (Obj.mapSeq (fun _ => (#[] : Array Value)))).get? b = some o := fun b o hb e => (Heap.get?_update_other _ _ (Ne.symm hb)).trans e
  refine wpAny_bind (wpAny_letGo (zl_extend (s := { s with heap := s.heap.update S (Obj.mapSeq (fun _ => (#[] : Array Value))) }) W hh hn .none _ (W.keep _ _ _ hst oth) hS2 fun h2 acc2 c2 as2 k2 => hR h2 acc2 c2 as2 fun b o b1 b2 e => k2 b o b1 b2 (oth b o b2 e)))
theorem zl_call {E : Value → Shared → Prop} {Q : Value → Shared → Prop} (W : ZW prog w z s.heap.objs.size fp n xs ys St) (hh : A.handled = none) (hn : n ≤ sizeLine) (hst : St 0 s.heap)
    (hQ : ∀ h' acc' c' as', (∀ b o, b ∉ fp → s.heap.get? b = some o → h'.get? b = some o) → h'.get? s.heap.objs.size = some (LOb acc' c') → acc'.toList = as'.map Value.ref → as'.length = n → ZG s.heap.objs.size xs ys h' as' → Q (.ref s.heap.objs.size) { s with heap := h' }) :
    wpAny (model prog w) A (call (.type "list") [.ref z]) Q E s := by
  refine callType_codes (Q₁ := fun obj s1 => obj = .ref s.heap.objs.size ∧ s1 = { s with heap := s.heap.push { cls := .type "list", data := .seq #[] } }) F.called_list (F.typeCall_list_1 _) F.entry_list_init (code_list_new _ ⟨rfl, rfl⟩) fun obj s1 q => ?_
  obtain ⟨rfl, rfl⟩ := q
  have hS : (s.heap.push { cls := .type "list", data := .seq #[] }).get? s.heap.objs.size = some { cls := .type "list", data := .seq #[] } := Heap.get?_push_size _ rfl
  refine ⟨⟨_, hS, rfl⟩, F.args_list_init_2 _ _, zl_init (A := A.in1) W hh hn (W.keep _ _ _ hst fun c o _ e => Heap.get?_push_of_some _ e) hS fun h2 acc2 c2 as2 k2 a1 a2 a3 a4 => ?_⟩
  exact ⟨rfl, hQ h2 acc2 c2 as2 (fun b o b1 e => k2 b o b1 (Nat.ne_of_lt (Heap.lt_size e)) (Heap.get?_push_of_some _ e)) a1 a2 a3 a4⟩
end
end FC

/-! list(zip(a, b)): the two kinds of sources, and what the heap holds behind it. -/
namespace FC
open PySem PySem.Spec PyProof.Rows L2
/-- behind i pairs of a zip -/
def ZSt (z TI TO S : Addr) (it : Nat → Heap → Prop) (i : Nat) (h : Heap) : Prop :=
  ((i = 0 ∧ IsZip h z TI TO .none ∧ ∃ a b, IsPair h TO a b) ∨ (0 < i ∧ ∃ T f oT, S < T ∧ IsZipHeld h z TI TO T f ∧ h.get? T = some oT)) ∧ it i h
theorem zst_typ {z TI TO S : Addr} {it : Nat → Heap → Prop} {i : Nat} {h : Heap} (q : ZSt z TI TO S it i h) : ∃ o, h.get? z = some o ∧ o.cls = .type "zip" := by
  rcases q.1 with ⟨_, q, _⟩ | ⟨_, _, _, _, _, q, _⟩
  · exact ⟨_, q, rfl⟩
  · exact ⟨_, q, rfl⟩
theorem zst_keep {z TI TO S : Addr} {it : Nat → Heap → Prop} {i : Nat} {h h' : Heap} (hz : z ≠ S) (hO : TO ≠ S) (q : ZSt z TI TO S it i h) (k : ∀ c o, c ≠ S → h.get? c = some o → h'.get? c = some o) (hi : it i h') : ZSt z TI TO S it i h' := by
  refine ⟨?_, hi⟩
  rcases q.1 with ⟨e, q, a, b, q2⟩ | ⟨e, T, f, o, n1, q, q2⟩
  · exact .inl ⟨e, k z _ hz q, a, b, k TO _ hO q2⟩
  · exact .inr ⟨e, T, f, o, n1, k z _ hz q, k T _ (Nat.ne_of_gt n1) q2⟩
section
variable {prog : Program} {w : World} {z TI TO S i1 i2 l1 l2 : Addr} {xs ys : List Value}
theorem zw_list (D : ZipApart z TI TO i1 i2 l1 l2) (hS : ∀ c ∈ [z, TI, TO, i1, i2], c < S) (h1 : l1 < S) (h2 : l2 < S) :
    ZW prog w z S [z, TI, TO, i1, i2] (min xs.length ys.length) xs ys (ZSt z TI TO S fun i h => IsPair h TI (.ref i1) (.ref i2) ∧ h.IsListIter i1 l1 i ∧ h.IsListIter i2 l2 i ∧ h.IsList l1 xs.toArray ∧ h.IsList l2 ys.toArray) := by
  have bz : z < S := hS z (by simp)
  have bI : TI < S := hS TI (by simp)
  have bO : TO < S := hS TO (by simp)
  have b1 : i1 < S := hS i1 (by simp)
  have b2 : i2 < S := hS i2 (by simp)
  refine ⟨hS, by simp, fun A E s i Q hi st hlt hQ => ?_, fun A E s Q hh st hQ => ?_, fun i h h' q k => ?_, fun i h q => zst_typ q, fun A E s Q st hq => ?_⟩
  · obtain ⟨q1, q2, q3, q4, q5, q6⟩ := st
    have ex : xs[i]? = some (xs[i]'(by omega)) := List.getElem?_eq_getElem (by omega)
    have ey : ys[i]? = some (ys[i]'(by omega)) := List.getElem?_eq_getElem (by omega)
    have ex' : xs.toArray[i]? = some (xs[i]'(by omega)) := by simpa using ex
    have ey' : ys.toArray[i]? = some (ys[i]'(by omega)) := by simpa using ey
    rcases q1 with ⟨e, q1, a, b, q7⟩ | ⟨e, T, f, o, t1, q1, q7⟩
    · refine wpAny_pyNext_zip_item D q1 q2 q7 q3 q4 q5 q6 ex' ey' fun h' a1 a2 a3 a4 a5 a6 k => ?_
      refine hQ h' _ _ ex ey ⟨.inr ⟨Nat.succ_pos _, s.heap.objs.size, false, _, hlt, a1, a5⟩, k _ _ D.TIz D.TITO D.TIi1 D.TIi2 q2, a3, a4, q5.at fun o e => k _ o D.l1z D.l1TO D.l1i1 D.l1i2 e, q6.at fun o e => k _ o D.l2z D.l2TO D.l2i1 D.l2i2 e⟩ a5 a6 fun c o hc e => k c o (fun z => hc (by simp [z])) (fun z => hc (by simp [z])) (fun z => hc (by simp [z])) (fun z => hc (by simp [z])) e
    · refine wpAny_pyNext_zip_item_held D q1 q7 q2 q3 q4 q5 q6 ex' ey' fun h' a1 a3 a4 a5 a6 k => ?_
      refine hQ h' _ _ ex ey ⟨.inr ⟨Nat.succ_pos _, T, true, o, t1, a1, k T o (Nat.ne_of_gt (Nat.lt_trans bz t1)) (Nat.ne_of_gt (Nat.lt_trans b1 t1)) (Nat.ne_of_gt (Nat.lt_trans b2 t1)) q7⟩, k _ _ D.TIz D.TIi1 D.TIi2 q2, a3, a4, q5.at fun o e => k _ o D.l1z D.l1i1 D.l1i2 e, q6.at fun o e => k _ o D.l2z D.l2i1 D.l2i2 e⟩ a5 a6 fun c o hc e => k c o (fun z => hc (by simp [z])) (fun z => hc (by simp [z])) (fun z => hc (by simp [z])) e
  · obtain ⟨q1, q2, q3, q4, q5, q6⟩ := st
    have fin : xs.toArray[min xs.length ys.length]? = none ∨ ys.toArray[min xs.length ys.length]? = none := by
      by_cases hle : xs.length ≤ ys.length
      · exact .inl (by simp; omega)
      · exact .inr (by simp; omega)
    rcases q1 with ⟨e, q1, a, b, q7⟩ | ⟨e, T, f, o, t1, q1, q7⟩
    · exact wpAny_pyNext_zip_end hh D q1 q2 q7 q3 q4 q5 q6 fin fun h' k => hQ h' fun c o hc e => k c o (fun z => hc (by simp [z])) (fun z => hc (by simp [z])) (fun z => hc (by simp [z])) (fun z => hc (by simp [z])) e
    · exact wpAny_pyNext_zip_end_held hh D q1 q7 q2 q3 q4 q5 q6 fin fun h' k => hQ h' fun c o hc e => k c o (fun z => hc (by simp [z])) (fun z => hc (by simp [z])) (fun z => hc (by simp [z])) e
  · obtain ⟨q2, q3, q4, q5, q6⟩ := q.2
    exact zst_keep (Nat.ne_of_lt bz) (Nat.ne_of_lt bO) q k ⟨k _ _ (Nat.ne_of_lt bI) q2, q3.at fun o e => k _ o (Nat.ne_of_lt b1) e, q4.at fun o e => k _ o (Nat.ne_of_lt b2) e, q5.at fun o e => k _ o (Nat.ne_of_lt h1) e, q6.at fun o e => k _ o (Nat.ne_of_lt h2) e⟩
  · rcases st.1 with ⟨_, q, _⟩ | ⟨e, _⟩
    · exact wpAny_pyIter_zip q hq
    · cases e
theorem zw_tup (D : ZipApart z TI TO i1 i2 l1 l2) (hS : ∀ c ∈ [z, TI, TO, i1, i2], c < S) (h1 : l1 < S) (h2 : l2 < S) :
    ZW prog w z S [z, TI, TO, i1, i2] (min xs.length ys.length) xs ys (ZSt z TI TO S fun i h => IsPair h TI (.ref i1) (.ref i2) ∧ h.IsTupleIter i1 l1 i ∧ h.IsTupleIter i2 l2 i ∧ h.IsTuple l1 xs.toArray ∧ h.IsTuple l2 ys.toArray) := by
  have bz : z < S := hS z (by simp)
  have bI : TI < S := hS TI (by simp)
  have bO : TO < S := hS TO (by simp)
  have b1 : i1 < S := hS i1 (by simp)
  have b2 : i2 < S := hS i2 (by simp)
  refine ⟨hS, by simp, fun A E s i Q hi st hlt hQ => ?_, fun A E s Q hh st hQ => ?_, fun i h h' q k => ?_, fun i h q => zst_typ q, fun A E s Q st hq => ?_⟩
  · obtain ⟨q1, q2, q3, q4, q5, q6⟩ := st
    have ex : xs[i]? = some (xs[i]'(by omega)) := List.getElem?_eq_getElem (by omega)
    have ey : ys[i]? = some (ys[i]'(by omega)) := List.getElem?_eq_getElem (by omega)
    have ex' : xs.toArray[i]? = some (xs[i]'(by omega)) := by simpa using ex
    have ey' : ys.toArray[i]? = some (ys[i]'(by omega)) := by simpa using ey
    rcases q1 with ⟨e, q1, a, b, q7⟩ | ⟨e, T, f, o, t1, q1, q7⟩
    · refine RZ.pyNext_zipT_item D q1 q2 q7 q3 q4 q5 q6 ex' ey' fun h' a1 a2 a3 a4 a5 a6 k => ?_
      refine hQ h' _ _ ex ey ⟨.inr ⟨Nat.succ_pos _, s.heap.objs.size, false, _, hlt, a1, a5⟩, k _ _ D.TIz D.TITO D.TIi1 D.TIi2 q2, a3, a4, IsTuple.ext q5 fun o e => k _ o D.l1z D.l1TO D.l1i1 D.l1i2 e, IsTuple.ext q6 fun o e => k _ o D.l2z D.l2TO D.l2i1 D.l2i2 e⟩ a5 a6 fun c o hc e => k c o (fun z => hc (by simp [z])) (fun z => hc (by simp [z])) (fun z => hc (by simp [z])) (fun z => hc (by simp [z])) e
    · refine pT_item_held D q1 q7 q2 q3 q4 q5 q6 ex' ey' fun h' a1 a3 a4 a5 a6 k => ?_
      refine hQ h' _ _ ex ey ⟨.inr ⟨Nat.succ_pos _, T, true, o, t1, a1, k T o (Nat.ne_of_gt (Nat.lt_trans bz t1)) (Nat.ne_of_gt (Nat.lt_trans b1 t1)) (Nat.ne_of_gt (Nat.lt_trans b2 t1)) q7⟩, k _ _ D.TIz D.TIi1 D.TIi2 q2, a3, a4, IsTuple.ext q5 fun o e => k _ o D.l1z D.l1i1 D.l1i2 e, IsTuple.ext q6 fun o e => k _ o D.l2z D.l2i1 D.l2i2 e⟩ a5 a6 fun c o hc e => k c o (fun z => hc (by simp [z])) (fun z => hc (by simp [z])) (fun z => hc (by simp [z])) e
  · obtain ⟨q1, q2, q3, q4, q5, q6⟩ := st
    have fin : xs.toArray[min xs.length ys.length]? = none ∨ ys.toArray[min xs.length ys.length]? = none := by
      by_cases hle : xs.length ≤ ys.length
      · exact .inl (by simp; omega)
      · exact .inr (by simp; omega)
    rcases q1 with ⟨e, q1, a, b, q7⟩ | ⟨e, T, f, o, t1, q1, q7⟩
    · exact RZ.pyNext_zipT_end hh D q1 q2 q7 q3 q4 q5 q6 fin fun h' k => hQ h' fun c o hc e => k c o (fun z => hc (by simp [z])) (fun z => hc (by simp [z])) (fun z => hc (by simp [z])) (fun z => hc (by simp [z])) e
    · exact pT_end_held hh D q1 q7 q2 q3 q4 q5 q6 fin fun h' k => hQ h' fun c o hc e => k c o (fun z => hc (by simp [z])) (fun z => hc (by simp [z])) (fun z => hc (by simp [z])) e
  · obtain ⟨q2, q3, q4, q5, q6⟩ := q.2
    exact zst_keep (Nat.ne_of_lt bz) (Nat.ne_of_lt bO) q k ⟨k _ _ (Nat.ne_of_lt bI) q2, IsTupleIter.ext q3 fun o e => k _ o (Nat.ne_of_lt b1) e, IsTupleIter.ext q4 fun o e => k _ o (Nat.ne_of_lt b2) e, IsTuple.ext q5 fun o e => k _ o (Nat.ne_of_lt h1) e, IsTuple.ext q6 fun o e => k _ o (Nat.ne_of_lt h2) e⟩
  · rcases st.1 with ⟨_, q, _⟩ | ⟨e, _⟩
    · exact wpAny_pyIter_zip q hq
    · cases e
end
/-- new tuples, tracked at their addresses -/
def putP : Hp → List Addr → List (V × V) → Hp
  | H, a :: as, p :: ps => putP (upd H a (.tup [p.1, p.2])) as ps
  | H, _, _ => H
theorem putP_off {b : Addr} : ∀ (as : List Addr) (ps : List (V × V)) (H : Hp), b ∉ as → putP H as ps b = H b
  | [], _, _, _ => rfl
  | _ :: _, [], _, _ => rfl
  | a :: as, p :: ps, H, h => by
    unfold putP
    rw [putP_off as ps _ (fun z => h (List.mem_cons_of_mem _ z)), upd_ne (fun z => h (by rw [z]; exact List.mem_cons_self))]
theorem putP_at : ∀ (as : List Addr) (ps : List (V × V)) (H : Hp), as.length = ps.length → as.Nodup → ∀ (j : Nat) (a : Addr), as[j]? = some a → ∃ p, ps[j]? = some p ∧ putP H as ps a = some (.tup [p.1, p.2])
  | [], _, _, _, _, j, a, e => by simp at e
  | _ :: _, [], _, h, _, _, _, _ => by cases h
  | a :: as, p :: ps, H, h, hn, 0, b, e => by
    have e : a = b := by simpa using e
    subst e
    refine ⟨p, rfl, ?_⟩
    unfold putP
    rw [putP_off as ps _ (List.nodup_cons.mp hn).1, upd_same]
  | a :: as, p :: ps, H, h, hn, j + 1, b, e => by
    obtain ⟨q, e1, e2⟩ := putP_at as ps (upd H a (.tup [p.1, p.2])) (Nat.succ.inj h) (List.nodup_cons.mp hn).2 j b (by simpa using e)
    exact ⟨q, by simpa using e1, e2⟩
theorem vals_ref : ∀ as : List Addr, Vals (as.map V.ref) (as.map Value.ref)
  | [] => .nil
  | _ :: as => .cons rfl (vals_ref as)
theorem vals_get {us : List Value} : ∀ {vs : List V}, Vals vs us → ∀ {j : Nat} {u : Value}, us[j]? = some u → ∃ v, vs[j]? = some v ∧ RelV v u := by
  induction us with
  | nil => intro vs _ j u e; simp at e
  | cons u0 us ih =>
    intro vs h j u e
    cases h with
    | cons r t =>
      cases j with
      | zero => have e : u0 = u := by simpa using e
                subst e; exact ⟨_, rfl, r⟩
      | succ j => obtain ⟨v, e1, e2⟩ := ih t (j := j) (u := u) (by simpa using e); exact ⟨v, by simpa using e1, e2⟩
theorem zip_laid {X : Cx} {pins : List (Addr × Obj)} {σ : L2.St} {H : Hp} {s : Shared} {h' : Heap} {xs ys : List V} {us vs : List Value} {acc : Array Value} {c S : Nat} {as : List Addr} (I : Inv X pins σ H s) (rx : Vals xs us) (ry : Vals ys vs) (hn : (xs.zip ys).length ≤ sizeLine) (hS0 : s.heap.objs.size ≤ S)
    (hk : ∀ b o, s.heap.get? b = some o → h'.get? b = some o) (hS : h'.get? S = some (LOb acc c)) (hl : as.length = (xs.zip ys).length) (hG : ZG S us vs h' as) (hacc : acc.toList = as.map Value.ref) :
    Inv X pins σ (putP (upd H S (.lst (as.map V.ref))) as (xs.zip ys)) { s with heap := h' } ∧ H S = none ∧ (∀ t ∈ as, H t = none) ∧ S ∉ as ∧ as.Nodup := by
  have hSn : S ∉ as := fun z => Nat.lt_irrefl _ (hG.above _ z)
  have nd : as.Nodup := List.Pairwise.imp (fun {a b} (h : a < b) => Nat.ne_of_lt h) hG.rise
  have new : ∀ t ∈ as, H t = none := fun t ht => I.hok.fresh (Nat.le_of_lt (Nat.lt_of_le_of_lt hS0 (hG.above t ht)))
  have newS : H S = none := I.hok.fresh hS0
  have off : ∀ b, b ∉ as → b ≠ S → putP (upd H S (.lst (as.map V.ref))) as (xs.zip ys) b = H b := fun b h1 h2 => by rw [putP_off as _ _ h1, upd_ne h2]
  have low : ∀ b o, s.heap.get? b = some o → b ∉ as ∧ b ≠ S := fun b o e => ⟨fun z => absurd (Heap.lt_size e) (Nat.not_lt.mpr (Nat.le_of_lt (Nat.lt_of_le_of_lt hS0 (hG.above b z)))), fun z => absurd (Heap.lt_size e) (Nat.not_lt.mpr (by rw [z]; exact hS0))⟩
  have kp : ∀ b u, H b = some u → putP (upd H S (.lst (as.map V.ref))) as (xs.zip ys) b = some u := fun b u e => by
    rw [off b (fun z => by rw [new b z] at e; cases e) (fun z => by rw [z, newS] at e; cases e)]; exact e
  have eS : putP (upd H S (.lst (as.map V.ref))) as (xs.zip ys) S = some (.lst (as.map V.ref)) := by rw [putP_off as _ _ hSn, upd_same]
  refine ⟨?_, newS, new, hSn, nd⟩
  refine I.call' (ch := []) rfl ⟨fun b o q _ _ _ => hk b o q, fun b o q _ _ _ => ⟨o.slots, hk b o q⟩, fun b o q n _ => by obtain ⟨z1, z2⟩ := low b o q; rw [off b z1 z2]; exact n, fun b o q _ => ⟨o, hk b o q⟩, fun b xs q => kp b _ q, fun b o u q => kp b _ q, fun b ps q => ⟨#[], by rw [kp b _ q]; simp⟩⟩ (fun b u q => ?_) I.bare fun b z => by simp at z
  by_cases hb : b ∈ as
  · obtain ⟨j, hj, ej⟩ := List.getElem_of_mem hb
    have ej' : as[j]? = some b := by rw [List.getElem?_eq_getElem hj, ej]
    obtain ⟨p, e1, e2⟩ := putP_at as (xs.zip ys) (upd H S (.lst (as.map V.ref))) hl nd j b ej'
    rw [e2] at q
    cases q
    obtain ⟨x, y, f1, f2, f3⟩ := hG.pairs j b ej'
    obtain ⟨v1, g1, r1⟩ := vals_get rx f1
    obtain ⟨v2, g2, r2⟩ := vals_get ry f2
    have : p = (v1, v2) := by
      rw [List.getElem?_zip_eq_some (z := (v1, v2)) |>.mpr ⟨g1, g2⟩] at e1
      cases e1; rfl
    subst this
    exact ⟨by show 2 ≤ sizeLine; decide, [x, y], .cons r1 (.cons r2 .nil), ⟨_, f3, rfl, _, rfl⟩⟩
  · by_cases hb2 : b = S
    · subst hb2
      rw [eS] at q
      cases q
      refine ⟨by rw [List.length_map, hl]; exact hn, acc.toList, c, by rw [hacc]; exact vals_ref as, ?_⟩
      rw [Array.toArray_toList]
      exact hS
    · rw [off b hb hb2] at q
      exact (I.hok b u q).stay (fun d v _ y => hk d v y) (fun d y => kp d _ y) fun d xs y => kp d _ y
/-- what list(zip(x, y)) gives -/
def rZipL (K : PySem.W.Frag) : List V → Hp → VK → Prop := fun vs H Q => ∃ a b xs ys, vs = [.ref a, .ref b] ∧ ((SqL K H a xs ∧ SqL K H b ys) ∨ (SqT K H a xs ∧ SqT K H b ys)) ∧
  ∀ (p : Addr) (ts : List Addr), H p = none → (∀ t ∈ ts, H t = none) → p ∉ ts → ts.Nodup → ts.length = (xs.zip ys).length → Q (.ref p) (putP (upd H p (.lst (ts.map V.ref))) ts (xs.zip ys))
theorem pe_listZip {X : Cx} {e e2 : Expr} {ta : TA} {p p2 pos pos2 : Pos} (hc : X.calm = true) (hg : Gl X "list") (hm : X.mg "list" = none) (hg2 : Gl X "zip") (hm2 : X.mg "zip" = none) (ha : PA X [e, e2] ta)
    (hs : starEach [e, e2] X.env = (false, eval e X.env) :: starEach [e2] X.env) (hpl : (backTo pos2 (starEach [e2] X.env)).any (·.1) = false) :
    PE X (.Call (.Name "list" p) [.Call (.Name "zip" p2) [e, e2] [] pos2] [] pos) (fun σ H Q => ta σ H fun vs H1 => rZipL X.K vs H1 Q) := by
  refine ⟨fun pins s σ H Q I h => ?_⟩
  refine Call_ (ld_blt I hg hm boot_list (PyProof.Rows.callWith_type1 (args_cons (Call_ (ld_blt I hg2 hm2 PyProof.Rows.boot_zip (PyProof.Rows.callWith_type1 (thn (ha.run pos2 pins s σ H _ I h) fun us s1 ⟨vs, H1, I1, r1, q1⟩ => ?_) hs hpl))) rfl) rfl))
  obtain ⟨a, b, xs, ys, ex, hq, q⟩ := q1
  subst ex
  cases r1 with
  | cons r rr =>
    cases rr with
    | cons r' rr =>
      cases rr
      cases r
      cases r'
      have hhd := I1.ok.hd hc
      have fin : ∀ (its its2 : List Value) (h' : Heap) (St : Nat → Heap → Prop), Vals xs its → Vals ys its2 → xs.length ≤ sizeLine → h'.objs.size = s1.heap.objs.size + 5 → (∀ c o, s1.heap.get? c = some o → h'.get? c = some o) → St 0 h' →
          ZW X.prog X.w (s1.heap.objs.size + 4) h'.objs.size [s1.heap.objs.size + 4, s1.heap.objs.size + 2, s1.heap.objs.size + 3, s1.heap.objs.size, s1.heap.objs.size + 1] (min its.length its2.length) its its2 St →
          wpAny (model X.prog X.w) X.A (call (.type "list") [.ref (s1.heap.objs.size + 4)]) (fun r s' => ∃ x H', Inv X pins σ H' s' ∧ RelV x r ∧ Q x H') X.xe { s1 with heap := h' } := by
        intro its its2 h' St rv rv2 hz1 hsz hk st W
        have hle : (xs.zip ys).length ≤ sizeLine := by rw [List.length_zip]; exact Nat.le_trans (Nat.min_le_left _ _) hz1
        have hlz : (xs.zip ys).length = min its.length its2.length := by rw [List.length_zip, rv.length, rv2.length]
        refine zl_call (s := { s1 with heap := h' }) W hhd (by rw [← hlz]; exact hle) st fun h2 acc c as k2 hS hacc hl hG => ?_
        have hS0 : s1.heap.objs.size ≤ h'.objs.size := by rw [hsz]; exact Nat.le_add_right _ _
        have kk : ∀ b o, s1.heap.get? b = some o → h2.get? b = some o := fun b o e => by
          refine k2 b o (fun z => ?_) (hk b o e)
          have hb := Heap.lt_size e
          simp only [List.mem_cons, List.not_mem_nil, or_false] at z
          rcases z with z | z | z | z | z <;> rw [z] at hb <;> first | exact absurd hb (Nat.not_lt.mpr (Nat.le_add_right _ _)) | exact absurd hb (Nat.lt_irrefl _)
        obtain ⟨J, n1, n2, n3, n4⟩ := zip_laid (s := s1) (h' := h2) I1 rv rv2 hle hS0 kk hS (hl.trans hlz.symm) hG hacc
        exact ⟨.ref h'.objs.size, _, J, rfl, q _ as n1 n2 n3 n4 (hl.trans hlz.symm)⟩
      have low : ∀ h' : Heap, h'.objs.size = s1.heap.objs.size + 5 → ∀ c ∈ [s1.heap.objs.size + 4, s1.heap.objs.size + 2, s1.heap.objs.size + 3, s1.heap.objs.size, s1.heap.objs.size + 1], c < h'.objs.size := fun h' e c hcm => by
        rw [e]
        simp only [List.mem_cons, List.not_mem_nil, or_false] at hcm
        rcases hcm with z | z | z | z | z <;> rw [z]
        · exact Nat.add_lt_add_left (by decide) _
        · exact Nat.add_lt_add_left (by decide) _
        · exact Nat.add_lt_add_left (by decide) _
        · exact Nat.lt_add_of_pos_right (by decide)
        · exact Nat.add_lt_add_left (by decide) _
      have up : ∀ (h' : Heap) (c : Addr), h'.objs.size = s1.heap.objs.size + 5 → c < s1.heap.objs.size → c < h'.objs.size := fun h' c e z => by rw [e]; exact Nat.lt_of_lt_of_le z (Nat.le_add_right _ _)
      rcases hq with ⟨hqx, hqy⟩ | ⟨hqx, hqy⟩
      · obtain ⟨its, rv, p1, hz1⟩ := I1.list hqx
        obtain ⟨its2, rv2, p3, hz2⟩ := I1.list hqy
        refine call_zip_2 p1.isList p3.isList fun h' hz hTI hTO h1 h2 hsz hk => args_nil ?_
        exact fin its its2 h' _ rv rv2 hz1 hsz hk ⟨.inl ⟨rfl, hz, _, _, hTO⟩, hTI, h1, h2, p1.isList.at fun o e => hk _ o e, p3.isList.at fun o e => hk _ o e⟩ (zw_list (PySem.W.ktu_apart s1.heap.objs.size a b p1.lt p3.lt) (low h' hsz) (up h' a hsz p1.lt) (up h' b hsz p3.lt))
      · obtain ⟨its, rv, p1, hz1⟩ := I1.tuple hqx
        obtain ⟨its2, rv2, p3, hz2⟩ := I1.tuple hqy
        obtain ⟨o1, ho1, _⟩ := id p1
        obtain ⟨o2, ho2, _⟩ := id p3
        have t1 : s1.heap.IsTuple a its.toArray := p1
        have t2 : s1.heap.IsTuple b its2.toArray := p3
        refine RZ.call_zipT t1 t2 fun h' hz hTI hTO h1 h2 hsz hk => args_nil ?_
        exact fin its its2 h' _ rv rv2 hz1 hsz hk ⟨.inl ⟨rfl, hz, _, _, hTO⟩, hTI, h1, h2, IsTuple.ext t1 fun o e => hk _ o e, IsTuple.ext t2 fun o e => hk _ o e⟩ (zw_tup (PySem.W.ktu_apart s1.heap.objs.size a b (Heap.lt_size ho1) (Heap.lt_size ho2)) (low h' hsz) (up h' a hsz (Heap.lt_size ho1)) (up h' b hsz (Heap.lt_size ho2)))
theorem rps_of {K : PySem.W.Frag} {F : Hp} : ∀ {vs : List V} {ds : List D}, vs.length = ds.length → (∀ (j : Nat) (v : V) (d : D), vs[j]? = some v → ds[j]? = some d → Rp K F v d) → Rps K F vs ds
  | [], [], _, _ => .nil
  | [], _ :: _, h, _ => by cases h
  | _ :: _, [], h, _ => by cases h
  | v :: vs, d :: ds, h, f => .cons (f 0 v d rfl rfl) (rps_of (Nat.succ.inj h) fun j v d e1 e2 => f (j + 1) v d (by simpa using e1) (by simpa using e2))
theorem zipD_at : ∀ {xs ys : List D} {i : Nat} {d : D}, (zipD xs ys)[i]? = some d → ∃ x y, xs[i]? = some x ∧ ys[i]? = some y ∧ d = .tuple [x, y]
  | [], _, _, _, e => by simp [zipD] at e
  | _ :: _, [], _, _, e => by simp [zipD] at e
  | x :: xs, y :: ys, 0, d, e => by
    have e : PyData.tuple [x, y] = d := by simpa [zipD] using e
    exact ⟨x, y, rfl, rfl, e.symm⟩
  | x :: xs, y :: ys, i + 1, d, e => by
    obtain ⟨a, b, h1, h2, h3⟩ := zipD_at (xs := xs) (ys := ys) (i := i) (d := d) (by simpa [zipD] using e)
    exact ⟨a, b, by simpa using h1, by simpa using h2, h3⟩
theorem zipD_size : ∀ (xs ys : List D), (zipD xs ys).length = min xs.length ys.length
  | [], _ => by simp [zipD]
  | _ :: _, [] => by simp [zipD]
  | x :: xs, y :: ys => by simp [zipD, zipD_size xs ys]
theorem zipL_out {K : PySem.W.Frag} {F H : Hp} {Q : VK} {xs ys : List V} {ds es : List D} (sub : Same F H) (r1 : Rps K F xs ds) (r2 : Rps K F ys es) (out : Out true K F H (.list (zipD ds es)) Q)
    (p : Addr) (ts : List Addr) (hp : H p = none) (ht : ∀ t ∈ ts, H t = none) (hpt : p ∉ ts) (nd : ts.Nodup) (hl : ts.length = (xs.zip ys).length) : Q (.ref p) (putP (upd H p (.lst (ts.map V.ref))) ts (xs.zip ys)) := by
  have kH : ∀ b o, H b = some o → putP (upd H p (.lst (ts.map V.ref))) ts (xs.zip ys) b = some o := fun b o e => by
    rw [putP_off ts _ _ (fun z => by rw [ht b z] at e; cases e), upd_ne (fun z => by rw [z, hp] at e; cases e)]; exact e
  have kF : ∀ b o, F b = some o → putP F ts (xs.zip ys) b = some o := fun b o e => by
    rw [putP_off ts _ _ (fun z => by have := sub b o e; rw [ht b z] at this; cases this)]; exact e
  have fp : F p = none := none_sub sub hp
  refine out (.ref p) (putP F ts (xs.zip ys)) _ ⟨kF, fun b o _ e => kH b o e, fun b _ e n => ?_, fun b e => ?_⟩ (fun b u e => ?_) ?_
  · rw [putP_off ts _ _ (fun z => n (ht b z))]; exact e
  · cases q : H b with
    | none => exact absurd q e
    | some o => rw [kH b o q]; intro z; cases z
  · by_cases hb : b ∈ ts
    · obtain ⟨j, hj, ej⟩ := List.getElem_of_mem hb
      have ej' : ts[j]? = some b := by rw [List.getElem?_eq_getElem hj, ej]
      obtain ⟨q1, e1, e2⟩ := putP_at ts (xs.zip ys) F hl nd j b ej'
      obtain ⟨q2, e3, e4⟩ := putP_at ts (xs.zip ys) (upd H p (.lst (ts.map V.ref))) hl nd j b ej'
      rw [e1] at e3; cases e3
      rw [e2] at e; cases e
      exact e4
    · rw [putP_off ts _ _ hb] at e
      exact kH b u (sub b u e)
  · rw [if_pos (by rfl)]
    refine ⟨p, rfl, hp, by rw [putP_off ts _ _ hpt]; exact fp, ts.map V.ref, by rw [putP_off ts _ _ hpt, upd_same], rps_of ?_ fun j v d e1 e2 => ?_⟩
    · rw [List.length_map, hl, List.length_zip, zipD_size, r1.length, r2.length]
    · rw [List.getElem?_map] at e1
      cases et : ts[j]? with
      | none => rw [et] at e1; cases e1
      | some t =>
        rw [et] at e1
        have ev : V.ref t = v := by simpa using e1
        subst ev
        obtain ⟨x, y, f1, f2, rfl⟩ := zipD_at e2
        obtain ⟨v1, g1, w1⟩ := r1.get f1
        obtain ⟨v2, g2, w2⟩ := r2.get f2
        obtain ⟨q1, h1, h2⟩ := putP_at ts (xs.zip ys) F hl nd j t et
        have : q1 = (v1, v2) := by
          rw [List.getElem?_zip_eq_some (z := (v1, v2)) |>.mpr ⟨g1, g2⟩] at h1
          cases h1; rfl
        subst this
        exact .tup (.inl (.inl h2)) (.cons (Rp.same kF w1) (.cons (Rp.same kF w2) .nil))
theorem ro_listZ {K : PySem.W.Frag} {vs : List V} {H : Hp} {Q : VK} (h : OpRd K .listZ vs H Q) : rZipL K vs H Q := by
  obtain ⟨F, ds, d, sub, trs, hd, out⟩ := h
  obtain ⟨d1, d2, rfl, hd⟩ := op_two hd (fun _ => rfl) (fun _ _ _ => rfl)
  obtain ⟨x, y, rfl, t1, t2⟩ := two_of trs
  change opListZ d1 d2 = some d at hd
  cases d1 <;> cases d2 <;> simp only [opListZ] at hd <;> first | (cases hd; done) | skip
  · cases hd
    obtain ⟨a, xs, rfl, h1, r1⟩ := t1.list sub
    obtain ⟨b, ys, rfl, h2, r2⟩ := t2.list sub
    exact ⟨a, b, xs, ys, rfl, .inl ⟨.inl h1, .inl h2⟩, fun p ts hp ht hpt nd hl => zipL_out sub r1 r2 out p ts hp ht hpt nd hl⟩
  · cases hd
    obtain ⟨a, xs, rfl, h1, _, r1⟩ := t1.tuple sub
    obtain ⟨b, ys, rfl, h2, _, r2⟩ := t2.tuple sub
    exact ⟨a, b, xs, ys, rfl, .inr ⟨h1, h2⟩, fun p ts hp ht hpt nd hl => zipL_out sub r1 r2 out p ts hp ht hpt nd hl⟩
end FC

/-! Part 4: the check of an inner text against the given syntax. -/
namespace FC
open PySem PySem.Spec PyProof.Rows L2

structure Sig where
  name : Str
  ps : List Str
  modes : List Bool
  own : Bool
  kws : List (Nat × List Str × List Nat) := []
structure Gam where
  N : List Str
  sigs : List Sig
  globs : List (Str × D)
structure Scp where
  sc : Scope
  fn : Str → Bool

def ns : Expr → Bool
  | .Starred .. => false
  | _ => true
def visB (q : Scp) (x : Str) : Bool := match q.sc.names.lookup x with
  | some .local => true
  | some .cell => true
  | some .free => true
  | _ => false
def locB (q : Scp) (x : Str) : Bool := match q.sc.names.lookup x with
  | some .local => true
  | some .cell => q.fn x
  | _ => false
def vis (Γ : Gam) (q : Scp) (i : Nat) : Expr → Bool
  | .Name x _ => (Γ.N[i]? == some x) && visB q x && !(x == ("__debug__" : Str)) && !(x == ("__classdict__" : Str))
  | _ => false
def tgn (Γ : Gam) (q : Scp) (i : Nat) : Expr → Bool
  | .Name x _ => (Γ.N[i]? == some x) && locB q x
  | _ => false
def tgns (Γ : Gam) (q : Scp) : List Nat → List Expr → Bool
  | [], [] => true
  | i :: is, x :: xs => tgn Γ q i x && tgns Γ q is xs
  | _, _ => false
def mTg (Γ : Gam) (q : Scp) : Tg → Expr → Bool
  | .nm i, x => tgn Γ q i x
  | .tp is, .Tuple xs _ _ => tgns Γ q is xs && decide is.Nodup
  | _, _ => false
def gl (q : Scp) (x : Str) : Bool := q.sc.names.lookup x == some .globalImplicit
def conOk : D → Expr → Bool
  | .none, .Constant .none _ _ => true
  | .bool b, .Constant (.bool c) _ _ => b == c
  | .int i, .Constant (.int j) _ _ => decide (i = j)
  | .str x, .Constant (.str y) _ _ => decide (x = y)
  | _, _ => false
def noSlice : Expr → Bool
  | .Slice .. => false
  | _ => true
def notCall0 : Expr → Bool
  | .Call _ [] [] _ => false
  | _ => true
def noSet : Expr → Bool
  | .Set .. => false
  | _ => true
/-- a call of a built-in by its name, with one argument -/
def bi1 (q : Scp) (n : Str) : Expr → Option (List Expr)
  | .Call (.Name x _) [a] [] _ => if x == n && gl q n then some [a] else none
  | _ => none
def bi2 (q : Scp) (n : Str) : Expr → Option (List Expr)
  | .Call (.Name x _) [a, b] [] _ => if x == n && gl q n then some [a, b] else none
  | _ => none
def tyE (q : Scp) (t : Ty) : Expr → Bool
  | .Name x _ => x == (Str.ofString (tyN t)) && gl q (Str.ofString (tyN t))
  | _ => false
def tyEs (q : Scp) : List Ty → List Expr → Bool
  | [], [] => true
  | t :: ts, x :: xs => tyE q t x && tyEs q ts xs
  | _, _ => false
def rangeArg (q : Scp) : Expr → Option (List Expr)
  | .Call (.Name x _) [a] [] _ => if x == "range" && gl q "range" then some [a] else none
  | _ => none

def opArgs (q : Scp) : Op → Expr → Option (List Expr)
  | .add, .BinOp a .Add b _ => some [a, b]
  | .sub, .BinOp a .Sub b _ => some [a, b]
  | .mul, .BinOp a .Mult b _ => some [a, b]
  | .fdiv, .BinOp a .FloorDiv b _ => some [a, b]
  | .mod, .BinOp a .Mod b _ => some [a, b]
  | .pow, .BinOp a .Pow b _ => some [a, b]
  | .neg, .UnaryOp .USub a _ => some [a]
  | .eq, .Compare a [.Eq] [b] _ => some [a, b]
  | .ne, .Compare a [.NotEq] [b] _ => some [a, b]
  | .lt, .Compare a [.Lt] [b] _ => some [a, b]
  | .le, .Compare a [.LtE] [b] _ => some [a, b]
  | .gt, .Compare a [.Gt] [b] _ => some [a, b]
  | .ge, .Compare a [.GtE] [b] _ => some [a, b]
  | .isN, .Compare a [.Is] [.Constant .none _ _] _ => some [a]
  | .notN, .Compare a [.IsNot] [.Constant .none _ _] _ => some [a]
  | .isB b, .Compare a [.Is] [.Constant (.bool c) _ _] _ => if b == c then some [a] else none
  | .notB b, .Compare a [.IsNot] [.Constant (.bool c) _ _] _ => if b == c then some [a] else none
  | .inn, .Compare a [.In] [b] _ => if noSet b then some [a, b] else none
  | .notin, .Compare a [.NotIn] [b] _ => if noSet b then some [a, b] else none
  | .ix, .Subscript a b _ => if noSlice b then some [a, b] else none
  | .sl false false, .Subscript a (.Slice none none none _) _ => some [a]
  | .sl true false, .Subscript a (.Slice (some l) none none _) _ => some [a, l]
  | .sl false true, .Subscript a (.Slice none (some u) none _) _ => some [a, u]
  | .rev, .Subscript a (.Slice none none (some (.UnaryOp .USub (.Constant (.int j) _ _) _)) _) _ => if j = 1 then some [a] else none
  | .len, x => bi1 q "len" x
  | .abs, x => bi1 q "abs" x
  | .int, x => bi1 q "int" x
  | .list, x => bi1 q "list" x
  | .tuple, x => bi1 q "tuple" x
  | .listR, x => match bi1 q "list" x with
    | some [r] => rangeArg q r
    | _ => none
  | .tupleR, x => match bi1 q "tuple" x with
    | some [r] => rangeArg q r
    | _ => none
  | .listZ, x => match bi1 q "list" x with
    | some [r] => bi2 q "zip" r
    | _ => none
  | .listR2, x => match bi1 q "list" x with
    | some [r] => bi2 q "range" r
    | _ => none
  | .sorted, x => bi1 q "sorted" x
  | .sum, x => bi1 q "sum" x
  | .max1, x => bi1 q "max" x
  | .min1, x => bi1 q "min" x
  | .max2, x => bi2 q "max" x
  | .min2, x => bi2 q "min" x
  | .all, x => bi1 q "all" x
  | .any, x => bi1 q "any" x
  | .isi t, x => match bi2 q "isinstance" x with
    | some [a, b] => if tyE q t b then some [a] else none
    | _ => none
  | .isis ts, x => match bi2 q "isinstance" x with
    | some [a, .Tuple bs _ _] => if tyEs q ts bs && bs.all ns && decide (bs.length ≤ 100) then some [a] else none
    | _ => none
  | _, _ => none

def copOf : Op → Option CmpOp
  | .lt => some .Lt
  | .le => some .LtE
  | .gt => some .Gt
  | .ge => some .GtE
  | _ => none
def muName : Mu → Str
  | .append => "append"
  | .extend => "extend"
  | .pop0 => "pop"
  | .pop1 => "pop"
def muN : Mu → Nat
  | .append => 1
  | .extend => 1
  | .pop0 => 0
  | .pop1 => 1
def mtName : Mt → Str
  | .endswith => "endswith"
  | .index => "index"
  | .get1 => "get"
  | .get2 => "get"
def mtN : Mt → Nat
  | .endswith => 1
  | .index => 1
  | .get1 => 1
  | .get2 => 2
/-- the modes of the arguments as they are written -/
def modeOf : Ex → Option Bool
  | .lend _ => some true
  | .give _ => some true
  | .pk _ => none
  | _ => some false
def lendOf : Ex → Option Nat
  | .lend i => some i
  | _ => none
def listE : Ex → List Ex
  | .cons e es => e :: listE es
  | _ => []
/-- yields an object of its own -/
def fresh (sigs : List Sig) : Ex → Bool
  | .op o _ => opFresh o
  | .sl2 .. => true
  | .lst _ => true
  | .dct0 => true
  | .dct1 .. => true
  | .comp .. => true
  | .comp2 .. => true
  | .dcomp .. => true
  | .call f _ _ => match sigs[f]? with
    | some s => s.own
    | none => false
  | .or a b => fresh sigs a && fresh sigs b
  | .nev => true
  | _ => false
def kwVal : Keyword → Expr
  | ⟨_, v, _⟩ => v
def kwName : Keyword → Option Str
  | ⟨n, _, _⟩ => n
def kwNamed : Keyword → Bool
  | ⟨some _, _, _⟩ => true
  | ⟨none, _, _⟩ => false
def blkSc (q : Scp) (scope : Scope) : Scp := { sc := relS scope q.sc, fn := fun x => scope.names.lookup x == some .cell }

/-- these hand out a tuple: the target must be one -/
def needTup : Ex → Bool
  | .itEnum _ => true
  | .itZip _ => true
  | .itItems _ => true
  | _ => false
def isTup : Tg → Bool
  | .tp _ => true
  | _ => false
structure Mm where
  e : Scp → Expr → Bool := fun _ _ => false
  es : Scp → List Expr → Bool := fun _ _ => false
  it : Scp → Expr → Bool := fun _ _ => false

def mm (Γ : Gam) : Ex → Mm
  | .con d => { e := fun _ x => conOk d x }
  | .glob y d => { e := fun q x => match x with
      | .Name z _ => z == y && gl q y && (Γ.globs.any fun p => p.1 == y && conOk d (match p.2 with
          | .int i => .Constant (.int i) 0 ⟨0, 0, 0, 0⟩
          | .str t => .Constant (.str t) 0 ⟨0, 0, 0, 0⟩
          | _ => .Constant .none 0 ⟨0, 0, 0, 0⟩)) && !(y == ("__debug__" : Str))
      | _ => false }
  | .var i => { e := fun q x => vis Γ q i x }
  | .pk i => { e := fun q x => vis Γ q i x }
  | .lend i => { e := fun q x => vis Γ q i x }
  | .give e => { e := fun q x => fresh Γ.sigs e && (mm Γ e).e q x }
  | .op o es => { e := fun q x => match opArgs q o x with
      | some xs => (mm Γ es).es q xs
      | none => false }
  | .not a => { e := fun q x => match x with
      | .UnaryOp .Not y _ => (mm Γ a).e q y
      | _ => false }
  | .and a b => { e := fun q x => match x with
      | .BoolOp .And [y, z] _ => (mm Γ a).e q y && (mm Γ b).e q z
      | .BoolOp .And (y :: z :: w :: r) p => (mm Γ a).e q y && (mm Γ b).e q (.BoolOp .And (z :: w :: r) p)
      | _ => false }
  | .or a b => { e := fun q x => match x with
      | .BoolOp .Or [y, z] _ => (mm Γ a).e q y && (mm Γ b).e q z
      | .BoolOp .Or (y :: z :: w :: r) p => (mm Γ a).e q y && (mm Γ b).e q (.BoolOp .Or (z :: w :: r) p)
      | _ => false }
  | .chain o o' a b c => { e := fun q x => match x with
      | .Compare y [c1, c2] [z, w] _ => (copOf o == some c1) && (copOf o' == some c2) && (mm Γ a).e q y && (mm Γ b).e q z && (mm Γ c).e q w
      | _ => false }
  | .ife c a b => { e := fun q x => match x with
      | .IfExp t y z _ => (mm Γ c).e q t && (mm Γ a).e q y && (mm Γ b).e q z
      | _ => false }
  | .tup es => { e := fun q x => match x with
      | .Tuple xs _ _ => (mm Γ es).es q xs
      | _ => false }
  | .lst es => { e := fun q x => match x with
      | .List xs _ => (mm Γ es).es q xs
      | _ => false }
  | .dct0 => { e := fun _ x => match x with
      | .Dict [] [] _ => true
      | _ => false }
  | .dct1 k v => { e := fun q x => match x with
      | .Dict [some y] [z] _ => (mm Γ k).e q y && (mm Γ v).e q z
      | _ => false }
  | .call f perm es => { e := fun q x => match x with
      | .Call (.Name y _) xs kws _ => match Γ.sigs[f]? with
        | some s => s.name == y && gl q y && !(y == ("__debug__" : Str)) && (mm Γ es).es q (xs ++ kws.map kwVal)
            && (if kws.isEmpty then decide (perm = List.range s.ps.length) && (xs.length == s.ps.length) else (kws.all kwNamed) && s.kws.contains (xs.length, kws.filterMap kwName, perm))
            && decide (perm.map (fun i => ((listE es)[i]?).bind modeOf) = s.modes.map some) && (s.ps.length == s.modes.length)
            && decide ((listE es).filterMap lendOf).Nodup && decide perm.Nodup
        | none => false
      | _ => false }
  | .mu m i es => { e := fun q x => match x with
      | .Call (.Attribute o n ap) xs [] cp => n == muName m && vis Γ q i o && (ap.endLine == cp.line) && (mm Γ es).es q xs && (xs.length == muN m)
      | _ => false }
  | .mt m o es => { e := fun q x => match x with
      | .Call (.Attribute y n ap) xs [] cp => n == mtName m && (mm Γ o).e q y && notCall0 y && (ap.endLine == cp.line) && (mm Γ es).es q xs && (xs.length == mtN m)
      | _ => false }
  | .sl2 a lo hi => { e := fun q x => match x with
      | .Subscript y (.Slice (some l) (some u) none _) _ => (mm Γ a).e q y && (mm Γ lo).e q l && (mm Γ hi).e q u
      | _ => false }
  | .comp e t it ifs => { e := fun q x => match x with
      | .ListComp elt [⟨tg, iter, cs, k⟩] scope _ => (k == 0) && noSet iter && (!needTup it || isTup t) && (mm Γ it).it q iter && mTg Γ (blkSc q scope) t tg && blkC Γ.N q.sc scope (t.slots.filterMap fun i => (Γ.N[i]?).map fun n => (n, i))
          && decide ((t.slots.filterMap fun i => (Γ.N[i]?).map fun n => (n, i)).map (·.2) = t.slots)
          && (mm Γ e).e (blkSc q scope) elt && (mm Γ ifs).es (blkSc q scope) cs && decide (cs.length ≤ 1)
      | _ => false }
  | .comp2 e t it ifs t1 it1 ifs1 => { e := fun q x => match x with
      | .ListComp elt [⟨tg, iter, cs, k⟩, ⟨tg1, iter1, cs1, k1⟩] scope _ => (k == 0) && (k1 == 0) && noSet iter && noSet iter1 && (!needTup it || isTup t) && (!needTup it1 || isTup t1) && (mm Γ it).it q iter && (mm Γ it1).it (blkSc q scope) iter1
          && mTg Γ (blkSc q scope) t tg && mTg Γ (blkSc q scope) t1 tg1 && blkC Γ.N q.sc scope ((t.slots ++ t1.slots).filterMap fun i => (Γ.N[i]?).map fun n => (n, i))
          && decide (((t.slots ++ t1.slots).filterMap fun i => (Γ.N[i]?).map fun n => (n, i)).map (·.2) = t.slots ++ t1.slots)
          && (mm Γ e).e (blkSc q scope) elt && (mm Γ ifs).es (blkSc q scope) cs && decide (cs.length ≤ 1) && (mm Γ ifs1).es (blkSc q scope) cs1 && decide (cs1.length ≤ 1)
      | _ => false }
  | .dcomp k v t it ifs => { e := fun q x => match x with
      | .DictComp kx vx [⟨tg, iter, cs, n⟩] scope _ => (n == 0) && noSet iter && (!needTup it || isTup t) && (mm Γ it).it q iter && mTg Γ (blkSc q scope) t tg && blkC Γ.N q.sc scope (t.slots.filterMap fun i => (Γ.N[i]?).map fun n => (n, i))
          && decide ((t.slots.filterMap fun i => (Γ.N[i]?).map fun n => (n, i)).map (·.2) = t.slots)
          && (mm Γ k).e (blkSc q scope) kx && (mm Γ v).e (blkSc q scope) vx && (mm Γ ifs).es (blkSc q scope) cs && decide (cs.length ≤ 1)
      | _ => false }
  | .nev => { e := fun _ _ => true }
  | .nil => { es := fun _ xs => xs.isEmpty }
  | .cons e es => { es := fun q xs => match xs with
      | x :: r => ns x && (mm Γ e).e q x && (mm Γ es).es q r
      | [] => false }
  | .itOf e => { it := fun q x => (mm Γ e).e q x }
  | .itRange es => { it := fun q x => match x with
      | .Call (.Name y _) xs [] _ => y == "range" && gl q "range" && (mm Γ es).es q xs && (xs.length == 1 || xs.length == 2)
      | _ => false }
  | .itEnum e => { it := fun q x => match x with
      | .Call (.Name y _) [a] [] _ => y == "enumerate" && gl q "enumerate" && ns a && (mm Γ e).e q a
      | _ => false }
  | .itZip es => { it := fun q x => match x with
      | .Call (.Name y _) [a, b] [] _ => y == "zip" && gl q "zip" && (mm Γ es).es q [a, b]
      | _ => false }
  | .itVals e => { it := fun q x => match x with
      | .Call (.Attribute y n ap) [] [] cp => n == "values" && notCall0 y && (ap.endLine == cp.line) && (mm Γ e).e q y
      | _ => false }
  | .itItems e => { it := fun q x => match x with
      | .Call (.Attribute y n ap) [] [] cp => n == "items" && notCall0 y && (ap.endLine == cp.line) && (mm Γ e).e q y
      | _ => false }
end FC

/-! Part 5: readings; operands; operations. -/
namespace FC
open PySem PySem.Spec PyProof.Rows L2

def blts : List Str := ["len", "abs", "int", "list", "tuple", "range", "sorted", "sum", "max", "min", "all", "any", "isinstance", "enumerate", "zip", "bool", "str", "dict"]

structure Gd (X : Cx) (Γ : Gam) (q : Scp) : Prop where
  calm : X.calm = true
  nd : X.N.Nodup
  xe : X.xe = fun _ _ => False
  un : X.A.units + 70 < cLine
  mgb : ∀ x ∈ blts, X.mg x = none
  N : X.N = Γ.N
  sc : X.env.scope = q.sc
  fn : X.fn = q.fn
  gv : ∀ p ∈ Γ.globs, ∃ u, X.mg p.1 = some u ∧ (match p.2 with
    | .int i => RelV (.int i) u
    | .str t => RelV (.str t) u
    | _ => False)

theorem Gd.u65 {X : Cx} {Γ : Gam} {q : Scp} (g : Gd X Γ q) : X.A.units + 65 < cLine := by
  have := g.un
  omega
/-! ### readings -/
def Raw (K : PySem.W.Frag) (F H H0 : Hp) (v : V) (d : D) : Prop :=
  if newObj d = true then (∃ a, v = V.ref a ∧ H0 a = none ∧ F a = none ∧ Ob K F H a d) else Rp K F v d
def ArR (K : PySem.W.Frag) (F H : Hp) (σ : L2.St) (H0 : Hp) (v : V) : Ar → Prop
  | .pl i => σ[i]? = some (some v)
  | .ln i => σ[i]? = some (some v)
  | .vl d => Rp K F v d
  | .ow d => newObj d = true ∧ ∃ a, v = V.ref a ∧ H0 a = none ∧ F a = none ∧ Ob K F H a d
/-- the reading of a piece that yields one value -/
def tG {α : Type} (K : PySem.W.Frag) (m : M α) (R : Hp → Hp → L2.St → Hp → V → α → Prop) : TE := fun σ H Q =>
  ∃ (s : S) (F : Hp) (a : α) (s' : S), Rs K F H σ s ∧ m s = some (a, s') ∧
    ∀ (v : V) (F' H' : Hp), Rs K F' H' σ s' → Ext (Ad σ s) F H F' H' → (∀ a, Ad σ s' a → Ad σ s a) → R F' H' σ H v a → Q v H'
def tV (K : PySem.W.Frag) (C : Calls) (e : Ex) : TE := tG K (sem C e).v fun F _ _ _ v d => Rp K F v d
def tO (K : PySem.W.Frag) (C : Calls) (e : Ex) : TE := tG K (sem C e).v fun F H _ H0 v d => Raw K F H H0 v d
def tA (K : PySem.W.Frag) (C : Calls) (e : Ex) : TE := tG K (sem C e).a fun F H σ H0 v a => ArR K F H σ H0 v a
def tT (K : PySem.W.Frag) (m : M Bool) : TT := fun σ H Q =>
  ∃ (s : S) (F : Hp) (k : Bool) (s' : S), Rs K F H σ s ∧ m s = some (k, s') ∧
    ∀ (F' H' : Hp), Rs K F' H' σ s' → Ext (Ad σ s) F H F' H' → (∀ a, Ad σ s' a → Ad σ s a) → Q k H'
def tAs (K : PySem.W.Frag) (C : Calls) : Ex → TA
  | .cons e es => tCons (tA K C e) (tAs K C es)
  | _ => tNil
theorem PE.imp {X : Cx} {e : Expr} {t t' : TE} (h : PE X e t) (i : ∀ σ H Q, t' σ H Q → t σ H Q) : PE X e t' := ⟨fun pins s σ H Q I q => h.run pins s σ H Q I (i σ H Q q)⟩
theorem PT.imp {X : Cx} {e : Expr} {t t' : TT} (h : PT X e t) (i : ∀ σ H Q, t' σ H Q → t σ H Q) : PT X e t' := ⟨fun pins s σ H Q I q => h.run pins s σ H Q I (i σ H Q q)⟩
theorem PA.imp {X : Cx} {e : List Expr} {t t' : TA} (h : PA X e t) (i : ∀ σ H Q, t' σ H Q → t σ H Q) : PA X e t' := ⟨fun pos pins s σ H Q I q => h.run pos pins s σ H Q I (i σ H Q q)⟩
theorem PE.fails {α : Type} {X : Cx} {e : Expr} {K : PySem.W.Frag} {R : Hp → Hp → L2.St → Hp → V → α → Prop} : PE X e (tG K (fails : M α) R) := ⟨fun pins s σ H Q I h => by
  obtain ⟨_, _, _, _, _, e, _⟩ := h
  cases e⟩
theorem PT.fails {X : Cx} {e : Expr} {K : PySem.W.Frag} : PT X e (tT K fails) := ⟨fun pins s σ H Q I h => by
  obtain ⟨_, _, _, _, _, e, _⟩ := h
  cases e⟩
theorem bnd_some {α β : Type} {m : M α} {f : α → M β} {s : S} {r : β × S} (h : bnd m f s = some r) : ∃ a s1, m s = some (a, s1) ∧ f a s1 = some r := by
  unfold bnd at h
  split at h
  · cases h
  · rename_i a s1 e
    exact ⟨a, s1, e, h⟩
theorem lift_some {α : Type} {o : Option α} {s : S} {r : α × S} (h : lift o s = some r) : o = some r.1 ∧ r.2 = s := by
  unfold lift at h
  split at h
  · cases h
  · cases h; exact ⟨rfl, rfl⟩
theorem gives_some {α : Type} {a : α} {s : S} {r : α × S} (h : gives a s = some r) : r = (a, s) := by
  cases h; rfl
theorem fails_some {α : Type} {s : S} {r : α × S} (h : (fails : M α) s = some r) : False := by cases h

section
variable {K : PySem.W.Frag} {F H F' H' : Hp} {σ : L2.St} {s s' : S}
theorem Ad.tracked {a : Addr} (r : Rs K F H σ s) (h : Ad σ s a) : H a ≠ none ∧ F a = none := by
  obtain ⟨i, b, e1, m, e2⟩ := h
  obtain ⟨v, e3, rb⟩ := r.at_ i b e1
  rw [e2] at e3
  cases e3
  obtain ⟨a', e, hf, ob⟩ := rb.mineAt m
  cases e
  obtain ⟨o, eo⟩ := ob.has
  exact ⟨(by rw [eo]; intro z; cases z), hf⟩
theorem Ad.of_eq {a : Addr} (h : Ad σ s' a) (e : s' = s) : Ad σ s a := e ▸ h
theorem ArR.keep {H0 H1 : Hp} {A : Addr → Prop} {v : V} {a : Ar} (x : Ext A F H F' H') (h : ArR K F H σ H0 v a) (hA : ∀ b, A b → H0 b ≠ none) : ArR K F' H' σ H0 v a := by
  cases a with
  | pl i => exact h
  | ln i => exact h
  | vl d => exact Rp.same x.f h
  | ow d =>
    obtain ⟨hn, b, e, h0, hf, ob⟩ := h
    obtain ⟨o, eo⟩ := ob.has
    have nA : ¬ A b := fun z => hA b z h0
    exact ⟨hn, b, e, h0, x.z b nA hf (by rw [eo]; intro z; cases z), ob.mono x.f (by rw [x.k b o nA eo, eo])⟩
theorem ArR.back {H0 H1 : Hp} {v : V} {a : Ar} (h : ArR K F H σ H1 v a) (t : ∀ b, H0 b ≠ none → H1 b ≠ none) : ArR K F H σ H0 v a := by
  cases a with
  | pl i => exact h
  | ln i => exact h
  | vl d => exact h
  | ow d =>
    obtain ⟨hn, b, e, h0, r⟩ := h
    refine ⟨hn, b, e, ?_, r⟩
    cases q : H0 b with
    | none => rfl
    | some o => exact absurd h0 (t b (by rw [q]; intro z; cases z))
structure ArRs (K : PySem.W.Frag) (F H : Hp) (σ : L2.St) (H0 : Hp) (vs : List V) (l : List Ar) : Prop where
  len : vs.length = l.length
  at_ : ∀ (i : Nat) (v : V) (a : Ar), vs[i]? = some v → l[i]? = some a → ArR K F H σ H0 v a
  dis : ∀ (i j : Nat) (a : Addr) (d e : D), vs[i]? = some (.ref a) → l[i]? = some (.ow d) → vs[j]? = some (.ref a) → l[j]? = some (.ow e) → i = j
theorem ArRs.nil {H0 : Hp} : ArRs K F H σ H0 [] [] := ⟨rfl, fun i v a e _ => by simp at e, fun i j a d e h _ _ _ => by simp at h⟩
theorem ArRs.cons {H0 H1 : Hp} {v : V} {a : Ar} {vs : List V} {l : List Ar} (h : ArR K F H σ H0 v a) (r : ArRs K F H σ H1 vs l) (t : ∀ b, H0 b ≠ none → H1 b ≠ none)
    (ne : ∀ b d, v = .ref b → a = .ow d → H1 b ≠ none) : ArRs K F H σ H0 (v :: vs) (a :: l) := by
  refine ⟨by rw [List.length_cons, List.length_cons, r.len], fun i w x e1 e2 => ?_, fun i j b d e h1 h2 h3 h4 => ?_⟩
  · cases i with
    | zero => cases e1; cases e2; exact h
    | succ i => exact (r.at_ i w x (by simpa using e1) (by simpa using e2)).back t
  · have far : ∀ (k : Nat) (f : D), vs[k]? = some (.ref b) → l[k]? = some (.ow f) → H1 b = none := fun k f k1 k2 => by
      obtain ⟨_, b', e', h0, _⟩ := r.at_ k _ _ k1 k2
      cases e'
      exact h0
    cases i with
    | zero =>
      cases j with
      | zero => rfl
      | succ j =>
        cases h1; cases h2
        exact absurd (far j e (by simpa using h3) (by simpa using h4)) (ne b d rfl rfl)
    | succ i =>
      cases j with
      | zero =>
        cases h3; cases h4
        exact absurd (far i d (by simpa using h1) (by simpa using h2)) (ne b e rfl rfl)
      | succ j => rw [r.dis i j b d e (by simpa using h1) (by simpa using h2) (by simpa using h3) (by simpa using h4)]
end

/-- the operands are read one behind another -/
theorem as_read {K : PySem.W.Frag} {C : Calls} : ∀ (es : Ex) {F H : Hp} {σ : L2.St} {s s' : S} {l : List Ar} {k : List V → Hp → Prop}, Rs K F H σ s → (sem C es).as s = some (l, s') →
    (∀ (vs : List V) (F' H' : Hp), Rs K F' H' σ s' → Ext (Ad σ s) F H F' H' → (∀ a, Ad σ s' a → Ad σ s a) → ArRs K F' H' σ H vs l → k vs H') → tAs K C es σ H k
  | .nil, F, H, σ, s, s', l, k, r, e, h => by
    cases e
    exact h [] F H r Ext.refl (fun _ z => z) ArRs.nil
  | .cons x es, F, H, σ, s, s', l, k, r, e, h => by
    have e : bnd (sem C x).a (fun x => bnd (sem C es).as fun l => gives (x :: l)) s = some (l, s') := e
    obtain ⟨a, s1, e1, e⟩ := bnd_some e
    obtain ⟨l1, s2, e2, e⟩ := bnd_some e
    cases e
    refine ⟨s, F, a, s1, r, e1, fun v F1 H1 r1 x1 a1 q1 => ?_⟩
    refine as_read es r1 e2 fun vs F2 H2 r2 x2 a2 q2 => ?_
    have hA : ∀ b, Ad σ s1 b → H b ≠ none := fun b z => (Ad.tracked r (a1 b z)).1
    refine h (v :: vs) F2 H2 r2 (x1.trans x2 fun b z => .inl (a1 b z)) (fun b z => a1 b (a2 b z)) (ArRs.cons (q1.keep x2 (H1 := H1) hA) q2 x1.t fun b d ev ea => ?_)
    subst ev ea
    obtain ⟨_, b', eb, h0, hf, ob⟩ := q1
    cases eb
    obtain ⟨o, eo⟩ := ob.has
    rw [eo]; intro z; cases z
  | .con _, _, _, _, _, _, _, _, _, e, _ => by cases e
  | .glob _ _, _, _, _, _, _, _, _, _, e, _ => by cases e
  | .var _, _, _, _, _, _, _, _, _, e, _ => by cases e
  | .pk _, _, _, _, _, _, _, _, _, e, _ => by cases e
  | .lend _, _, _, _, _, _, _, _, _, e, _ => by cases e
  | .give _, _, _, _, _, _, _, _, _, e, _ => by cases e
  | .op _ _, _, _, _, _, _, _, _, _, e, _ => by cases e
  | .not _, _, _, _, _, _, _, _, _, e, _ => by cases e
  | .and _ _, _, _, _, _, _, _, _, _, e, _ => by cases e
  | .or _ _, _, _, _, _, _, _, _, _, e, _ => by cases e
  | .chain .., _, _, _, _, _, _, _, _, e, _ => by cases e
  | .ife .., _, _, _, _, _, _, _, _, e, _ => by cases e
  | .tup _, _, _, _, _, _, _, _, _, e, _ => by cases e
  | .lst _, _, _, _, _, _, _, _, _, e, _ => by cases e
  | .dct0, _, _, _, _, _, _, _, _, e, _ => by cases e
  | .dct1 _ _, _, _, _, _, _, _, _, _, e, _ => by cases e
  | .call .., _, _, _, _, _, _, _, _, e, _ => by cases e
  | .mt .., _, _, _, _, _, _, _, _, e, _ => by cases e
  | .sl2 .., _, _, _, _, _, _, _, _, e, _ => by cases e
  | .mu .., _, _, _, _, _, _, _, _, e, _ => by cases e
  | .comp .., _, _, _, _, _, _, _, _, e, _ => by cases e
  | .itOf _, _, _, _, _, _, _, _, _, e, _ => by cases e
  | .itRange _, _, _, _, _, _, _, _, _, e, _ => by cases e
  | .itEnum _, _, _, _, _, _, _, _, _, e, _ => by cases e
  | .itZip _, _, _, _, _, _, _, _, _, e, _ => by cases e
  | .itVals _, _, _, _, _, _, _, _, _, e, _ => by cases e
  | .itItems _, _, _, _, _, _, _, _, _, e, _ => by cases e

/-- operands as the operation sees them -/
theorem ArR.tr {K : PySem.W.Frag} {F H H0 : Hp} {σ : L2.St} {s : S} {v : V} {a : Ar} {d : D} (r : Rs K F H σ s) (h : ArR K F H σ H0 v a) (e : resA s a = some d) : TR K F H v d := by
  cases a with
  | pl i =>
    simp only [resA] at e
    split at e
    · rename_i b eb
      cases e
      obtain ⟨w, e1, rb⟩ := r.at_ _ b eb
      have h : σ[_]? = some (some v) := h
      rw [h] at e1
      cases e1
      exact rb.tr
    · cases e
  | ln i =>
    simp only [resA] at e
    split at e
    · rename_i d' eb
      cases e
      obtain ⟨w, e1, rb⟩ := r.at_ _ _ eb
      have h : σ[_]? = some (some v) := h
      rw [h] at e1
      cases e1
      exact rb.tr
    · rename_i d' eb
      cases e
      obtain ⟨w, e1, rb⟩ := r.at_ _ _ eb
      have h : σ[_]? = some (some v) := h
      rw [h] at e1
      cases e1
      exact rb.tr
    · cases e
  | vl d' => cases e; exact .inl h
  | ow d' =>
    cases e
    obtain ⟨_, b, e, _, _, ob⟩ := h
    exact .inr ⟨b, e, ob⟩
theorem ArRs.trs {K : PySem.W.Frag} {F H H0 : Hp} {σ : L2.St} {s : S} (r : Rs K F H σ s) : ∀ {vs : List V} {l : List Ar} {ds : List D}, ArRs K F H σ H0 vs l → resAs s l = some ds → TRs K F H vs ds
  | [], [], ds, _, e => by cases e; exact .nil
  | [], _ :: _, _, h, _ => absurd h.len (by simp)
  | _ :: _, [], _, h, _ => absurd h.len (by simp)
  | v :: vs, a :: l, ds, h, e => by
    unfold resAs at e
    split at e
    · rename_i d ds' e1 e2
      cases e
      refine .cons ((h.at_ 0 v a rfl rfl).tr r e1) (ArRs.trs r ⟨by simpa using h.len, fun i w x k1 k2 => h.at_ (i + 1) w x (by simpa using k1) (by simpa using k2), fun i j b d e k1 k2 k3 k4 => ?_⟩ e2)
      have := h.dis (i + 1) (j + 1) b d e (by simpa using k1) (by simpa using k2) (by simpa using k3) (by simpa using k4)
      omega
    · cases e

/-! ### an operation in the text -/
inductive PAx (X : Cx) (C : Calls) : List Expr → Ex → Prop
  | nil : PAx X C [] .nil
  | cons {x : Expr} {xs : List Expr} {e es : Ex} : ns x = true → PE X x (tA X.K C e) → PAx X C xs es → PAx X C (x :: xs) (.cons e es)
theorem star_ns {env : Env} {x : Expr} {xs : List Expr} (h : ns x = true) : starEach (x :: xs) env = (false, eval x env) :: starEach xs env := by
  cases x <;> first | rfl | (cases h; done)
theorem PAx.star {X : Cx} {C : Calls} {env : Env} {pos : Pos} : ∀ {xs : List Expr} {es : Ex}, PAx X C xs es → (backTo pos (starEach xs env)).any (·.1) = false
  | _, _, .nil => rfl
  | _, _, .cons h _ r => by
    rw [star_ns h]
    show (false || (backTo pos (starEach _ env)).any (·.1)) = false
    rw [r.star]
    rfl
theorem PAx.pa {X : Cx} {C : Calls} : ∀ {xs : List Expr} {es : Ex}, PAx X C xs es → PA X xs (tAs X.K C es)
  | _, _, .nil => pa_nil
  | _, _, .cons h p r => pa_cons p r.pa (star_ns h)
theorem pax1 {X : Cx} {C : Calls} {x : Expr} {es : Ex} (h : PAx X C [x] es) : ∃ e, es = .cons e .nil ∧ ns x = true ∧ PE X x (tA X.K C e) := by
  cases h with
  | cons a b c => cases c; exact ⟨_, rfl, a, b⟩
theorem pax2 {X : Cx} {C : Calls} {x y : Expr} {es : Ex} (h : PAx X C [x, y] es) : ∃ e f, es = .cons e (.cons f .nil) ∧ ns x = true ∧ PE X x (tA X.K C e) ∧ ns y = true ∧ PE X y (tA X.K C f) := by
  cases h with
  | cons a b c => obtain ⟨f, rfl, n, p⟩ := pax1 c; exact ⟨_, f, rfl, a, b, n, p⟩
theorem pax3 {X : Cx} {C : Calls} {x y z : Expr} {es : Ex} (h : PAx X C [x, y, z] es) : ∃ e f g, es = .cons e (.cons f (.cons g .nil)) ∧ ns x = true ∧ PE X x (tA X.K C e) ∧ ns y = true ∧ PE X y (tA X.K C f) ∧ ns z = true ∧ PE X z (tA X.K C g) := by
  cases h with
  | cons a b c => obtain ⟨f, g, rfl, r⟩ := pax2 c; exact ⟨_, f, g, rfl, a, b, r⟩
def tOpA (K : PySem.W.Frag) (o : Op) (ta : TA) : TE := fun σ H Q => ta σ H fun vs H1 => OpRd K o vs H1 Q

section
variable {X : Cx} {Γ : Gam} {q : Scp} {C : Calls}
theorem Gd.glx (g : Gd X Γ q) {x : Str} (h : gl q x = true) : Gl X x := by
  unfold gl at h
  unfold Gl Env.kindOf
  rw [g.sc]
  simpa using h
theorem bi1_of {n : Str} {x : Expr} {xs : List Expr} (h : bi1 q n x = some xs) : ∃ a p pos, x = .Call (.Name n p) [a] [] pos ∧ xs = [a] ∧ gl q n = true := by
  unfold bi1 at h
  split at h
  · split at h
    · rename_i y p a pos hc
      cases h
      simp only [Bool.and_eq_true, beq_iff_eq] at hc
      obtain ⟨rfl, hg⟩ := hc
      exact ⟨_, _, _, rfl, rfl, hg⟩
    · cases h
  · cases h
theorem bi2_of {n : Str} {x : Expr} {xs : List Expr} (h : bi2 q n x = some xs) : ∃ a b p pos, x = .Call (.Name n p) [a, b] [] pos ∧ xs = [a, b] ∧ gl q n = true := by
  unfold bi2 at h
  split at h
  · split at h
    · rename_i y p a b pos hc
      cases h
      simp only [Bool.and_eq_true, beq_iff_eq] at hc
      obtain ⟨rfl, hg⟩ := hc
      exact ⟨_, _, _, _, rfl, rfl, hg⟩
    · cases h
  · cases h
theorem pe_bi1 {n : Str} {id : String} {o : Op} {x : Expr} {xs : List Expr} {es : Ex} (g : Gd X Γ q) (hb : n ∈ blts) (hc : CallR X (.builtin id) (fun vs H Q => OpRd X.K o vs H Q)) (hv : bootBuiltins n = some (.builtin id)) (h : bi1 q n x = some xs) (hp : PAx X C xs es)
    (hn : n ≠ "__name__" := by decide) (hd : (n == ("__debug__" : Str)) = false := by decide) : PE X x (tOpA X.K o (tAs X.K C es)) := by
  obtain ⟨a, p, pos, rfl, rfl, hg⟩ := bi1_of h
  cases hp with
  | cons a b c => exact pe_callB hc (g.glx hg) (g.mgb _ hb) hv (PAx.cons a b c).pa hn hd (star_ns a) c.star
theorem pe_bi2 {n : Str} {id : String} {o : Op} {x : Expr} {xs : List Expr} {es : Ex} (g : Gd X Γ q) (hb : n ∈ blts) (hc : CallR X (.builtin id) (fun vs H Q => OpRd X.K o vs H Q)) (hv : bootBuiltins n = some (.builtin id)) (h : bi2 q n x = some xs) (hp : PAx X C xs es)
    (hn : n ≠ "__name__" := by decide) (hd : (n == ("__debug__" : Str)) = false := by decide) : PE X x (tOpA X.K o (tAs X.K C es)) := by
  obtain ⟨a, b, p, pos, rfl, rfl, hg⟩ := bi2_of h
  cases hp with
  | cons a b c => exact pe_callB hc (g.glx hg) (g.mgb _ hb) hv (PAx.cons a b c).pa hn hd (star_ns a) c.star
theorem pe_ty1 {n : Str} {id : String} {o : Op} {x : Expr} {xs : List Expr} {es : Ex} (g : Gd X Γ q) (hb : n ∈ blts) (hc : CallR X (.type id) (fun vs H Q => OpRd X.K o vs H Q)) (hv : bootBuiltins n = some (.type id)) (h : bi1 q n x = some xs) (hp : PAx X C xs es)
    (hn : n ≠ "__name__" := by decide) (hd : (n == ("__debug__" : Str)) = false := by decide) : PE X x (tOpA X.K o (tAs X.K C es)) := by
  obtain ⟨a, p, pos, rfl, rfl, hg⟩ := bi1_of h
  cases hp with
  | cons a b c => exact pe_callTy hc (g.glx hg) (g.mgb _ hb) hv (PAx.cons a b c).pa hn hd (star_ns a) c.star
end
end FC

/-! Part 6: operations in the text. -/
namespace FC
open PySem PySem.Spec PyProof.Rows L2
section
variable {X : Cx} {Γ : Gam} {q : Scp} {C : Calls}
theorem noset_marks {op : CmpOp} {b : Expr} (h : noSet b = true) : behindInMarks op b = false := by
  cases b <;> first | rfl | (cases h; done)
theorem plainIx_of {b : Expr} (h : noSlice b = true) : PlainIx b := by
  intro o i
  cases b <;> first | rfl | (cases h; done)
theorem po_int {l : Expr} {t : TE} (h : PE X l t) : PO X (some l) (tPart t) := po_some h
theorem sl_op1 {K : PySem.W.Frag} {H : Hp} {x : V} {Q : VK} (h : OpRd K (.sl false false) [x] H Q) : rSlAll K x none none H Q := by
  obtain ⟨F, ds, d, sub, trs, hd, out⟩ := h
  obtain ⟨d1, rfl, t1⟩ := trs1 trs
  exact sl_out sub t1 hd out
theorem sl_op2 {K : PySem.W.Frag} {H : Hp} {x y : V} {Q : VK} (h : OpRd K (.sl true false) [x, y] H Q) : ∃ i, y = .int i ∧ rSlAll K x (some i) none H Q := by
  obtain ⟨F, ds, d, sub, trs, hd, out⟩ := h
  obtain ⟨d1, d2, rfl, t1, t2⟩ := trs2 trs
  change opSl1 false d1 d2 = some d at hd
  cases d2 <;> simp only [opSl1] at hd <;> first | cases hd | skip
  exact ⟨_, t2.int, sl_out sub t1 hd out⟩
theorem sl_op3 {K : PySem.W.Frag} {H : Hp} {x y : V} {Q : VK} (h : OpRd K (.sl false true) [x, y] H Q) : ∃ i, y = .int i ∧ rSlAll K x none (some i) H Q := by
  obtain ⟨F, ds, d, sub, trs, hd, out⟩ := h
  obtain ⟨d1, d2, rfl, t1, t2⟩ := trs2 trs
  change opSl1 true d1 d2 = some d at hd
  cases d2 <;> simp only [opSl1] at hd <;> first | cases hd | skip
  exact ⟨_, t2.int, sl_out sub t1 hd out⟩
/-- what a piece promises is only what it can yield -/
theorem tG_mono {α : Type} {K : PySem.W.Frag} {m : M α} {R : Hp → Hp → L2.St → Hp → V → α → Prop} {σ : L2.St} {H : Hp} {Q Q' : VK} (h : tG K m R σ H Q) (i : ∀ v H, Q v H → Q' v H) : tG K m R σ H Q' := by
  obtain ⟨s, F, a, s', r, e, k⟩ := h
  exact ⟨s, F, a, s', r, e, fun v F' H' r' x' a' q' => i _ _ (k v F' H' r' x' a' q')⟩
theorem rg1 {q : Scp} {x : Expr} {xs : List Expr} (h : rangeArg q x = some xs) : ∃ a p pos, x = .Call (.Name "range" p) [a] [] pos ∧ xs = [a] ∧ gl q "range" = true := by
  unfold rangeArg at h
  split at h
  · split at h
    · rename_i y p a pos hc
      cases h
      simp only [Bool.and_eq_true, beq_iff_eq] at hc
      obtain ⟨rfl, hg⟩ := hc
      exact ⟨_, _, _, rfl, rfl, hg⟩
    · cases h
  · cases h
theorem rgV_rps {K : PySem.W.Frag} {F : Hp} (n : Int) : Rps K F (rgV 0 n) (rgD n) := by
  unfold rgV rgD
  rw [Int.sub_zero]
  generalize n.toNat = m
  induction m with
  | zero => exact .nil
  | succ m ih =>
    rw [List.range_succ, List.map_append, List.map_append]
    exact ih.append (.cons (.int _) .nil)
theorem ro_listR {K : PySem.W.Frag} {H : Hp} {x : V} {Q : VK} (h : OpRd K .listR [x] H Q) : ∃ n, x = .int n ∧ RgOk 0 n ∧ ∀ p, H p = none → Q (.ref p) (upd H p (.lst (rgV 0 n))) := by
  obtain ⟨F, ds, d, sub, trs, hd, out⟩ := h
  obtain ⟨d1, rfl, t1⟩ := trs1 trs
  change opListR d1 = some d at hd
  cases d1 <;> simp only [opListR] at hd <;> first | cases hd | skip
  split at hd
  · rename_i n hk
    cases hd
    simp only [smallI, Bool.and_eq_true, decide_eq_true_eq] at hk
    refine ⟨n, t1.int, ⟨by omega, by omega, by omega, by omega, ?_⟩, fun p hp => out.lst sub (rgV_rps n) hp⟩
    rw [Int.sub_zero]
    exact hk.2
  · cases hd
theorem rgV_rps2 {K : PySem.W.Frag} {F : Hp} (a b : Int) : Rps K F (rgV a b) (rgD2 a b) := by
  unfold rgV rgD2
  generalize (b - a).toNat = m
  induction m with
  | zero => exact .nil
  | succ m ih =>
    rw [List.range_succ, List.map_append, List.map_append]
    exact ih.append (.cons (.int _) .nil)
theorem ro_listR2 {K : PySem.W.Frag} {H : Hp} {x y : V} {Q : VK} (h : OpRd K .listR2 [x, y] H Q) : ∃ a b, x = .int a ∧ y = .int b ∧ RgOk a b ∧ ∀ p, H p = none → Q (.ref p) (upd H p (.lst (rgV a b))) := by
  obtain ⟨F, ds, d, sub, trs, hd, out⟩ := h
  obtain ⟨d1, d2, rfl, t1, t2⟩ := trs2 trs
  change opListR2 d1 d2 = some d at hd
  cases d1 <;> cases d2 <;> simp only [opListR2] at hd <;> first | (cases hd; done) | skip
  split at hd
  · rename_i a b hk
    cases hd
    simp only [smallI, Bool.and_eq_true, decide_eq_true_eq] at hk
    refine ⟨a, b, t1.int, t2.int, ⟨by omega, by omega, by omega, by omega, hk.2⟩, fun p hp => out.lst sub (rgV_rps2 a b) hp⟩
  · cases hd
theorem ro_tupleR {K : PySem.W.Frag} {H : Hp} {x : V} {Q : VK} (h : OpRd K .tupleR [x] H Q) : ∃ n, x = .int n ∧ RgOk 0 n ∧ ∀ p, H p = none → Q (.ref p) (upd H p (.tup (rgV 0 n))) := by
  obtain ⟨F, ds, d, sub, trs, hd, out⟩ := h
  obtain ⟨d1, rfl, t1⟩ := trs1 trs
  change opTupleR d1 = some d at hd
  cases d1 <;> simp only [opTupleR] at hd <;> first | cases hd | skip
  split at hd
  · rename_i n hk
    cases hd
    simp only [smallI, Bool.and_eq_true, decide_eq_true_eq] at hk
    refine ⟨n, t1.int, ⟨by omega, by omega, by omega, by omega, ?_⟩, fun p hp => out.tup sub (rgV_rps n) hp⟩
    rw [Int.sub_zero]
    exact hk.2
  · cases hd
theorem ro_rev {K : PySem.W.Frag} {H : Hp} {x : V} {Q : VK} (h : OpRd K .rev [x] H Q) : ∃ a xs, x = .ref a ∧ ((SqL K H a xs ∧ ∀ p, H p = none → Q (.ref p) (upd H p (.lst xs.reverse))) ∨ (SqT K H a xs ∧ ∀ p, H p = none → Q (.ref p) (upd H p (.tup xs.reverse)))) := by
  obtain ⟨F, ds, d, sub, trs, hd, out⟩ := h
  obtain ⟨d1, rfl, t1⟩ := trs1 trs
  change opRev d1 = some d at hd
  cases d1 <;> simp only [opRev] at hd <;> first | (cases hd; done) | skip
  · cases hd
    obtain ⟨a, vs, rfl, h1, r1⟩ := t1.list sub
    exact ⟨a, vs, rfl, .inl ⟨.inl h1, fun p hp => out.lst sub r1.reverse hp⟩⟩
  · cases hd
    obtain ⟨a, vs, rfl, h1, f1, r1⟩ := t1.tuple sub
    exact ⟨a, vs, rfl, .inr ⟨h1, fun p hp => out.tup sub r1.reverse hp⟩⟩
theorem ty_boot : ∀ t : Ty, bootBuiltins (Str.ofString (tyN t)) = some (.type (tyN t)) := by
  intro t
  cases t <;> decide +kernel
theorem ty_blts : ∀ t : Ty, Str.ofString (tyN t) ∈ blts := by
  intro t
  cases t <;> decide +kernel
theorem pe_tyE (g : Gd X Γ q) {t : Ty} {b : Expr} (h : tyE q t b = true) : PE X b (tC (.ty (tyN t))) := by
  unfold tyE at h
  split at h
  · rename_i y p
    simp only [Bool.and_eq_true, beq_iff_eq] at h
    obtain ⟨rfl, hg⟩ := h
    refine pe_bltn (g.glx hg) (g.mgb _ (ty_blts t)) (ty_boot t) rfl ?_ ?_
    · cases t <;> decide +kernel
    · cases t <;> decide +kernel
  · cases h
theorem ns_tyE {t : Ty} {b : Expr} (h : tyE q t b = true) : ns b = true := by
  unfold tyE at h
  split at h
  · rfl
  · cases h
theorem ro_isi {K : PySem.W.Frag} {t : Ty} {H : Hp} {x : V} {Q : VK} (h : OpRd K (.isi t) [x] H Q) : rIsi K [x, .ty (tyN t)] H Q := by
  obtain ⟨F, ds, d, sub, trs, hd, out⟩ := h
  obtain ⟨d1, rfl, t1⟩ := trs1 trs
  change some (.bool (isTy t d1)) = some d at hd
  cases hd
  exact ⟨x, _, _, _, _, rfl, .ty _, tyx_of sub t1, kit_dty t d1, out.scal sub (.bl _) rfl⟩
theorem cls_tys : ∀ ts : List Ty, Paired ClsV (ts.map fun t => V.ty (tyN t)) (ts.map fun t => Value.type (tyN t))
  | [] => .nil
  | t :: ts => .cons (.ty _) (cls_tys ts)
def tyVs (ts : List Ty) : TA := fun _ H Q => Q (ts.map fun t => V.ty (tyN t)) H
theorem pa_tyEs (g : Gd X Γ q) : ∀ {ts : List Ty} {bs : List Expr}, tyEs q ts bs = true → PA X bs (tyVs ts)
  | [], [], _ => pa_nil
  | [], _ :: _, h => by cases h
  | _ :: _, [], h => by cases h
  | t :: ts, b :: bs, h => by
    unfold tyEs at h
    simp only [Bool.and_eq_true] at h
    exact pa_cons (pe_tyE g h.1) (pa_tyEs g h.2) (star_ns (ns_tyE h.1))
theorem tyEs_len : ∀ {ts : List Ty} {bs : List Expr}, tyEs q ts bs = true → ts.length = bs.length
  | [], [], _ => rfl
  | [], _ :: _, h => by cases h
  | _ :: _, [], h => by cases h
  | t :: ts, b :: bs, h => by
    unfold tyEs at h
    simp only [Bool.and_eq_true] at h
    rw [List.length_cons, List.length_cons, tyEs_len h.2]
theorem tys_size {ts : List Ty} {bs : List Expr} (h : tyEs q ts bs = true) (hl : bs.length ≤ 100) : (ts.map fun t => V.ty (tyN t)).length ≤ sizeLine := by
  rw [List.length_map, tyEs_len h]
  exact Nat.le_trans hl (by decide)
theorem TR.new {K : PySem.W.Frag} {F H : Hp} {v : V} {d : D} {p : Addr} {o : HO} (t : TR K F H v d) (hp : H p = none) : TR K F (upd H p o) v d := by
  rcases t with t | ⟨a, rfl, t⟩
  · exact .inl t
  · obtain ⟨u, eu⟩ := t.has
    exact .inr ⟨a, rfl, t.mono Same.refl (upd_ne (ne_of_none eu hp))⟩
theorem ro_isis {K : PySem.W.Frag} {ts : List Ty} {H : Hp} {x : V} {Q : VK} {p : Addr} (h : OpRd K (.isis ts) [x] H Q) (hp : H p = none) : rIsiT K [x, .ref p] (upd H p (.tup (ts.map fun t => V.ty (tyN t)))) Q := by
  obtain ⟨F, ds, d, sub, trs, hd, out⟩ := h
  obtain ⟨d1, rfl, t1⟩ := trs1 trs
  change some (.bool (ts.any fun t => isTy t d1)) = some d at hd
  cases hd
  refine ⟨x, p, _, _, _, _, rfl, upd_same, cls_tys ts, tyx_of (same_new sub hp) (t1.new hp), kit_dtys d1 ts, ?_⟩
  exact out (.bl _) F _ (ext_new hp) (same_new sub hp) (.bl _)
theorem op_pe (g : Gd X Γ q) {o : Op} {x : Expr} {xs : List Expr} {es : Ex} (h : opArgs q o x = some xs) (hp : PAx X C xs es) : PE X x (tOpA X.K o (tAs X.K C es)) := by
  have hu := g.u65
  unfold opArgs at h
  split at h
  · cases h; obtain ⟨a, b, rfl, _, pa, _, pb⟩ := pax2 hp; exact pe_op ro_add pa pb
  · cases h; obtain ⟨a, b, rfl, _, pa, _, pb⟩ := pax2 hp; exact pe_op ro_sub pa pb
  · cases h; obtain ⟨a, b, rfl, _, pa, _, pb⟩ := pax2 hp; exact pe_op ro_mul pa pb
  · cases h; obtain ⟨a, b, rfl, _, pa, _, pb⟩ := pax2 hp; exact pe_op ro_fdiv pa pb
  · cases h; obtain ⟨a, b, rfl, _, pa, _, pb⟩ := pax2 hp; exact pe_op ro_mod pa pb
  · cases h; obtain ⟨a, b, rfl, _, pa, _, pb⟩ := pax2 hp; exact pe_op ro_pow pa pb
  · cases h; obtain ⟨a, rfl, _, pa⟩ := pax1 hp; exact pe_un ro_neg pa
  · cases h; obtain ⟨a, b, rfl, _, pa, _, pb⟩ := pax2 hp; exact pe_cmpR (ro_eq (by omega)) pa pb (nomark _)
  · cases h; obtain ⟨a, b, rfl, _, pa, _, pb⟩ := pax2 hp; exact pe_cmpR (ro_ne (by omega)) pa pb (nomark _)
  · cases h; obtain ⟨a, b, rfl, _, pa, _, pb⟩ := pax2 hp; exact pe_cmpR ro_lt pa pb (nomark _)
  · cases h; obtain ⟨a, b, rfl, _, pa, _, pb⟩ := pax2 hp; exact pe_cmpR ro_le pa pb (nomark _)
  · cases h; obtain ⟨a, b, rfl, _, pa, _, pb⟩ := pax2 hp; exact pe_cmpR ro_gt pa pb (nomark _)
  · cases h; obtain ⟨a, b, rfl, _, pa, _, pb⟩ := pax2 hp; exact pe_cmpR ro_ge pa pb (nomark _)
  · cases h; obtain ⟨a, rfl, _, pa⟩ := pax1 hp
    exact PE.imp (pe_cmp (pc_isN pa)) fun σ H Q h => tG_mono h fun v H k => ro_isN (X := X) k
  · cases h; obtain ⟨a, rfl, _, pa⟩ := pax1 hp
    exact PE.imp (pe_cmp (pc_notN pa)) fun σ H Q h => tG_mono h fun v H k => ro_notN (X := X) k
  · split at h
    · rename_i hb
      cases h
      have hb := eq_of_beq hb
      subst hb
      obtain ⟨a, rfl, _, pa⟩ := pax1 hp
      exact PE.imp (pe_cmpR op_isBl pa pe_bl (nomark _)) fun σ H Q h => tG_mono h fun v H k => by
        obtain ⟨b, rfl, k2⟩ := ro_isB (X := X) k
        exact ⟨b, _, rfl, rfl, k2⟩
    · cases h
  · split at h
    · rename_i hb
      cases h
      have hb := eq_of_beq hb
      subst hb
      obtain ⟨a, rfl, _, pa⟩ := pax1 hp
      exact PE.imp (pe_cmpR op_notBl pa pe_bl (nomark _)) fun σ H Q h => tG_mono h fun v H k => by
        obtain ⟨b, rfl, k2⟩ := ro_notB (X := X) k
        exact ⟨b, _, rfl, rfl, k2⟩
    · cases h
  · split at h
    · rename_i hb
      cases h
      obtain ⟨a, b, rfl, _, pa, _, pb⟩ := pax2 hp
      exact pe_cmpR (ro_in hu) pa pb (noset_marks hb)
    · cases h
  · split at h
    · rename_i hb
      cases h
      obtain ⟨a, b, rfl, _, pa, _, pb⟩ := pax2 hp
      exact pe_cmpR (ro_notin hu) pa pb (noset_marks hb)
    · cases h
  · split at h
    · rename_i hb
      cases h
      obtain ⟨a, b, rfl, _, pa, _, pb⟩ := pax2 hp
      exact pe_ix (ro_ix hu) pa pb (plainIx_of hb)
    · cases h
  · cases h; obtain ⟨a, rfl, _, pa⟩ := pax1 hp
    exact PE.imp (pe_slice sl_both pa po_none po_none) fun σ H Q h => tG_mono h fun v H k => sl_op1 k
  · cases h; obtain ⟨a, b, rfl, _, pa, _, pb⟩ := pax2 hp
    exact PE.imp (pe_slice sl_both pa (po_some pb) po_none) fun σ H Q h => tG_mono h fun v H k => tG_mono k fun w H k => sl_op2 k
  · cases h; obtain ⟨a, b, rfl, _, pa, _, pb⟩ := pax2 hp
    exact PE.imp (pe_slice sl_both pa po_none (po_some pb)) fun σ H Q h => tG_mono h fun v H k => tG_mono k fun w H k => sl_op3 k
  · split at h
    · rename_i hj
      cases h
      subst hj
      obtain ⟨a, rfl, _, pa⟩ := pax1 hp
      exact PE.imp (pe_revA pa) fun σ H Q h => tG_mono h fun v H k => ro_rev k
    · cases h
  · exact pe_bi1 g (by decide +kernel) ro_len boot_len h hp
  · exact pe_bi1 g (by decide +kernel) ro_abs (by decide +kernel) h hp
  · exact pe_ty1 g (by decide +kernel) ro_int (by decide +kernel) h hp
  · exact pe_ty1 g (by decide +kernel) (ro_list g.calm) (by decide +kernel) h hp
  · exact pe_ty1 g (by decide +kernel) ro_tuple (by decide +kernel) h hp
  · split at h
    · rename_i r hb
      obtain ⟨a, p, pos, rfl, e2, hg⟩ := bi1_of hb
      cases e2
      obtain ⟨z, p2, pos2, rfl, rfl, hg2⟩ := rg1 h
      obtain ⟨a, rfl, na, pa⟩ := pax1 hp
      refine PE.imp (pe_listRg g.calm (g.glx hg) (g.mgb _ (by decide +kernel)) (prg_1 (g.glx hg2) (g.mgb _ (by decide +kernel)) pa (star_ns na))) fun σ H Q h => tG_mono h fun v H k => ?_
      obtain ⟨n, rfl, ok, k⟩ := ro_listR k
      exact ⟨n, rfl, ok, k⟩
    · cases h
  · split at h
    · rename_i r hb
      obtain ⟨a, p, pos, rfl, e2, hg⟩ := bi1_of hb
      cases e2
      obtain ⟨z, p2, pos2, rfl, rfl, hg2⟩ := rg1 h
      obtain ⟨a, rfl, na, pa⟩ := pax1 hp
      refine PE.imp (pe_tupRg g.calm (g.glx hg) (g.mgb _ (by decide +kernel)) (prg_1 (g.glx hg2) (g.mgb _ (by decide +kernel)) pa (star_ns na))) fun σ H Q h => tG_mono h fun v H k => ?_
      obtain ⟨n, rfl, ok, k⟩ := ro_tupleR k
      exact ⟨n, rfl, ok, k⟩
    · cases h
  · split at h
    · rename_i r hb
      obtain ⟨a, p, pos, rfl, e2, hg⟩ := bi1_of hb
      cases e2
      obtain ⟨z, z2, p2, pos2, rfl, rfl, hg2⟩ := bi2_of h
      obtain ⟨a, b, rfl, na, pa, nb, pb⟩ := pax2 hp
      refine PE.imp (pe_listZip g.calm (g.glx hg) (g.mgb _ (by decide +kernel)) (g.glx hg2) (g.mgb _ (by decide +kernel)) hp.pa (star_ns na) (by rw [star_ns nb]; rfl)) fun σ H Q h => tG_mono h fun v H k => tG_mono k fun v H k => ro_listZ k
    · cases h
  · split at h
    · rename_i r hb
      obtain ⟨a, p, pos, rfl, e2, hg⟩ := bi1_of hb
      cases e2
      obtain ⟨z, z2, p2, pos2, rfl, rfl, hg2⟩ := bi2_of h
      obtain ⟨a, b, rfl, na, pa, nb, pb⟩ := pax2 hp
      refine PE.imp (pe_listRg g.calm (g.glx hg) (g.mgb _ (by decide +kernel)) (prg_2 (g.glx hg2) (g.mgb _ (by decide +kernel)) pa pb (star_ns na) (star_ns nb) ?_)) fun σ H Q h => tG_mono h fun v H k => tG_mono k fun v H k => ?_
      · rw [star_ns nb]; rfl
      · exact ro_listR2 k
    · cases h
  · exact pe_bi1 g (by decide +kernel) (ro_sorted g.un) (by decide +kernel) h hp
  · exact pe_bi1 g (by decide +kernel) (ro_sum g.calm) (by decide +kernel) h hp
  · exact pe_bi1 g (by decide +kernel) (ro_max1 g.calm) (by decide +kernel) h hp
  · exact pe_bi1 g (by decide +kernel) (ro_min1 g.calm) (by decide +kernel) h hp
  · exact pe_bi2 g (by decide +kernel) (ro_max2 g.calm) (by decide +kernel) h hp
  · exact pe_bi2 g (by decide +kernel) (ro_min2 g.calm) (by decide +kernel) h hp
  · exact pe_bi1 g (by decide +kernel) (ro_all g.calm) (by decide +kernel) h hp
  · exact pe_bi1 g (by decide +kernel) (ro_any g.calm) (by decide +kernel) h hp
  · split at h
    · rename_i a b hb
      obtain ⟨a', b', p, pos, rfl, e2, hg⟩ := bi2_of hb
      cases e2
      split at h
      · rename_i ht
        cases h
        obtain ⟨e, rfl, na, pa⟩ := pax1 hp
        have hnb := ns_tyE ht
        refine PE.imp (pe_callB call_isi (g.glx hg) (g.mgb _ (by decide +kernel)) (by decide +kernel) (pa_cons pa (pa_cons (pe_tyE g ht) pa_nil (star_ns hnb)) (star_ns na)) (by decide) (by decide) (star_ns na) (by rw [star_ns hnb]; rfl)) fun σ H Q h => tG_mono h fun v H k => ?_
        exact ro_isi k
      · cases h
    · cases h
  · split at h
    · rename_i a bs bk bp hb
      obtain ⟨a', b', p, pos, rfl, e2, hg⟩ := bi2_of hb
      cases e2
      split at h
      · rename_i ht
        cases h
        simp only [Bool.and_eq_true, decide_eq_true_eq] at ht
        obtain ⟨e, rfl, na, pa⟩ := pax1 hp
        refine PE.imp (pe_callB call_isiT (g.glx hg) (g.mgb _ (by decide +kernel)) (by decide +kernel) (pa_cons pa (pa_cons (pe_tup (pa_tyEs g ht.1.1)) pa_nil rfl) (star_ns na)) (by decide) (by decide) (star_ns na) rfl) fun σ H Q h => tG_mono h fun v H k => ?_
        exact ⟨tys_size ht.1.1 ht.2, fun p hp => ro_isis k hp⟩
      · cases h
    · cases h
  · cases h
end
end FC

/-! Part 7: expressions. -/
namespace FC
open PySem PySem.Spec PyProof.Rows L2

section
variable {K : PySem.W.Frag} {F H F' H' : Hp} {σ : L2.St} {s s' : S}
theorem Rs.addF {a : Addr} {o : HO} (r : Rs K F H σ s) (e : H a = some o) (hf : F a = none) (nA : ¬ Ad σ s a) : Rs K (upd F a o) H σ s := by
  have sm : Same F (upd F a o) := fun b u q => by rw [upd_ne (ne_of_none q hf)]; exact q
  refine ⟨same_shut r.sub e, r.len, fun i b eb => ?_, r.dis⟩
  obtain ⟨v, e1, h⟩ := r.at_ i b eb
  refine ⟨v, e1, ?_⟩
  cases b with
  | val d => exact Rp.same sm h
  | own d =>
    obtain ⟨c, rfl, hn, ob⟩ := h
    have ne : c ≠ a := fun z => nA ⟨i, _, eb, rfl, by rw [← z]; exact e1⟩
    exact ⟨c, rfl, by rw [upd_ne ne]; exact hn, ob.mono sm rfl⟩
  | lent d =>
    obtain ⟨c, rfl, hn, ob⟩ := h
    have ne : c ≠ a := fun z => nA ⟨i, _, eb, rfl, by rw [← z]; exact e1⟩
    exact ⟨c, rfl, by rw [upd_ne ne]; exact hn, ob.mono sm rfl⟩
theorem Ext.addF {A : Addr → Prop} {a : Addr} {o : HO} (x : Ext A F H F' H') (hf : F' a = none) (h0 : H a = none) : Ext A F H (upd F' a o) H' := by
  refine ⟨fun b u q => ?_, x.k, fun b n e q => ?_, x.t⟩
  · have := x.f b u q
    rw [upd_ne (ne_of_none this hf)]
    exact this
  · rw [upd_ne (fun z => q (by rw [z]; exact h0))]
    exact x.z b n e q
/-- a place that no slot holds is written and kept -/
theorem Rs.lockF {a : Addr} {o o' : HO} (r : Rs K F H σ s) (e : H a = some o) (hf : F a = none) (nA : ¬ Ad σ s a) : Rs K (upd F a o') (upd H a o') σ s := by
  have sm : Same F (upd F a o') := fun b u q => by rw [upd_ne (ne_of_none q hf)]; exact q
  refine ⟨same_newF r.sub, r.len, fun i b eb => ?_, r.dis⟩
  obtain ⟨v, e1, h⟩ := r.at_ i b eb
  refine ⟨v, e1, ?_⟩
  cases b with
  | val d => exact Rp.same sm h
  | own d =>
    obtain ⟨c, rfl, hn, ob⟩ := h
    have ne : c ≠ a := fun z => nA ⟨i, _, eb, rfl, by rw [← z]; exact e1⟩
    exact ⟨c, rfl, by rw [upd_ne ne]; exact hn, ob.mono sm (by rw [upd_ne ne])⟩
  | lent d =>
    obtain ⟨c, rfl, hn, ob⟩ := h
    have ne : c ≠ a := fun z => nA ⟨i, _, eb, rfl, by rw [← z]; exact e1⟩
    exact ⟨c, rfl, by rw [upd_ne ne]; exact hn, ob.mono sm (by rw [upd_ne ne])⟩
theorem Ext.lockF {A : Addr → Prop} {a : Addr} {o' : HO} (x : Ext A F H F' H') (hf : F' a = none) (h0 : A a ∨ H a = none) : Ext A F H (upd F' a o') (upd H' a o') := by
  refine ⟨fun b u q => ?_, fun b u n q => ?_, fun b n e q => ?_, fun b q => upd_some (x.t b q)⟩
  · have := x.f b u q
    rw [upd_ne (ne_of_none this hf)]
    exact this
  · rw [upd_ne (fun z => by
      rcases h0 with h0 | h0
      · exact n (by rw [z]; exact h0)
      · rw [z, h0] at q; cases q)]
    exact x.k b u n q
  · rw [upd_ne (fun z => by
      rcases h0 with h0 | h0
      · exact n (by rw [z]; exact h0)
      · exact q (by rw [z]; exact h0))]
    exact x.z b n e q
/-- a step that only the proof takes: an object is locked for ever -/
def tGh (t : TE) : TE := fun σ H Q => t σ H fun v H' => Q v H' ∨ ∃ d u, H' d = some u ∧ Mut (some u) ∧ ∀ od, Q v (upd H' d (.frz od u))
theorem pe_gh {X : Cx} {e : Expr} {t : TE} (h : PE X e t) : PE X e (tGh t) := by
  refine ⟨fun pins s σ H Q I hw => ?_⟩
  refine thn (h.run pins s σ _ _ I hw) fun v s1 ⟨x, H1, I2, r, q⟩ => ?_
  rcases q with q | ⟨d, u, hd, mu, q⟩
  · exact ⟨x, H1, I2, r, q⟩
  · obtain ⟨od, I3⟩ := I2.lock hd mu
    exact ⟨x, _, I3, r, q od⟩
/-- a new object becomes a value -/
theorem raw_gh {v : V} {d : D} {Q : VK} (r : Rs K F H σ s) (r' : Rs K F' H' σ s') (x : Ext (Ad σ s) F H F' H') (sub : ∀ a, Ad σ s' a → Ad σ s a) (w : Raw K F' H' H v d)
    (k : ∀ F'' H'', Rs K F'' H'' σ s' → Ext (Ad σ s) F H F'' H'' → Rp K F'' v d → Q v H'') : Q v H' ∨ ∃ p u, H' p = some u ∧ Mut (some u) ∧ ∀ od, Q v (upd H' p (.frz od u)) := by
  unfold Raw at w
  split at w
  · obtain ⟨a, rfl, h0, hf, ob⟩ := w
    have nA : ¬ Ad σ s' a := fun z => (Ad.tracked r (sub a z)).1 h0
    cases d with
    | list ds =>
      obtain ⟨o, eo⟩ := ob.has
      exact .inl (k (upd F' a o) H' (r'.addF eo hf nA) (x.addF hf h0) (ob.frz eo hf))
    | dict ds =>
      obtain ⟨vs, eo, _⟩ := id ob
      exact .inr ⟨a, _, eo, trivial, fun od => k _ _ (r'.lockF eo hf nA) (x.lockF hf (.inr h0)) (ob.frzD eo hf)⟩
    | _ => exact ob.elim
  · exact .inl (k F' H' r' x w)
/-- a new list becomes a value -/
theorem raw_val {v : V} {ds : List D} (r : Rs K F H σ s) (r' : Rs K F' H' σ s') (x : Ext (Ad σ s) F H F' H') (sub : ∀ a, Ad σ s' a → Ad σ s a) (w : Raw K F' H' H v (.list ds)) :
    ∃ F'', Rs K F'' H' σ s' ∧ Ext (Ad σ s) F H F'' H' ∧ Rp K F'' v (.list ds) := by
  obtain ⟨a, rfl, h0, hf, ob⟩ := w
  obtain ⟨o, eo⟩ := ob.has
  exact ⟨upd F' a o, r'.addF eo hf (fun z => (Ad.tracked r (sub a z)).1 h0), x.addF hf h0, ob.frz eo hf⟩
end

section
variable {X : Cx} {Γ : Gam} {q : Scp} {C : Calls} {x : Expr} {e : Ex}
theorem pe_frz {K : PySem.W.Frag} {m : M D} (h : PE X x (tG K m fun F H _ H0 v d => Raw K F H H0 v d)) : PE X x (tG K m fun F _ _ _ v d => Rp K F v d) := by
  refine PE.imp (pe_gh h) fun σ H Q hq => ?_
  obtain ⟨s, F, d, s', r, e, k⟩ := hq
  refine ⟨s, F, d, s', r, e, fun v F' H' r' x' sub w => ?_⟩
  exact raw_gh r r' x' sub w fun F'' H'' r2 x2 p => k v F'' H'' r2 x2 sub p
/-- a value as an operand -/
theorem pe_vl {K : PySem.W.Frag} {m : M D} (h : PE X x (tG K m fun F _ _ _ v d => Rp K F v d)) : PE X x (tG K (bnd m fun d => gives (.vl d)) fun F H σ H0 v a => ArR K F H σ H0 v a) := by
  refine PE.imp h fun σ H Q hq => ?_
  obtain ⟨s, F, a, s', r, e, k⟩ := hq
  obtain ⟨d, s1, e1, e2⟩ := bnd_some e
  cases e2
  exact ⟨s, F, d, s', r, e1, fun v F' H' r' x' sub w => k v F' H' r' x' sub w⟩
theorem pe_ow {K : PySem.W.Frag} {m : M D} (h : PE X x (tG K m fun F H _ H0 v d => Raw K F H H0 v d)) : PE X x (tG K (bnd m fun d => if newObj d then gives (.ow d) else fails) fun F H σ H0 v a => ArR K F H σ H0 v a) := by
  refine PE.imp h fun σ H Q hq => ?_
  obtain ⟨s, F, a, s', r, e, k⟩ := hq
  obtain ⟨d, s1, e1, e2⟩ := bnd_some e
  split at e2
  · rename_i hn
    cases e2
    refine ⟨s, F, d, s', r, e1, fun v F' H' r' x' sub w => k v F' H' r' x' sub ⟨hn, ?_⟩⟩
    change (if newObj d = true then _ else _) at w
    rw [if_pos hn] at w
    exact w
  · cases e2
theorem tru_of {K : PySem.W.Frag} {F H : Hp} {v : V} {d : D} {k : Bool} (sub : Same F H) (t : TR K F H v d) (h : truD d = some k) : TruV K v H k := by
  cases d with
  | none => cases h; rw [t.non]; exact rfl
  | bool b => cases h; rw [t.bl]; exact rfl
  | int i => cases h; rw [t.int]; exact rfl
  | str z =>
    simp only [truD] at h
    split at h
    · rename_i hz
      cases h
      rw [t.str]
      refine ⟨hz, ?_⟩
      cases e : z.length with
      | zero => rfl
      | succ n => simp; omega
    · cases h
  | list ds =>
    cases h
    obtain ⟨a, vs, rfl, h1, r1⟩ := t.list sub
    refine .inl ⟨vs, .inl h1, ?_⟩
    cases r1 <;> rfl
  | tuple ds =>
    cases h
    obtain ⟨a, vs, rfl, h1, f1, r1⟩ := t.tuple sub
    refine .inr (.inl ⟨vs, h1, ?_⟩)
    cases r1 <;> rfl
  | dict _ => cases h
/-- plain expressions as tests -/
def plainT : Expr → Bool
  | .UnaryOp .Not _ _ => false
  | .BoolOp .. => false
  | .IfExp .. => false
  | .Compare .. => false
  | _ => true
theorem plainT_eq {env : Env} (h : plainT x = true) (whole : Sem Value) : isTrue x env whole = (do let v ← whole; standAt x.pos; holding [v] (truthy v)) := by
  cases x with
  | UnaryOp op a p => cases op <;> first | rfl | (cases h; done)
  | _ => first | rfl | (cases h; done)
theorem pt_of {m : M D} (hx : plainT x = true) (h : PE X x (tG X.K m fun F _ _ _ v d => Rp X.K F v d)) : PT X x (tT X.K (bnd m fun d => lift (truD d))) := by
  refine PT.imp (pt_truth h (plainT_eq hx)) fun σ H Q hq => ?_
  obtain ⟨s, F, k, s', r, e, h⟩ := hq
  obtain ⟨d, s1, e1, e2⟩ := bnd_some e
  obtain ⟨e3, e4⟩ := lift_some e2
  cases e4
  exact ⟨s, F, d, _, r, e1, fun v F' H' r' x' sub w => ⟨k, tru_of r'.sub (.inl w) e3, h F' H' r' x' sub⟩⟩
theorem pt_cmp_of {y : Expr} {ops : List CmpOp} {cs : List Expr} {pos : Pos} {m : M D} (hb : ∀ s d s', m s = some (d, s') → ∃ b, d = .bool b) (t : TE) (hp : PT X x (tTest t)) (h : ∀ σ H Q, tG X.K m (fun F _ _ _ v d => Rp X.K F v d) σ H Q → t σ H Q) : PT X x (tT X.K (bnd m fun d => lift (truD d))) := by
  refine PT.imp hp fun σ H Q hq => ?_
  obtain ⟨s, F, k, s', r, e, h2⟩ := hq
  obtain ⟨d, s1, e1, e2⟩ := bnd_some e
  obtain ⟨e3, e4⟩ := lift_some e2
  cases e4
  obtain ⟨b, rfl⟩ := hb _ _ _ e1
  cases e3
  refine h σ H _ ⟨s, F, _, _, r, e1, fun v F' H' r' x' sub w => ?_⟩
  change Rp X.K F' v (.bool k) at w
  cases w
  exact ⟨k, rfl, h2 F' H' r' x' sub⟩

/-! ### constants, names -/
theorem pe_con {d : D} (h : conOk d x = true) : PE X x (tV X.K C (.con d)) := by
  have key : ∀ v : V, (∀ F, Rp X.K F v d) → PE X x (tC v) → PE X x (tV X.K C (.con d)) := fun v hr hp => PE.imp hp fun σ H Q hq => by
    obtain ⟨s, F, a, s', r, e, k⟩ := hq
    cases e
    exact k v F H r Ext.refl (fun _ z => z) (hr F)
  unfold conOk at h
  split at h
  · exact key .non (fun _ => .non) pe_non
  · have e := eq_of_beq h
    subst e
    exact key (.bl _) (fun _ => .bl _) pe_bl
  · have e := of_decide_eq_true h
    subst e
    exact key (.int _) (fun _ => .int _) pe_int
  · have e := of_decide_eq_true h
    subst e
    exact key (.str _) (fun _ => .str _) pe_str
  · cases h
theorem con_plain {d : D} (h : conOk d x = true) : plainT x = true := by
  unfold conOk at h
  split at h <;> first | rfl | cases h
theorem vis_of {i : Nat} (g : Gd X Γ q) (h : vis Γ q i x = true) : (∃ y p, x = .Name y p) ∧ PE X x (tVar i) := by
  unfold vis at h
  split at h
  · rename_i y p
    simp only [Bool.and_eq_true, Bool.not_eq_true', beq_iff_eq] at h
    obtain ⟨⟨⟨h1, h2⟩, h3⟩, h4⟩ := h
    refine ⟨⟨y, p, rfl⟩, pe_var (by rw [g.N]; exact h1) ?_ h3 h4⟩
    unfold Vis
    rw [g.sc]
    unfold visB at h2
    split at h2 <;> first | (cases h2; done) | (rename_i e; first | exact .inl e | exact .inr (.inl e) | exact .inr (.inr e))
  · cases h
theorem pe_var_ (g : Gd X Γ q) {i : Nat} (h : vis Γ q i x = true) : PE X x (tV X.K C (.var i)) := by
  refine PE.imp (pe_gh (vis_of g h).2) fun σ H Q hq => ?_
  obtain ⟨s, F, d, s', r, e, k⟩ := hq
  have e : rdV i s = some (d, s') := e
  unfold rdV at e
  split at e
  · rename_i d' eb
    cases e
    obtain ⟨v, e1, rb⟩ := r.at_ _ _ eb
    exact ⟨v, e1, .inl (k v F H r Ext.refl (fun _ z => z) rb)⟩
  · rename_i d' eb
    cases e
    obtain ⟨v, e1, rb⟩ := r.at_ _ _ eb
    obtain ⟨a, rfl, hf, ob⟩ := rb
    have hi : i < s.length := (List.getElem?_eq_some_iff.mp eb).1
    have hA : Ad σ s a := ⟨i, _, eb, rfl, e1⟩
    have dis' : ∀ (j k : Nat) (b c : B) (a' : Addr), (s.set i (some (.val d)))[j]? = some (some b) → (s.set i (some (.val d)))[k]? = some (some c) → b.mine = true → c.mine = true → σ[j]? = some (some (.ref a')) → σ[k]? = some (some (.ref a')) → j = k := by
      intro j k b c a' e1 e2 m1 m2 e3 e4
      have nj : ∀ {j : Nat} {b : B}, (s.set i (some (.val d)))[j]? = some (some b) → b.mine = true → s[j]? = some (some b) := fun {j b} ej m => by
        by_cases hj : j = i
        · subst hj
          rw [List.getElem?_set_self hi] at ej
          cases ej
          cases m
        · rw [List.getElem?_set_ne (Ne.symm hj)] at ej
          exact ej
      exact r.dis j k b c a' (nj e1 m1) (nj e2 m2) m1 m2 e3 e4
    have sub' : ∀ b, Ad σ (s.set i (some (.val d))) b → Ad σ s b := by
      rintro b ⟨j, c, ej, m, ev⟩
      by_cases hj : j = i
      · subst hj
        rw [List.getElem?_set_self hi] at ej
        cases ej
        cases m
      · rw [List.getElem?_set_ne (Ne.symm hj)] at ej
        exact ⟨j, c, ej, m, ev⟩
    have fin : ∀ (F2 H2 : Hp), Same F F2 → Same F2 H2 → (∀ c, c ≠ a → F2 c = F c ∧ H2 c = H c) → Rp X.K F2 (.ref a) d → Rs X.K F2 H2 σ (s.set i (some (.val d))) := by
      intro F2 H2 sm sb oth rp
      refine ⟨sb, by rw [List.length_set]; exact r.len, fun j b ej => ?_, dis'⟩
      by_cases hj : j = i
      · subst hj
        rw [List.getElem?_set_self hi] at ej
        cases ej
        exact ⟨_, e1, rp⟩
      · rw [List.getElem?_set_ne (Ne.symm hj)] at ej
        obtain ⟨w, ew, h2⟩ := r.at_ j b ej
        refine ⟨w, ew, ?_⟩
        have nea : ∀ c, w = .ref c → b.mine = true → c ≠ a := fun c ec m z => hj (r.dis j i b _ a ej eb m rfl (by rw [ew, ec, z]) e1)
        cases b with
        | val d => exact Rp.same sm h2
        | own d =>
          obtain ⟨c, rfl, hn, ob2⟩ := h2
          obtain ⟨o1, o2⟩ := oth c (nea c rfl rfl)
          exact ⟨c, rfl, by rw [o1]; exact hn, ob2.mono sm o2⟩
        | lent d =>
          obtain ⟨c, rfl, hn, ob2⟩ := h2
          obtain ⟨o1, o2⟩ := oth c (nea c rfl rfl)
          exact ⟨c, rfl, by rw [o1]; exact hn, ob2.mono sm o2⟩
    refine ⟨.ref a, e1, ?_⟩
    have sm : ∀ o : HO, Same F (upd F a o) := fun o b u q => by rw [upd_ne (ne_of_none q hf)]; exact q
    cases d with
    | list ds =>
      obtain ⟨o, eo⟩ := ob.has
      exact .inl (k (.ref a) (upd F a o) H (fin _ _ (sm o) (same_shut r.sub eo) (fun c hc => ⟨upd_ne hc, rfl⟩) (ob.frz eo hf)) (ext_shut hf hA) sub' (ob.frz eo hf))
    | dict ds =>
      obtain ⟨vs, eo, _⟩ := id ob
      refine .inr ⟨a, _, eo, trivial, fun od => ?_⟩
      exact k (.ref a) _ _ (fin _ _ (sm _) (same_newF r.sub) (fun c hc => ⟨upd_ne hc, upd_ne hc⟩) (ob.frzD eo hf)) (Ext.refl.lockF hf (.inl hA)) sub' (ob.frzD eo hf)
    | _ => exact ob.elim
  · cases e
theorem pe_arSlot (g : Gd X Γ q) {i : Nat} {a : Ar} (ha : a = .pl i ∨ a = .ln i) (h : vis Γ q i x = true) : PE X x (tG X.K (slotA a) fun F H σ H0 v a => ArR X.K F H σ H0 v a) := by
  refine PE.imp (vis_of g h).2 fun σ H Q hq => ?_
  obtain ⟨s, F, d, s', r, e, k⟩ := hq
  unfold slotA at e
  split at e
  · rename_i dd er
    cases e
    have : ∃ b, s[i]? = some (some b) := by
      rcases ha with rfl | rfl
      · simp only [resA] at er
        split at er
        · rename_i b eb; exact ⟨b, eb⟩
        · cases er
      · simp only [resA] at er
        split at er
        · rename_i b eb; exact ⟨_, eb⟩
        · rename_i b eb; exact ⟨_, eb⟩
        · cases er
    obtain ⟨b, eb⟩ := this
    obtain ⟨v, e1, rb⟩ := r.at_ _ _ eb
    refine ⟨v, e1, k v F H r Ext.refl (fun _ z => z) ?_⟩
    rcases ha with rfl | rfl
    · exact e1
    · exact e1
  · cases e
theorem pt_pk_ (g : Gd X Γ q) {i : Nat} (h : vis Γ q i x = true) : PT X x (tT X.K (sem C (.pk i)).t) := by
  obtain ⟨⟨y, p, rfl⟩, hp⟩ := vis_of g h
  refine PT.imp (pt_truth hp (plainT_eq rfl)) fun σ H Q hq => ?_
  obtain ⟨s, F, kk, s', r, e, k⟩ := hq
  change (match resA s (.pl i) with
      | none => none
      | some d => match truD d with
        | none => none
        | some k => some (k, s)) = some (kk, s') at e
  split at e
  · cases e
  · rename_i d er
    split at e
    · cases e
    · rename_i k2 ek
      cases e
      simp only [resA] at er
      split at er
      · rename_i b eb
        cases er
        obtain ⟨v, e1, rb⟩ := r.at_ _ _ eb
        exact ⟨v, e1, kk, tru_of r.sub rb.tr ek, k F H r Ext.refl fun _ z => z⟩
      · cases er
theorem pe_glob_ (g : Gd X Γ q) {y : Str} {d : D} (h : (mm Γ (.glob y d)).e q x = true) : plainT x = true ∧ PE X x (tV X.K C (.glob y d)) := by
  simp only [mm] at h
  split at h
  · rename_i z p
    simp only [Bool.and_eq_true, Bool.not_eq_true', beq_iff_eq, List.any_eq_true] at h
    obtain ⟨⟨⟨rfl, hg⟩, ⟨pr, hm, e1, hc⟩⟩, hd⟩ := h
    refine ⟨rfl, ?_⟩
    obtain ⟨u, hu, hr⟩ := g.gv pr hm
    rw [e1] at hu
    obtain ⟨pn, pd⟩ := pr
    simp only at hr hc e1
    have key : ∀ v : V, RelV v u → (∀ F, Rp X.K F v d) → PE X (.Name z p) (tV X.K C (.glob z d)) := fun v rv rp => PE.imp (pe_glob (g.glx hg) hu rv hd) fun σ H Q hq => by
      obtain ⟨s, F, a, s', r, e, k⟩ := hq
      cases e
      exact k v F H r Ext.refl (fun _ z => z) (rp F)
    cases pd with
    | int i =>
      unfold conOk at hc
      split at hc <;> first | (cases hc; done) | skip
      · rename_i h1; cases h1
      · rename_i h1; cases h1
      · rename_i i' j _ _ h1
        have e2 := of_decide_eq_true hc
        cases h1
        subst e2
        exact key (.int _) hr fun _ => .int _
      · rename_i h1; cases h1
    | str t =>
      unfold conOk at hc
      split at hc <;> first | (cases hc; done) | skip
      · rename_i h1; cases h1
      · rename_i h1; cases h1
      · rename_i h1; cases h1
      · rename_i i' j _ _ h1
        have e2 := of_decide_eq_true hc
        cases h1
        subst e2
        exact key (.str _) hr fun _ => .str _
    | _ => exact hr.elim
  · cases h
end
end FC

/-! Part 8: composite expressions. -/
namespace FC
open PySem PySem.Spec PyProof.Rows L2
section
variable {X : Cx} {Γ : Gam} {q : Scp} {C : Calls} {x : Expr}
abbrev RV (K : PySem.W.Frag) : Hp → Hp → L2.St → Hp → V → D → Prop := fun F _ _ _ v d => Rp K F v d
abbrev RO (K : PySem.W.Frag) : Hp → Hp → L2.St → Hp → V → D → Prop := fun F H _ H0 v d => Raw K F H H0 v d

theorem raw_rp {K : PySem.W.Frag} {F H H0 : Hp} {v : V} {d : D} (h : newObj d = false) (r : Rp K F v d) : Raw K F H H0 v d := by
  unfold Raw
  rw [h, if_neg Bool.false_ne_true]
  exact r
theorem Raw.back {K : PySem.W.Frag} {F H H0 H1 : Hp} {v : V} {d : D} (w : Raw K F H H1 v d) (t : ∀ b, H0 b ≠ none → H1 b ≠ none) : Raw K F H H0 v d := by
  unfold Raw at w ⊢
  split
  · rename_i hn
    rw [if_pos hn] at w
    obtain ⟨a, e, h1, r⟩ := w
    refine ⟨a, e, ?_, r⟩
    cases q : H0 a with
    | none => rfl
    | some o => exact absurd h1 (t a (by rw [q]; intro z; cases z))
  · rename_i hn
    rw [if_neg hn] at w
    exact w
theorem opM_some {o : Op} {as : M (List Ar)} {s s' : S} {d : D} (h : opM o as s = some (d, s')) : ∃ l ds, as s = some (l, s') ∧ resAs s' l = some ds ∧ opD o ds = some d := by
  unfold opM at h
  obtain ⟨l, s1, e1, e⟩ := bnd_some h
  split at e
  · cases e
  · rename_i ds e2
    split at e
    · cases e
    · rename_i d' e3
      cases e
      exact ⟨l, ds, e1, e2, e3⟩
theorem pe_opG (g : Gd X Γ q) {o : Op} {xs : List Expr} {es : Ex} (h : opArgs q o x = some xs) (hp : PAx X C xs es) :
    PE X x (tG X.K (opM o (sem C es).as) fun F H _ H0 v d => if (opFresh o && newObj d) = true then Raw X.K F H H0 v d else Rp X.K F v d) := by
  refine PE.imp (op_pe g h hp) fun σ H Q hq => ?_
  obtain ⟨s, F, d, s', r, e, k⟩ := hq
  obtain ⟨l, ds, e1, e2, e3⟩ := opM_some e
  refine as_read es r e1 fun vs F' H' r' x' sub arrs => ⟨F', ds, d, r'.sub, arrs.trs r' e2, e3, fun v F2 H2 x2 sm w => ?_⟩
  refine k v F2 H2 (r'.ext x2 sm) (x'.trans x2.none_ fun b z => .inl (sub b z)) sub ?_
  split at w
  · rename_i hf
    rw [if_pos hf]
    obtain ⟨a, e, h1, r⟩ := w
    have hn : newObj d = true := by
      rw [Bool.and_eq_true] at hf
      exact hf.2
    refine Raw.back (H1 := H') ?_ x'.t
    unfold Raw
    rw [if_pos hn]
    exact ⟨a, e, h1, r⟩
  · rename_i hf
    rw [if_neg hf]
    exact w
theorem pe_opO (g : Gd X Γ q) {o : Op} {xs : List Expr} {es : Ex} (h : opArgs q o x = some xs) (hp : PAx X C xs es) (hf : opFresh o = true) : PE X x (tG X.K (opM o (sem C es).as) (RO X.K)) := by
  refine PE.imp (pe_opG g h hp) fun σ H Q hq => ?_
  obtain ⟨s, F, d, s', r, e, k⟩ := hq
  refine ⟨s, F, d, s', r, e, fun v F' H' r' x' sub w => k v F' H' r' x' sub ?_⟩
  rw [hf, Bool.true_and] at w
  split at w
  · exact w
  · rename_i hn
    exact raw_rp (by simpa using hn) w
theorem pe_opV (g : Gd X Γ q) {o : Op} {xs : List Expr} {es : Ex} (h : opArgs q o x = some xs) (hp : PAx X C xs es) : PE X x (tG X.K (opM o (sem C es).as) (RV X.K)) := by
  cases hf : opFresh o with
  | true => exact pe_frz (pe_opO g h hp hf)
  | false =>
    refine PE.imp (pe_opG g h hp) fun σ H Q hq => ?_
    obtain ⟨s, F, d, s', r, e, k⟩ := hq
    refine ⟨s, F, d, s', r, e, fun v F' H' r' x' sub w => k v F' H' r' x' sub ?_⟩
    rw [hf, Bool.false_and, if_neg Bool.false_ne_true] at w
    exact w
/-- which operations are comparisons -/
def cmpOp : Op → Bool
  | .eq | .ne | .lt | .le | .gt | .ge | .isN | .notN | .isB _ | .notB _ | .inn | .notin => true
  | _ => false
theorem cmp_bool {o : Op} (h : cmpOp o = true) {ds : List D} {d : D} (e : opD o ds = some d) : ∃ b, d = .bool b := by
  match ds, e with
  | [a], e =>
    change op1 o a = some d at e
    cases o <;> first | (cases h; done) | (cases e; done) | skip
    · cases e; exact ⟨_, rfl⟩
    · cases e; exact ⟨_, rfl⟩
    · change opIsB _ a = some d at e
      cases a <;> simp only [opIsB] at e <;> cases e
      exact ⟨_, rfl⟩
    · change opNotB _ a = some d at e
      cases a <;> simp only [opNotB] at e <;> cases e
      exact ⟨_, rfl⟩
  | [a, b], e =>
    change op2 o a b = some d at e
    cases o <;> first | (cases h; done) | (cases e; done) | skip
    · change (if _ then _ else _) = some d at e
      split at e <;> cases e
      exact ⟨_, rfl⟩
    · change (if _ then _ else _) = some d at e
      split at e <;> cases e
      exact ⟨_, rfl⟩
    · change opLt a b = some d at e
      cases a <;> cases b <;> simp only [opLt] at e <;> cases e <;> exact ⟨_, rfl⟩
    · change opLe a b = some d at e
      cases a <;> cases b <;> simp only [opLe] at e <;> cases e <;> exact ⟨_, rfl⟩
    · cases a <;> cases b <;> simp only [op2] at e <;> cases e <;> exact ⟨_, rfl⟩
    · cases a <;> cases b <;> simp only [op2] at e <;> cases e <;> exact ⟨_, rfl⟩
    · change (match opIn a b with | some k => some (.bool k) | none => none) = some d at e
      split at e <;> cases e
      exact ⟨_, rfl⟩
    · change (match opIn a b with | some k => some (.bool (!k)) | none => none) = some d at e
      split at e <;> cases e
      exact ⟨_, rfl⟩
  | [a, b, c], e => cases e
theorem op_plain {o : Op} {xs : List Expr} (h : opArgs q o x = some xs) (hc : cmpOp o = false) : plainT x = true := by
  unfold opArgs at h
  split at h <;> first | (cases hc; done) | rfl | skip
  all_goals first
    | (obtain ⟨_, _, _, rfl, _, _⟩ := bi1_of h; rfl)
    | (obtain ⟨_, _, _, _, rfl, _, _⟩ := bi2_of h; rfl)
    | skip
  all_goals first
    | (split at h
       · first
         | (rename_i hb; obtain ⟨_, _, _, rfl, _, _⟩ := bi1_of hb; rfl)
         | (rename_i hb; obtain ⟨_, _, _, _, rfl, _, _⟩ := bi2_of hb; rfl)
       · cases h)
    | cases h
theorem op_pt (g : Gd X Γ q) {o : Op} {xs : List Expr} {es : Ex} (h : opArgs q o x = some xs) (hc : cmpOp o = true) (hp : PAx X C xs es) : PT X x (tTest (tOpA X.K o (tAs X.K C es))) := by
  have hu := g.u65
  unfold opArgs at h
  split at h <;> first | (cases hc; done) | skip
  · cases h; obtain ⟨a, b, rfl, _, pa, _, pb⟩ := pax2 hp; exact pt_cmpR (ro_eq (by omega)) pa pb (nomark _)
  · cases h; obtain ⟨a, b, rfl, _, pa, _, pb⟩ := pax2 hp; exact pt_cmpR (ro_ne (by omega)) pa pb (nomark _)
  · cases h; obtain ⟨a, b, rfl, _, pa, _, pb⟩ := pax2 hp; exact pt_cmpR ro_lt pa pb (nomark _)
  · cases h; obtain ⟨a, b, rfl, _, pa, _, pb⟩ := pax2 hp; exact pt_cmpR ro_le pa pb (nomark _)
  · cases h; obtain ⟨a, b, rfl, _, pa, _, pb⟩ := pax2 hp; exact pt_cmpR ro_gt pa pb (nomark _)
  · cases h; obtain ⟨a, b, rfl, _, pa, _, pb⟩ := pax2 hp; exact pt_cmpR ro_ge pa pb (nomark _)
  · cases h; obtain ⟨a, rfl, _, pa⟩ := pax1 hp
    exact PT.imp (pt_cmp (pc_isN pa)) fun σ H Q h => tG_mono h fun v H k => ro_isN (X := X) (Q := fun x H' => ∃ k, x = .bl k ∧ Q k H') k
  · cases h; obtain ⟨a, rfl, _, pa⟩ := pax1 hp
    exact PT.imp (pt_cmp (pc_notN pa)) fun σ H Q h => tG_mono h fun v H k => ro_notN (X := X) (Q := fun x H' => ∃ k, x = .bl k ∧ Q k H') k
  · split at h
    · rename_i hb
      cases h
      have hb := eq_of_beq hb
      subst hb
      obtain ⟨a, rfl, _, pa⟩ := pax1 hp
      exact PT.imp (pt_cmpR op_isBl pa pe_bl (nomark _)) fun σ H Q h => tG_mono h fun v H k => by
        obtain ⟨b, rfl, k2⟩ := ro_isB (X := X) (Q := fun x H' => ∃ k, x = .bl k ∧ Q k H') k
        exact ⟨b, _, rfl, rfl, k2⟩
    · cases h
  · split at h
    · rename_i hb
      cases h
      have hb := eq_of_beq hb
      subst hb
      obtain ⟨a, rfl, _, pa⟩ := pax1 hp
      exact PT.imp (pt_cmpR op_notBl pa pe_bl (nomark _)) fun σ H Q h => tG_mono h fun v H k => by
        obtain ⟨b, rfl, k2⟩ := ro_notB (X := X) (Q := fun x H' => ∃ k, x = .bl k ∧ Q k H') k
        exact ⟨b, _, rfl, rfl, k2⟩
    · cases h
  · split at h
    · rename_i hb
      cases h
      obtain ⟨a, b, rfl, _, pa, _, pb⟩ := pax2 hp
      exact pt_cmpR (ro_in hu) pa pb (noset_marks hb)
    · cases h
  · split at h
    · rename_i hb
      cases h
      obtain ⟨a, b, rfl, _, pa, _, pb⟩ := pax2 hp
      exact pt_cmpR (ro_notin hu) pa pb (noset_marks hb)
    · cases h
  · cases h
theorem op_t (g : Gd X Γ q) {o : Op} {xs : List Expr} {es : Ex} (h : opArgs q o x = some xs) (hp : PAx X C xs es) : PT X x (tT X.K (sem C (.op o es)).t) := by
  cases hc : cmpOp o with
  | false => exact pt_of (op_plain h hc) (pe_opV g h hp)
  | true =>
    refine PT.imp (op_pt g h hc hp) fun σ H Q hq => ?_
    obtain ⟨s, F, k, s', r, e, kk⟩ := hq
    have e : bnd (opM o (sem C es).as) (fun d => lift (truD d)) s = some (k, s') := e
    obtain ⟨d, s1, e1, e2⟩ := bnd_some e
    obtain ⟨e3, e4⟩ := lift_some e2
    cases e4
    obtain ⟨l, ds, f1, f2, f3⟩ := opM_some e1
    obtain ⟨b, rfl⟩ := cmp_bool hc f3
    cases e3
    refine as_read es r f1 fun vs F' H' r' x' sub arrs => ⟨F', ds, _, r'.sub, arrs.trs r' f2, f3, fun v F2 H2 x2 sm w => ?_⟩
    rw [show newObj (.bool k) = false from rfl, Bool.and_false, if_neg Bool.false_ne_true] at w
    cases w
    exact ⟨k, rfl, kk F2 H2 (r'.ext x2 sm) (x'.trans x2.none_ fun b z => .inl (sub b z)) sub⟩

/-! ### not, and, or -/
theorem tT_mono {K : PySem.W.Frag} {m : M Bool} {σ : L2.St} {H : Hp} {Q Q' : Bool → Hp → Prop} (h : tT K m σ H Q) (i : ∀ v H, Q v H → Q' v H) : tT K m σ H Q' := by
  obtain ⟨s, F, a, s', r, e, k⟩ := h
  exact ⟨s, F, a, s', r, e, fun F' H' r' x' a' => i _ _ (k F' H' r' x' a')⟩
theorem pe_not_ {a : Ex} {y : Expr} {p : Pos} (ha : PE X y (tV X.K C a)) : PE X (.UnaryOp .Not y p) (tV X.K C (.not a)) := by
  refine PE.imp (pe_notT ha) fun σ H Q hq => ?_
  obtain ⟨s, F, d, s', r, e, k⟩ := hq
  have e : bnd (sem C a).v (fun x => bnd (lift (truD x)) fun k => gives (.bool (!k))) s = some (d, s') := e
  obtain ⟨x, s1, e1, f1⟩ := bnd_some e
  obtain ⟨kk, s2, e2, f2⟩ := bnd_some f1
  clear e f1
  obtain ⟨e3, e4⟩ := lift_some e2
  change s2 = s1 at e4
  subst e4
  cases f2
  exact ⟨s, F, x, _, r, e1, fun v F' H' r' x' sub w => ⟨kk, tru_of r'.sub (.inl w) e3, k _ F' H' r' x' sub (.bl _)⟩⟩
theorem pt_not_ {a : Ex} {y : Expr} {p : Pos} (ha : PT X y (tT X.K (sem C a).t)) : PT X (.UnaryOp .Not y p) (tT X.K (sem C (.not a)).t) := by
  refine PT.imp (pt_not ha) fun σ H Q hq => ?_
  obtain ⟨s, F, d, s', r, e, k⟩ := hq
  have e : bnd (sem C a).t (fun k => gives (!k)) s = some (d, s') := e
  obtain ⟨x, s1, e1, e⟩ := bnd_some e
  cases e
  exact ⟨s, F, x, _, r, e1, fun F' H' r' x' sub => k F' H' r' x' sub⟩
/-- a piece, then another one -/
theorem tV_then {K : PySem.W.Frag} {c : Ex} {F H F1 H1 : Hp} {σ : L2.St} {s s1 s' : S} {d : D} {Q : VK} (r1 : Rs K F1 H1 σ s1) (x1 : Ext (Ad σ s) F H F1 H1) (sub1 : ∀ a, Ad σ s1 a → Ad σ s a) (e : (sem C c).v s1 = some (d, s'))
    (k : ∀ (v : V) (F' H' : Hp), Rs K F' H' σ s' → Ext (Ad σ s) F H F' H' → (∀ a, Ad σ s' a → Ad σ s a) → Rp K F' v d → Q v H') : tV K C c σ H1 Q :=
  ⟨s1, F1, d, s', r1, e, fun v F' H' r' x' sub w => k v F' H' r' (x1.trans x' fun b z => .inl (sub1 b z)) (fun b z => sub1 b (sub b z)) w⟩
theorem tT_then {K : PySem.W.Frag} {m : M Bool} {F H F1 H1 : Hp} {σ : L2.St} {s s1 s' : S} {a : Bool} {Q : Bool → Hp → Prop} (r1 : Rs K F1 H1 σ s1) (x1 : Ext (Ad σ s) F H F1 H1) (sub1 : ∀ a, Ad σ s1 a → Ad σ s a) (e : m s1 = some (a, s'))
    (k : ∀ (F' H' : Hp), Rs K F' H' σ s' → Ext (Ad σ s) F H F' H' → (∀ a, Ad σ s' a → Ad σ s a) → Q a H') : tT K m σ H1 Q :=
  ⟨s1, F1, a, s', r1, e, fun F' H' r' x' sub => k F' H' r' (x1.trans x' fun b z => .inl (sub1 b z)) (fun b z => sub1 b (sub b z))⟩
theorem pe_and_ {a b : Ex} {y z : Expr} {rest : List Expr} {p : Pos} (ha : PE X y (tV X.K C a)) (hb : PE X (.BoolOp .And (z :: rest) p) (tV X.K C b)) : PE X (.BoolOp .And (y :: z :: rest) p) (tV X.K C (.and a b)) := by
  refine PE.imp (pe_andT ha hb) fun σ H Q hq => ?_
  obtain ⟨s, F, d, s', r, e, k⟩ := hq
  have e : bnd (sem C a).v (fun x => bnd (lift (truD x)) fun k => if k then (sem C b).v else gives x) s = some (d, s') := e
  obtain ⟨x, s1, e1, f1⟩ := bnd_some e
  obtain ⟨kk, s2, e2, f2⟩ := bnd_some f1
  clear e f1
  obtain ⟨e3, e4⟩ := lift_some e2
  change s2 = s1 at e4
  subst e4
  refine ⟨s, F, x, _, r, e1, fun v F' H' r' x' sub w => ⟨kk, tru_of r'.sub (.inl w) e3, ?_⟩⟩
  cases kk with
  | true => exact tV_then r' x' sub f2 k
  | false =>
    cases f2
    exact k v F' H' r' x' sub w
theorem pe_or_ {a b : Ex} {y z : Expr} {rest : List Expr} {p : Pos} (ha : PE X y (tV X.K C a)) (hb : PE X (.BoolOp .Or (z :: rest) p) (tV X.K C b)) : PE X (.BoolOp .Or (y :: z :: rest) p) (tV X.K C (.or a b)) := by
  refine PE.imp (pe_orT ha hb) fun σ H Q hq => ?_
  obtain ⟨s, F, d, s', r, e, k⟩ := hq
  have e : bnd (sem C a).v (fun x => bnd (lift (truD x)) fun k => if k then gives x else (sem C b).v) s = some (d, s') := e
  obtain ⟨x, s1, e1, f1⟩ := bnd_some e
  obtain ⟨kk, s2, e2, f2⟩ := bnd_some f1
  clear e f1
  obtain ⟨e3, e4⟩ := lift_some e2
  change s2 = s1 at e4
  subst e4
  refine ⟨s, F, x, _, r, e1, fun v F' H' r' x' sub w => ⟨kk, tru_of r'.sub (.inl w) e3, ?_⟩⟩
  cases kk with
  | false => exact tV_then r' x' sub f2 k
  | true =>
    cases f2
    exact k v F' H' r' x' sub w
theorem raw_tr {K : PySem.W.Frag} {F H H0 : Hp} {v : V} {d : D} (w : Raw K F H H0 v d) : TR K F H v d := by
  unfold Raw at w
  split at w
  · obtain ⟨a, e, _, _, ob⟩ := w
    exact .inr ⟨a, e, ob⟩
  · exact .inl w
theorem pe_orO {a b : Ex} {y z : Expr} {rest : List Expr} {p : Pos} (ha : PE X y (tO X.K C a)) (hb : PE X (.BoolOp .Or (z :: rest) p) (tO X.K C b)) : PE X (.BoolOp .Or (y :: z :: rest) p) (tO X.K C (.or a b)) := by
  refine PE.imp (pe_orT ha hb) fun σ H Q hq => ?_
  obtain ⟨s, F, d, s', r, e, k⟩ := hq
  have e : bnd (sem C a).v (fun x => bnd (lift (truD x)) fun k => if k then gives x else (sem C b).v) s = some (d, s') := e
  obtain ⟨x, s1, e1, f1⟩ := bnd_some e
  obtain ⟨kk, s2, e2, f2⟩ := bnd_some f1
  clear e f1
  obtain ⟨e3, e4⟩ := lift_some e2
  change s2 = s1 at e4
  subst e4
  refine ⟨s, F, x, _, r, e1, fun v F' H' r' x' sub w => ⟨kk, tru_of r'.sub (raw_tr w) e3, ?_⟩⟩
  cases kk with
  | false => exact ⟨_, F', d, s', r', f2, fun v F2 H2 r2 x2 sub2 w2 => k v F2 H2 r2 (x'.trans x2 fun b z => .inl (sub b z)) (fun b z => sub b (sub2 b z)) (Raw.back w2 x'.t)⟩
  | true =>
    cases f2
    exact k v F' H' r' x' sub w
theorem pw_of {op : BoolOp} {l : List Expr} {p : Pos} {t : TT} (h : PT X (.BoolOp op l p) t) : PW X (.BoolOp op l p) t := ⟨fun _ => h.run⟩
theorem pt_and_ {a b : Ex} {y z : Expr} {rest : List Expr} {p : Pos} (ha : PT X y (tT X.K (sem C a).t)) (hb : PW X (.BoolOp .And (z :: rest) p) (tT X.K (sem C b).t)) : PT X (.BoolOp .And (y :: z :: rest) p) (tT X.K (sem C (.and a b)).t) := by
  refine PT.imp (pw_and ha hb).pt fun σ H Q hq => ?_
  obtain ⟨s, F, d, s', r, e, k⟩ := hq
  have e : bnd (sem C a).t (fun k => if k then (sem C b).t else gives false) s = some (d, s') := e
  obtain ⟨kk, s1, e1, e⟩ := bnd_some e
  refine ⟨s, F, kk, _, r, e1, fun F' H' r' x' sub => ?_⟩
  cases kk with
  | true => exact tT_then r' x' sub e k
  | false =>
    cases e
    exact k F' H' r' x' sub
theorem pt_or_ {a b : Ex} {y z : Expr} {rest : List Expr} {p : Pos} (ha : PT X y (tT X.K (sem C a).t)) (hb : PW X (.BoolOp .Or (z :: rest) p) (tT X.K (sem C b).t)) : PT X (.BoolOp .Or (y :: z :: rest) p) (tT X.K (sem C (.or a b)).t) := by
  refine PT.imp (pw_or ha hb).pt fun σ H Q hq => ?_
  obtain ⟨s, F, d, s', r, e, k⟩ := hq
  have e : bnd (sem C a).t (fun k => if k then gives true else (sem C b).t) s = some (d, s') := e
  obtain ⟨kk, s1, e1, e⟩ := bnd_some e
  refine ⟨s, F, kk, _, r, e1, fun F' H' r' x' sub => ?_⟩
  cases kk with
  | false => exact tT_then r' x' sub e k
  | true =>
    cases e
    exact k F' H' r' x' sub
theorem pe_ife_ {c a b : Ex} {t y z : Expr} {p : Pos} (hc : PT X t (tT X.K (sem C c).t)) (ha : PE X y (tV X.K C a)) (hb : PE X z (tV X.K C b)) : PE X (.IfExp t y z p) (tV X.K C (.ife c a b)) := by
  refine PE.imp (pe_ifExp hc ha hb) fun σ H Q hq => ?_
  obtain ⟨s, F, d, s', r, e, k⟩ := hq
  have e : bnd (sem C c).t (fun k => if k then (sem C a).v else (sem C b).v) s = some (d, s') := e
  obtain ⟨kk, s1, e1, f2⟩ := bnd_some e
  refine ⟨s, F, kk, _, r, e1, fun F' H' r' x' sub => ?_⟩
  cases kk with
  | true => exact tV_then r' x' sub f2 k
  | false => exact tV_then r' x' sub f2 k

/-! ### chains -/
theorem copOf_op {o : Op} {c : CmpOp} (h : copOf o = some c) : OpR X (compareOp c) (fun x y H Q => OpRd X.K o [x, y] H Q) ∧ c ≠ .In ∧ c ≠ .NotIn ∧ cmpOp o = true := by
  cases o <;> simp only [copOf] at h <;> cases h
  · exact ⟨ro_lt, by decide, by decide, rfl⟩
  · exact ⟨ro_le, by decide, by decide, rfl⟩
  · exact ⟨ro_gt, by decide, by decide, rfl⟩
  · exact ⟨ro_ge, by decide, by decide, rfl⟩
theorem chain_read {o o' : Op} {a b c : Ex} {σ : L2.St} {H : Hp} {Q : VK} (hc : cmpOp o = true) (hc' : cmpOp o' = true) (h : tV X.K C (.chain o o' a b c) σ H Q) :
    tChain (fun x y H Q => OpRd X.K o [x, y] H Q) (fun x y H Q => OpRd X.K o' [x, y] H Q) (tV X.K C a) (tV X.K C b) (tV X.K C c) σ H Q := by
  obtain ⟨s, F, d, s', r, e, k⟩ := h
  have e : bnd (sem C a).v (fun x => bnd (sem C b).v fun y => bnd (lift (opD o [x, y])) fun r => match r with
      | .bool true => bnd (sem C c).v fun z => lift (opD o' [y, z])
      | .bool false => gives (.bool false)
      | _ => fails) s = some (d, s') := e
  obtain ⟨x, s1, e1, f1⟩ := bnd_some e
  obtain ⟨y, s2, e2, f2⟩ := bnd_some f1
  obtain ⟨w, s3, e3, f3⟩ := bnd_some f2
  clear e f1 f2
  obtain ⟨e4, e5⟩ := lift_some e3
  change s3 = s2 at e5
  subst e5
  obtain ⟨kk, rfl⟩ := cmp_bool hc e4
  refine ⟨s, F, x, s1, r, e1, fun v F1 H1 r1 x1 sub1 w1 => ⟨s1, F1, y, _, r1, e2, fun u F2 H2 r2 x2 sub2 w2 => ?_⟩⟩
  have w1' : Rp X.K F2 v x := Rp.same x2.f w1
  refine ⟨F2, [x, y], _, r2.sub, .cons (.inl w1') (.cons (.inl w2) .nil), e4, fun z F3 H3 x3 sm w3 => ?_⟩
  rw [show newObj (.bool kk) = false from rfl, Bool.and_false, if_neg Bool.false_ne_true] at w3
  cases w3
  have r3 := r2.ext x3 sm
  have x13 : Ext (Ad σ s) F H F3 H3 := (x1.trans x2 fun b z => .inl (sub1 b z)).trans x3.none_ fun b z => .inl (sub1 b (sub2 b z))
  refine ⟨kk, rfl, ?_⟩
  cases kk with
  | false =>
    cases f3
    exact k (.bl false) F3 H3 r3 x13 (fun b z => sub1 b (sub2 b z)) (.bl _)
  | true =>
    have f4 : bnd (sem C c).v (fun z => lift (opD o' [y, z])) _ = some (d, s') := f3
    obtain ⟨z, s4, g1, g2⟩ := bnd_some f4
    obtain ⟨g3, g4⟩ := lift_some g2
    change s' = s4 at g4
    subst g4
    refine ⟨_, F3, z, _, r3, g1, fun vz F4 H4 r4 x4 sub4 w4 => ?_⟩
    refine ⟨F4, [y, z], d, r4.sub, .cons (.inl (Rp.same x4.f (Rp.same x3.f w2))) (.cons (.inl w4) .nil), g3, fun z2 F5 H5 x5 sm5 w5 => ?_⟩
    have x15 : Ext (Ad σ s) F H F5 H5 := (x13.trans x4 fun b z => .inl (sub1 b (sub2 b z))).trans x5.none_ fun b z => .inl (sub1 b (sub2 b (sub4 b z)))
    refine k z2 F5 H5 (r4.ext x5 sm5) x15 (fun b z => sub1 b (sub2 b (sub4 b z))) ?_
    obtain ⟨bb, rfl⟩ := cmp_bool hc' g3
    rw [show newObj (.bool bb) = false from rfl, Bool.and_false, if_neg Bool.false_ne_true] at w5
    exact w5
theorem lastM {c1 c2 : CmpOp} {b c : Expr} (h1 : c2 ≠ .In) (h2 : c2 ≠ .NotIn) : lastMarks [c1, c2] [b, c] = false := nomark c h1 h2
theorem pe_chain_ {o o' : Op} {c1 c2 : CmpOp} {a b c : Ex} {y z w : Expr} {p : Pos} (h1 : copOf o = some c1) (h2 : copOf o' = some c2) (ha : PE X y (tV X.K C a)) (hb : PE X z (tV X.K C b)) (hc : PE X w (tV X.K C c)) : PE X (.Compare y [c1, c2] [z, w] p) (tV X.K C (.chain o o' a b c)) := by
  obtain ⟨p1, _, _, q1⟩ := copOf_op (X := X) h1
  obtain ⟨p2, n1, n2, q2⟩ := copOf_op (X := X) h2
  exact PE.imp (pe_chain p1 p2 ha hb hc (lastM n1 n2)) fun σ H Q hq => chain_read q1 q2 hq
theorem pt_chain_ {o o' : Op} {c1 c2 : CmpOp} {a b c : Ex} {y z w : Expr} {p : Pos} (h1 : copOf o = some c1) (h2 : copOf o' = some c2) (ha : PE X y (tV X.K C a)) (hb : PE X z (tV X.K C b)) (hc : PE X w (tV X.K C c)) : PT X (.Compare y [c1, c2] [z, w] p) (tT X.K (sem C (.chain o o' a b c)).t) := by
  obtain ⟨p1, _, _, q1⟩ := copOf_op (X := X) h1
  obtain ⟨p2, n1, n2, q2⟩ := copOf_op (X := X) h2
  refine PT.imp (pt_chain p1 p2 ha hb hc (lastM n1 n2)) fun σ H Q hq => ?_
  obtain ⟨s, F, kk, s', r, e, k⟩ := hq
  have e : bnd (sem C (.chain o o' a b c)).v (fun d => lift (truD d)) s = some (kk, s') := e
  obtain ⟨d, s1, e1, f1⟩ := bnd_some e
  obtain ⟨e3, e4⟩ := lift_some f1
  change s' = s1 at e4
  subst e4
  refine chain_read q1 q2 ⟨s, F, d, _, r, e1, fun v F' H' r' x' sub w => ?_⟩
  obtain ⟨bb, rfl⟩ : ∃ bb, d = .bool bb := by
    have g : bnd (sem C a).v (fun x => bnd (sem C b).v fun y => bnd (lift (opD o [x, y])) fun r => match r with
      | .bool true => bnd (sem C c).v fun z => lift (opD o' [y, z])
      | .bool false => gives (.bool false)
      | _ => fails) s = some (d, s') := e1
    obtain ⟨x, t1, _, g⟩ := bnd_some g
    obtain ⟨y, t2, _, g⟩ := bnd_some g
    obtain ⟨w, t3, g3, g⟩ := bnd_some g
    obtain ⟨g4, _⟩ := lift_some g3
    obtain ⟨k2, e5⟩ := cmp_bool q1 g4
    change w = .bool k2 at e5
    subst e5
    cases k2 with
    | false => cases g; exact ⟨_, rfl⟩
    | true =>
      obtain ⟨z, t4, _, g⟩ := bnd_some g
      obtain ⟨g6, _⟩ := lift_some g
      exact cmp_bool q2 g6
  cases e3
  cases w
  exact ⟨_, rfl, k F' H' r' x' sub⟩
end
end FC

/-! Part 9: displays, methods, what is walked. -/
namespace FC
open PySem PySem.Spec PyProof.Rows L2
section
variable {X : Cx} {Γ : Gam} {q : Scp} {C : Calls} {x : Expr}
theorem vals_rps {K : PySem.W.Frag} {F H H0 : Hp} {σ : L2.St} : ∀ {vs : List V} {l : List Ar} {ds : List D}, ArRs K F H σ H0 vs l → valsA l = some ds → Rps K F vs ds
  | [], [], ds, _, e => by cases e; exact .nil
  | [], _ :: _, _, h, _ => absurd h.len (by simp)
  | _ :: _, [], _, h, _ => absurd h.len (by simp)
  | v :: vs, a :: l, ds, h, e => by
    unfold valsA at e
    split at e
    · rename_i heq
      cases heq
    · rename_i d l' heq
      cases heq
      split at e
      · rename_i ds' e2
        cases e
        refine .cons (h.at_ 0 v _ rfl rfl) (vals_rps ⟨by simpa using h.len, fun i w x k1 k2 => h.at_ (i + 1) w x (by simpa using k1) (by simpa using k2), fun i j b d e k1 k2 k3 k4 => ?_⟩ e2)
        have := h.dis (i + 1) (j + 1) b d e (by simpa using k1) (by simpa using k2) (by simpa using k3) (by simpa using k4)
        omega
      · cases e
    · cases e
theorem pe_tup_ {xs : List Expr} {k : Nat} {p : Pos} {es : Ex} (hp : PAx X C xs es) : PE X (.Tuple xs k p) (tV X.K C (.tup es)) := by
  refine PE.imp (pe_tup hp.pa) fun σ H Q hq => ?_
  obtain ⟨s, F, d, s', r, e, kk⟩ := hq
  have e : bnd (sem C es).as (fun l => bnd (lift (valsA l)) fun ds => if ds.length ≤ sizeLine then gives (.tuple ds) else fails) s = some (d, s') := e
  obtain ⟨l, s1, e1, f1⟩ := bnd_some e
  obtain ⟨ds, s2, e2, f2⟩ := bnd_some f1
  obtain ⟨e3, e4⟩ := lift_some e2
  change s2 = s1 at e4
  subst e4
  split at f2
  · rename_i hz
    cases f2
    refine as_read es r e1 fun vs F' H' r' x' sub arrs => ?_
    have rp := vals_rps arrs e3
    refine ⟨by rw [rp.length]; exact hz, fun a ha => ?_⟩
    have xf := ext_newF (o := .tup vs) r'.sub ha
    exact kk _ (upd F' a (.tup vs)) _ (r'.ext xf (same_newF r'.sub)) (x'.trans xf.none_ fun b z => .inl (sub b z)) sub (.tup (.inl (.inl upd_same)) (Rps.same xf.f rp))
  · cases f2
theorem pe_lstO {xs : List Expr} {p : Pos} {es : Ex} (hp : PAx X C xs es) : PE X (.List xs p) (tO X.K C (.lst es)) := by
  refine PE.imp (pe_lst hp.pa) fun σ H Q hq => ?_
  obtain ⟨s, F, d, s', r, e, kk⟩ := hq
  have e : bnd (sem C es).as (fun l => bnd (lift (valsA l)) fun ds => if ds.length ≤ sizeLine then gives (.list ds) else fails) s = some (d, s') := e
  obtain ⟨l, s1, e1, f1⟩ := bnd_some e
  obtain ⟨ds, s2, e2, f2⟩ := bnd_some f1
  obtain ⟨e3, e4⟩ := lift_some e2
  change s2 = s1 at e4
  subst e4
  split at f2
  · rename_i hz
    cases f2
    refine as_read es r e1 fun vs F' H' r' x' sub arrs => ?_
    have rp := vals_rps arrs e3
    refine ⟨by rw [rp.length]; exact hz, fun a ha => ?_⟩
    have xf : Ext (fun _ => False) F' H' F' (upd H' a (.lst vs)) := ext_new ha
    have h0 : H a = none := by
      cases q : H a with
      | none => rfl
      | some o => exact absurd ha (x'.t a (by rw [q]; intro z; cases z))
    refine kk _ F' _ (r'.ext xf (same_new r'.sub ha)) (x'.trans xf.none_ fun b z => .inl (sub b z)) sub ?_
    show Raw X.K F' _ H (.ref a) (.list ds)
    exact ⟨a, rfl, h0, none_sub r'.sub ha, vs, upd_same, rp⟩
  · cases f2
theorem pe_dct0O {p : Pos} : PE X (.Dict [] [] p) (tO X.K C .dct0) := by
  refine PE.imp pe_dnewK fun σ H Q hq => ?_
  obtain ⟨s, F, d, s', r, e, kk⟩ := hq
  have e : (some (.dict [], s) : Option (D × S)) = some (d, s') := e
  cases e
  intro a ha
  refine kk _ F _ (r.ext (ext_new ha) (same_new r.sub ha)) (ext_new ha).none_ (fun _ z => z) ?_
  show Raw X.K F _ H (.ref a) (.dict [])
  exact ⟨a, rfl, ha, none_sub r.sub ha, [], upd_same, .nil⟩
theorem fresh_back {A : Addr → Prop} {F H F' H' : Hp} {a : Addr} (x : Ext A F H F' H') (h : H' a = none) : H a = none := by
  cases q : H a with
  | none => rfl
  | some o => exact absurd h (x.t a (by rw [q]; intro z; cases z))
theorem pe_sl2O {a lo hi : Ex} {y l u : Expr} {p2 p : Pos} (ha : PE X y (tA X.K C a)) (hl : PE X l (tV X.K C lo)) (hu : PE X u (tV X.K C hi)) : PE X (.Subscript y (.Slice (some l) (some u) none p2) p) (tO X.K C (.sl2 a lo hi)) := by
  refine PE.imp (pe_slice sl_both ha (po_some hl) (po_some hu)) fun σ H Q hq => ?_
  obtain ⟨s, F, d, s', r, e, kk⟩ := hq
  have e : bnd (sem C a).a (fun x => bnd (sem C lo).v fun l => bnd (lift (intD l)) fun i => bnd (sem C hi).v fun h => bnd (lift (intD h)) fun j s => match resA s x with
      | none => none
      | some d => match opSl (some i) (some j) d with
        | none => none
        | some r => some (r, s)) s = some (d, s') := e
  obtain ⟨ar, s1, e1, f1⟩ := bnd_some e
  obtain ⟨dl, s2, e2, f2⟩ := bnd_some f1
  obtain ⟨i, s3, e3, f3⟩ := bnd_some f2
  obtain ⟨e4, e5⟩ := lift_some e3
  change s3 = s2 at e5
  subst e5
  obtain ⟨du, s4, e6, f4⟩ := bnd_some f3
  obtain ⟨j, s5, e7, f5⟩ := bnd_some f4
  obtain ⟨e8, e9⟩ := lift_some e7
  change s5 = s4 at e9
  subst e9
  clear e f1 f2 f3 f4
  split at f5
  · cases f5
  · rename_i dd er
    split at f5
    · cases f5
    · rename_i rr es
      cases f5
      have hi_ : dl = .int i := by cases dl <;> simp only [intD] at e4 <;> cases e4; rfl
      have hj_ : du = .int j := by cases du <;> simp only [intD] at e8 <;> cases e8; rfl
      subst hi_ hj_
      refine ⟨s, F, ar, s1, r, e1, fun v F1 H1 r1 x1 sub1 w1 => ⟨s1, F1, .int i, _, r1, e2, fun vl F2 H2 r2 x2 sub2 w2 => ?_⟩⟩
      cases w2
      refine ⟨i, rfl, _, F2, .int j, _, r2, e6, fun vu F3 H3 r3 x3 sub3 w3 => ?_⟩
      cases w3
      refine ⟨j, rfl, ?_⟩
      have hA1 : ∀ b, Ad σ s1 b → H b ≠ none := fun b z => (Ad.tracked r (sub1 b z)).1
      have w1' := (w1.keep (H1 := H1) x2 hA1).keep (H1 := H1) x3 fun b z => hA1 b (sub2 b z)
      have x13 := (x1.trans x2 fun b z => .inl (sub1 b z)).trans x3 fun b z => .inl (sub1 b (sub2 b z))
      refine sl_out r3.sub (w1'.tr r3 er) es fun z F4 H4 x4 sm w4 => ?_
      refine kk z F4 H4 (r3.ext x4 sm) (x13.trans x4.none_ fun b z => .inl (sub1 b (sub2 b (sub3 b z)))) (fun b z => sub1 b (sub2 b (sub3 b z))) ?_
      show Raw X.K F4 H4 H z d
      unfold Raw
      rw [Bool.true_and] at w4
      split at w4
      · rename_i hn
        rw [if_pos hn]
        obtain ⟨a, e, h1, r⟩ := w4
        exact ⟨a, e, fresh_back x13 h1, r⟩
      · rename_i hn
        rw [if_neg hn]
        exact w4

/-! ### methods -/
theorem base_plain {o : Expr} {n : Str} {env : Env} (h : notCall0 o = true) : attributeBase o n env (eval o env) = eval o env := by
  unfold attributeBase
  split
  · cases h
  · rfl
theorem few1 {env : Env} {e : Expr} {cpos : Pos} (h : ns e = true) : ((backTo cpos (starEach [e] env)).all (fun x => !x.1) && (backToKw cpos (keywordEach [] env)).all (fun x => x.1.isSome)
      && decide ([e].length + ([] : List Keyword).length + (if ([] : List Keyword).isEmpty then 0 else 1) < 30)) = true := by
  rw [star_ns h]
  rfl
theorem isList_ty {K : PySem.W.Frag} {F H : Hp} {v : V} {d : D} (sub : Same F H) (t : TR K F H v d) (h : isTy .list d = true) : tyV K "list" v H := by
  cases d <;> first | (cases h; done) | skip
  obtain ⟨a, vs, rfl, h1, _⟩ := t.list sub
  exact .inl ⟨rfl, vs, .inl h1⟩
theorem isStr_ty {K : PySem.W.Frag} {F H : Hp} {v : V} {d : D} (t : TR K F H v d) (h : isTy .str d = true) : tyV K "str" v H := by
  cases d <;> first | (cases h; done) | skip
  rw [t.str]
  exact rfl
theorem mtM_some {m : Mt} {o : M Ar} {as : M (List Ar)} {s s' : S} {r : D} (h : mtM m o as s = some (r, s')) : ∃ a s0 l x ds d0, o s = some (a, s0) ∧ resA s0 a = some d0 ∧ isTy m.ty d0 = true ∧ as s0 = some (l, s') ∧ resA s' a = some x ∧ resAs s' l = some ds ∧ mtD m x ds = some r := by
  unfold mtM at h
  obtain ⟨a, s0, e1, f1⟩ := bnd_some h
  split at f1
  · rename_i ht
    unfold isListA at ht
    split at ht
    · rename_i d0 e0
      split at f1
      · cases f1
      · rename_i l s1 e2
        split at f1
        · rename_i x ds e3 e4
          split at f1
          · cases f1
          · rename_i rr e5
            cases f1
            exact ⟨a, s0, l, x, ds, d0, e1, e0, ht, e2, e3, e4, e5⟩
        · cases f1
    · cases ht
  · cases f1
theorem mtD1 {m : Mt} (hm : m = .endswith ∨ m = .index) {x r : D} {ds : List D} (h : mtD m x ds = some r) : ∃ y, ds = [y] := by
  rcases hm with rfl | rfl
  · match ds, h with
    | [y], _ => exact ⟨y, rfl⟩
  · match ds, h with
    | [y], _ => exact ⟨y, rfl⟩
theorem findD_spec {d : D} : ∀ {ds : List D} {j : Nat}, findD d ds = some j → ∃ z, ds[j]? = some z ∧ PyData.eqv z d = true ∧ ∀ (m : Nat) (z' : D), m < j → ds[m]? = some z' → PyData.eqv z' d = false
  | [], _, h => by cases h
  | z :: r, j, h => by
    unfold findD at h
    split at h
    · rename_i hz
      cases h
      exact ⟨z, rfl, hz, fun m _ hm => absurd hm (by omega)⟩
    · rename_i hz
      simp only [Option.map_eq_some_iff] at h
      obtain ⟨k, hk, rfl⟩ := h
      obtain ⟨z2, h1, h2, h3⟩ := findD_spec hk
      refine ⟨z2, by simpa using h1, h2, fun m z' hm hz' => ?_⟩
      cases m with
      | zero => cases hz'; simpa using hz
      | succ m => exact h3 m z' (by omega) (by simpa using hz')
theorem pe_mt_ (g : Gd X Γ q) {m : Mt} {o es : Ex} {y : Expr} {n : Str} {ap cp : Pos} {xs : List Expr} (hn : n = mtName m) (hm : m = .endswith ∨ m = .index) (ho : PE X y (tA X.K C o)) (hy : notCall0 y = true) (hl : (ap.endLine == cp.line) = true) (hp : PAx X C xs es) (hx : xs.length = mtN m) :
    PE X (.Call (.Attribute y n ap) xs [] cp) (tV X.K C (.mt m o es)) := by
  subst hn
  have hu := g.u65
  have hx1 : ∃ z, xs = [z] := by
    rcases hm with rfl | rfl
    · exact List.length_eq_one_iff.mp hx
    · exact List.length_eq_one_iff.mp hx
  obtain ⟨z, rfl⟩ := hx1
  obtain ⟨ez, rfl, nz, pz⟩ := pax1 hp
  have read : ∀ (T : String) (r : V → List V → Hp → VK → Prop), (∀ (F H : Hp) (v : V) (d : D), Same F H → TR X.K F H v d → isTy m.ty d = true → tyV X.K T v H) →
      (∀ (F H : Hp) (v w : V) (dx dy rr : D) (Q : VK), Same F H → TR X.K F H v dx → TR X.K F H w dy → mtD m dx [dy] = some rr → (∀ u, Rp X.K F u rr → Q u H) → r v [w] H Q) →
      ∀ σ H Q, tV X.K C (.mt m o (.cons ez .nil)) σ H Q → tBM X.K T r (tA X.K C o) (tAs X.K C (.cons ez .nil)) σ H Q := by
    intro T r hT hr σ H Q hq
    obtain ⟨s, F, d, s', rr, e, kk⟩ := hq
    obtain ⟨a, s0, l, dx, ds, d0, e1, e0, ht, e2, e3, e4, e5⟩ := mtM_some e
    refine ⟨s, F, a, s0, rr, e1, fun v F1 H1 r1 x1 sub1 w1 => ⟨hT F1 H1 v d0 r1.sub (w1.tr r1 e0) ht, ?_⟩⟩
    refine as_read _ r1 e2 fun vs F2 H2 r2 x2 sub2 arrs => ?_
    have hA1 : ∀ b, Ad σ s0 b → H b ≠ none := fun b z => (Ad.tracked rr (sub1 b z)).1
    have w1' := w1.keep (H1 := H1) x2 hA1
    have tr2 := arrs.trs r2 e4
    obtain ⟨dy, rfl⟩ := mtD1 hm e5
    obtain ⟨w, rfl, tw⟩ := one_of tr2
    refine hr F2 H2 v w dx dy d Q r2.sub (w1'.tr r2 e3) tw e5 fun u ru => ?_
    exact kk u F2 H2 r2 (x1.trans x2 fun b z => .inl (sub1 b z)) (fun b z => sub1 b (sub2 b z)) ru
  have ok : ∀ (T : String) (id : String) (r : V → List V → Hp → VK → Prop), PlainAttrs T → Slot T (mtName m) id → typeOf (.builtin id) = pure (.type "method_descriptor") → MtR X id r →
      PE X (.Call (.Attribute y (mtName m) ap) [z] [] cp) (tBM X.K T r (tA X.K C o) (tAs X.K C (.cons ez .nil))) := fun T id r pa sl ty mr =>
    pe_bm pa sl ty mr ho (PAx.cons nz pz .nil).pa (base_plain hy) (few1 nz) hl (star_ns nz) rfl
  rcases hm with rfl | rfl
  · refine PE.imp (ok "str" _ _ PySem.F.plainAttrs_str PySem.F.slot_str_endswith PySem.F.type_str_endswith mt_endswith) (read "str" _ (fun F H v d sub t h => isStr_ty t h) fun F H v w dx dy rr Q sub t1 t2 hd k => ?_)
    change opEndswith dx dy = some rr at hd
    cases dx <;> cases dy <;> simp only [opEndswith] at hd <;> cases hd
    exact ⟨_, _, t1.str, by rw [t2.str], k _ (.bl _)⟩
  · refine PE.imp (ok "list" _ _ PySem.F.plainAttrs_list PySem.F.slot_list_index PySem.F.type_list_index (mt_indexD hu)) (read "list" _ (fun F H v d sub t h => isList_ty sub t h) fun F H v w dx dy rr Q sub t1 t2 hd k => ?_)
    change opIndex dx dy = some rr at hd
    cases dx <;> simp only [opIndex] at hd <;> first | (cases hd; done) | skip
    rename_i ds
    split at hd
    · rename_i hs
      simp only [sh, Bool.and_eq_true] at hs
      simp only [Option.map_eq_some_iff] at hd
      obtain ⟨j, hj, rfl⟩ := hd
      obtain ⟨zz, h1, h2, h3⟩ := findD_spec hj
      obtain ⟨a, vs, rfl, _, _⟩ := t1.list sub
      exact ⟨a, w, dy, ds, j, zz, rfl, rfl, t1.dp sub (SeqAt.canLay_of_shaped hs.1), t2.dp sub (SeqAt.canLay_of_shaped hs.2), hs.1, hs.2, h1, h2, h3, k _ (.int _)⟩
    · cases hd
theorem pe_dct1O {k v : Ex} {y z : Expr} {p : Pos} (hk : PE X y (tV X.K C k)) (hv : PE X z (tV X.K C v)) : PE X (.Dict [some y] [z] p) (tO X.K C (.dct1 k v)) := by
  refine PE.imp (pe_disp (pps_cons hk hv pps_nil) rfl rfl (by simp) (by show 1 ≤ 15; decide)) fun σ H Q hq => ?_
  obtain ⟨s, F, d, s', r, e, kk⟩ := hq
  obtain ⟨kd, s1, e1, f1⟩ := bnd_some e
  obtain ⟨vd, s2, e2, f2⟩ := bnd_some f1
  intro a ha
  have hfa := none_sub r.sub ha
  have r0 : Rs X.K F (upd H a (.dK [])) σ s := r.ext (ext_new ha) (same_new r.sub ha)
  have nAd : ∀ t : S, (∀ b, Ad σ t b → Ad σ s b) → ¬ Ad σ t a := fun t ht z => (Ad.tracked r (ht a z)).1 ha
  refine ⟨s, F, kd, s1, r0, e1, fun kv F1 H1 r1 x1 sub1 w1 => ?_⟩
  refine ⟨s1, F1, vd, s2, r1, e2, fun vv F2 H2 r2 x2 sub2 w2 => ?_⟩
  have ha1 : H1 a = some (.dK []) := x1.k a _ (nAd s fun _ z => z) upd_same
  have ha2 : H2 a = some (.dK []) := x2.k a _ (nAd s1 sub1) ha1
  have hf1 : F1 a = none := x1.z a (nAd s fun _ z => z) hfa (by rw [upd_same]; intro z; cases z)
  have hf2 : F2 a = none := x2.z a (nAd s1 sub1) hf1 (by rw [ha1]; intro z; cases z)
  cases hkey : keyOf kd with
  | none => rw [hkey] at f2; cases f2
  | some k0 =>
    rw [hkey] at f2
    cases f2
    have ek : kv = kV k0 := key_tr (H := H1) (.inl w1) hkey
    refine ⟨ha2, [(k0, vv)], by rw [ek]; rfl, by show 1 ≤ 15; decide, ?_⟩
    have em : mergeK [] [(k0, vv)] = [(k0, vv)] := rfl
    rw [em]
    have sub12 : ∀ b, Ad σ s' b → Ad σ s b := fun b z => sub1 b (sub2 b z)
    have xu : Ext (fun b => b = a) F2 H2 F2 (upd H2 a (.dK [(k0, vv)])) := ⟨Same.refl, fun b o n e => by rw [upd_ne n]; exact e, fun _ _ e _ => e, fun b e => upd_some e⟩
    have x12 : Ext (Ad σ s) F (upd H a (.dK [])) F2 H2 := x1.trans x2 fun b z => .inl (sub1 b z)
    have x012 : Ext (Ad σ s) F H F2 H2 := (ext_new (F := F) (o := .dK []) ha).none_.trans x12 fun b z => .inl z
    have x3 : Ext (Ad σ s) F H F2 (upd H2 a (.dK [(k0, vv)])) := x012.trans xu fun b z => .inr (by rw [z]; exact ha)
    have r3 : Rs X.K F2 (upd H2 a (.dK [(k0, vv)])) σ s' := by
      refine ⟨fun b u e => ?_, r2.len, fun i b eb => ?_, r2.dis⟩
      · rw [upd_ne (ne_of_none e hf2)]; exact r2.sub b u e
      · obtain ⟨v', ev, rb⟩ := r2.at_ i b eb
        refine ⟨v', ev, ?_⟩
        cases b with
        | val d => exact rb
        | own d =>
          obtain ⟨a', rfl, hn, ob⟩ := rb
          have : a' ≠ a := fun z => nAd s' sub12 (by rw [← z]; exact ⟨i, _, eb, rfl, ev⟩)
          exact ⟨a', rfl, hn, ob.mono Same.refl (by rw [upd_ne this])⟩
        | lent d =>
          obtain ⟨a', rfl, hn, ob⟩ := rb
          have : a' ≠ a := fun z => nAd s' sub12 (by rw [← z]; exact ⟨i, _, eb, rfl, ev⟩)
          exact ⟨a', rfl, hn, ob.mono Same.refl (by rw [upd_ne this])⟩
    refine kk _ F2 _ r3 x3 sub12 ?_
    have eok : kd = ofKey k0 := by
      cases kd <;> first | (cases hkey; rfl) | cases hkey
    show Raw X.K F2 _ H (.ref a) (.dict [(kd, vd)])
    refine ⟨a, rfl, ha, hf2, [(k0, vv)], upd_same, ?_⟩
    rw [eok]
    exact .cons w2 .nil
theorem isD_of {K : PySem.W.Frag} {F H : Hp} {v : V} {d : D} (sub : Same F H) (t : TR K F H v d) (h : isTy .dict d = true) : ∃ a, v = .ref a ∧ IsD H a := by
  cases d <;> first | (cases h; done) | skip
  obtain ⟨a, vs, rfl, h1, _⟩ := t.dict sub
  exact ⟨a, rfl, .inl ⟨vs, h1⟩⟩
theorem pe_get1_ (g : Gd X Γ q) {o es : Ex} {y : Expr} {ap cp : Pos} {xs : List Expr} (ho : PE X y (tA X.K C o)) (hy : notCall0 y = true) (hl : (ap.endLine == cp.line) = true) (hp : PAx X C xs es) (hx : xs.length = 1) :
    PE X (.Call (.Attribute y "get" ap) xs [] cp) (tV X.K C (.mt .get1 o es)) := by
  obtain ⟨z, rfl⟩ := List.length_eq_one_iff.mp hx
  obtain ⟨ez, rfl, nz, pz⟩ := pax1 hp
  have hu := g.u65
  refine PE.imp (pe_dget1 (by omega) ho pz ⟨base_plain hy, few1 nz, hl, by rw [star_ns nz]; rfl⟩) fun σ H Q hq => ?_
  obtain ⟨s, F, d, s', rr, e, kk⟩ := hq
  obtain ⟨a, s0, l, dx, ds, d0, e1, e0, ht, e2, e3, e4, e5⟩ := mtM_some e
  refine ⟨s, F, a, s0, rr, e1, fun v F1 H1 r1 x1 sub1 w1 => ?_⟩
  obtain ⟨ad, rfl, hD⟩ := isD_of r1.sub (w1.tr r1 e0) ht
  refine ⟨ad, rfl, hD, ?_⟩
  refine as_read (k := fun vs H2 => match vs with | [y] => ∃ o, DGet H2 ad y o ∧ Q (o.getD .non) H2 | _ => False) (.cons ez .nil) r1 e2 fun vs F2 H2 r2 x2 sub2 arrs => ?_
  have hA1 : ∀ b, Ad σ s0 b → H b ≠ none := fun b z => (Ad.tracked rr (sub1 b z)).1
  have w1' := w1.keep (H1 := H1) x2 hA1
  have tr2 := arrs.trs r2 e4
  match ds, e5, tr2 with
  | [dk], e5, tr2 =>
    obtain ⟨w, rfl, tw⟩ := one_of tr2
    change opGet dx dk .none = some d at e5
    obtain ⟨kvs, rfl⟩ : ∃ kvs, dx = .dict kvs := by
      cases dx <;> first | (cases e5; done) | exact ⟨_, rfl⟩
    obtain ⟨a2, vs2, ea2, h2, rp2⟩ := (w1'.tr r2 e3).dict r2.sub
    cases ea2
    simp only [opGet] at e5
    cases hkey : keyOf dk with
    | none => rw [hkey] at e5; cases e5
    | some k0 =>
      rw [hkey] at e5
      simp only [isObj, Bool.false_eq_true, if_false] at e5
      cases e5
      have lk := rpk_look hkey rp2
      refine ⟨valV vs2 k0, .inl ⟨vs2, k0, h2, key_tr tw hkey, rfl⟩, ?_⟩
      refine kk _ F2 H2 r2 (x1.trans x2 fun b z => .inl (sub1 b z)) (fun b z => sub1 b (sub2 b z)) ?_
      cases hlk : lookD dk kvs with
      | none => rw [lk.2 hlk]; exact .non
      | some d' =>
        obtain ⟨v', ev, rv⟩ := lk.1 d' hlk
        rw [ev]; exact rv
theorem pe_get2_ (g : Gd X Γ q) {o es : Ex} {y : Expr} {ap cp : Pos} {xs : List Expr} (ho : PE X y (tA X.K C o)) (hy : notCall0 y = true) (hl : (ap.endLine == cp.line) = true) (hp : PAx X C xs es) (hx : xs.length = 2) :
    PE X (.Call (.Attribute y "get" ap) xs [] cp) (tV X.K C (.mt .get2 o es)) := by
  obtain ⟨z, z2, rfl⟩ : ∃ a b, xs = [a, b] := by
    match xs, hx with
    | [a, b], _ => exact ⟨a, b, rfl⟩
  obtain ⟨ez, ez2, rfl, nz, pz, nz2, pz2⟩ := pax2 hp
  have hu := g.u65
  refine PE.imp (pe_dget2 (by omega) ho pz pz2 ⟨base_plain hy, by rw [star_ns nz, star_ns nz2]; rfl, hl, by rw [star_ns nz, star_ns nz2]; rfl⟩) fun σ H Q hq => ?_
  obtain ⟨s, F, d, s', rr, e, kk⟩ := hq
  obtain ⟨a, s0, l, dx, ds, d0, e1, e0, ht, e2, e3, e4, e5⟩ := mtM_some e
  refine ⟨s, F, a, s0, rr, e1, fun v F1 H1 r1 x1 sub1 w1 => ?_⟩
  obtain ⟨ad, rfl, hD⟩ := isD_of r1.sub (w1.tr r1 e0) ht
  refine ⟨ad, rfl, hD, ?_⟩
  refine as_read (k := fun vs H2 => match vs with | [y, z] => ∃ o, DGet H2 ad y o ∧ Q (o.getD z) H2 | _ => False) (.cons ez (.cons ez2 .nil)) r1 e2 fun vs F2 H2 r2 x2 sub2 arrs => ?_
  have hA1 : ∀ b, Ad σ s0 b → H b ≠ none := fun b z => (Ad.tracked rr (sub1 b z)).1
  have w1' := w1.keep (H1 := H1) x2 hA1
  have tr2 := arrs.trs r2 e4
  match ds, e5, tr2 with
  | [dk, dz], e5, tr2 =>
    obtain ⟨w, w', rfl, tw, tw'⟩ := two_of tr2
    change opGet dx dk dz = some d at e5
    obtain ⟨kvs, rfl⟩ : ∃ kvs, dx = .dict kvs := by
      cases dx <;> first | (cases e5; done) | exact ⟨_, rfl⟩
    obtain ⟨a2, vs2, ea2, h2, rp2⟩ := (w1'.tr r2 e3).dict r2.sub
    cases ea2
    simp only [opGet] at e5
    cases hkey : keyOf dk with
    | none => rw [hkey] at e5; cases e5
    | some k0 =>
      rw [hkey] at e5
      cases ho : isObj dz with
      | true => simp only [ho, if_true] at e5; cases e5
      | false =>
        simp only [ho, Bool.false_eq_true, if_false] at e5
        cases e5
        have lk := rpk_look hkey rp2
        have hno : newObj dz = false := by cases dz <;> first | rfl | cases ho
        refine ⟨valV vs2 k0, .inl ⟨vs2, k0, h2, key_tr tw hkey, rfl⟩, ?_⟩
        refine kk _ F2 H2 r2 (x1.trans x2 fun b z => .inl (sub1 b z)) (fun b z => sub1 b (sub2 b z)) ?_
        cases hlk : lookD dk kvs with
        | none => rw [lk.2 hlk]; exact tw'.rp hno
        | some d' =>
          obtain ⟨v', ev, rv⟩ := lk.1 d' hlk
          rw [ev]; exact rv
end
end FC

/-! Part 10: lists changed in place. -/
namespace FC
open PySem PySem.Spec PyProof.Rows L2
section
variable {K : PySem.W.Frag} {F H : Hp} {σ : L2.St} {s s' : S}
theorem B.put_mine {b : B} {d : D} : (b.put d).mine = b.mine := by cases b <;> rfl
theorem B.put_d {b : B} {d : D} : (b.put d).d = d := by cases b <;> rfl
theorem mutS_some {i : Nat} {d : D} (h : mutS i d s = some s') : ∃ b, s[i]? = some (some b) ∧ b.mine = true ∧ s' = s.set i (some (b.put d)) := by
  unfold mutS at h
  split at h
  · rename_i e; cases h; exact ⟨_, e, rfl, rfl⟩
  · rename_i e; cases h; exact ⟨_, e, rfl, rfl⟩
  · cases h
theorem ln_some {i : Nat} {d : D} (h : resA s (.ln i) = some d) : ∃ b, s[i]? = some (some b) ∧ b.mine = true ∧ b.d = d := by
  simp only [resA] at h
  split at h
  · rename_i e; cases h; exact ⟨_, e, rfl, rfl⟩
  · rename_i e; cases h; exact ⟨_, e, rfl, rfl⟩
  · cases h
/-- the content of an open slot is another one -/
theorem Rs.mutate {i : Nat} {b : B} {a : Addr} {o' : HO} {x' : D} (r : Rs K F H σ s) (eb : s[i]? = some (some b)) (m : b.mine = true) (ev : σ[i]? = some (some (.ref a))) (ob : Ob K F (upd H a o') a x') :
    Rs K F (upd H a o') σ (s.set i (some (b.put x'))) ∧ Ext (Ad σ s) F H F (upd H a o') ∧ ∀ c, Ad σ (s.set i (some (b.put x'))) c → Ad σ s c := by
  have hi : i < s.length := (List.getElem?_eq_some_iff.mp eb).1
  have hA : Ad σ s a := ⟨i, b, eb, m, ev⟩
  obtain ⟨h1, hf⟩ := Ad.tracked r hA
  have back : ∀ {j : Nat} {c : B}, (s.set i (some (b.put x')))[j]? = some (some c) → c.mine = true → ∃ c', s[j]? = some (some c') ∧ c'.mine = true := fun {j c} ej mj => by
    by_cases hj : j = i
    · subst hj; exact ⟨b, eb, m⟩
    · rw [List.getElem?_set_ne (Ne.symm hj)] at ej
      exact ⟨c, ej, mj⟩
  refine ⟨⟨fun c u e => ?_, by rw [List.length_set]; exact r.len, fun j c ej => ?_, fun j k c d a' e1 e2 m1 m2 e3 e4 => ?_⟩, ⟨Same.refl, fun c u n e => ?_, fun _ _ e _ => e, fun c e => upd_some e⟩, fun c ⟨j, d, ej, mj, evj⟩ => ?_⟩
  · rw [upd_ne (ne_of_none e hf)]
    exact r.sub c u e
  · by_cases hj : j = i
    · subst hj
      rw [List.getElem?_set_self hi] at ej
      cases ej
      refine ⟨.ref a, ev, ?_⟩
      cases b with
      | val d => cases m
      | own d => exact ⟨a, rfl, hf, ob⟩
      | lent d => exact ⟨a, rfl, hf, ob⟩
    · rw [List.getElem?_set_ne (Ne.symm hj)] at ej
      obtain ⟨w, ew, h2⟩ := r.at_ j c ej
      refine ⟨w, ew, ?_⟩
      have nea : ∀ c', w = .ref c' → c.mine = true → c' ≠ a := fun c' ec mc z => hj (r.dis j i c b a ej eb mc m (by rw [ew, ec, z]) ev)
      cases c with
      | val d => exact h2
      | own d =>
        obtain ⟨c', rfl, hn, ob2⟩ := h2
        exact ⟨c', rfl, hn, ob2.mono Same.refl (upd_ne (nea c' rfl rfl))⟩
      | lent d =>
        obtain ⟨c', rfl, hn, ob2⟩ := h2
        exact ⟨c', rfl, hn, ob2.mono Same.refl (upd_ne (nea c' rfl rfl))⟩
  · obtain ⟨c', f1, n1⟩ := back e1 m1
    obtain ⟨d', f2, n2⟩ := back e2 m2
    exact r.dis j k c' d' a' f1 f2 n1 n2 e3 e4
  · rw [upd_ne (fun z => n (by rw [z]; exact hA))]
    exact e
  · obtain ⟨d', f, n⟩ := back ej mj
    exact ⟨j, d', f, n, evj⟩
end
section
variable {X : Cx} {Γ : Gam} {q : Scp} {C : Calls}
def rExtendR : V → List V → Hp → VK → Prop := fun x vs H Q => ∃ l b xs zs, x = .ref l ∧ vs = [.ref b] ∧ H l = some (.lst xs) ∧ Rd H b (.lst zs) ∧ xs.length + zs.length ≤ sizeLine ∧ Q .non (upd H l (.lst (xs ++ zs)))
theorem mt_extendR : MtM X "list.extend" rExtendR := by
  intro pins s σ H x vs v us Q I rx rv h
  obtain ⟨l, b, xs, zs, rfl, rfl, hH, hB, hz, q⟩ := h
  cases rx
  obtain ⟨u, rfl, ru⟩ := rv.one
  cases ru
  obtain ⟨z, its, n, r, hl, e⟩ := I.lstM hH
  obtain ⟨z2, its2, n2, r2, hl2, e2⟩ := Inv.lstR I hB
  have hsz : its.toArray.size + its2.toArray.size ≤ sizeLine := by rw [List.size_toArray, List.size_toArray]; omega
  have hlong : ¬ (!its.toArray.isEmpty && Builtin.List.listTooLong (its.toArray.size + its2.toArray.size)) = true := by
    rw [notLongL hsz, Bool.and_false]
    exact Bool.false_ne_true
  refine call_meets F.slot_list_extend ⟨_, e, rfl⟩ F.entry_list_extend (F.args_list_extend_2 _ _)
    (AutoSeq1.list_extend_list_list_0 l its.toArray n b its2.toArray n2 hlong (by rw [List.size_toArray]; omega) (by omega)) ⟨e, e2, ?_⟩
  refine ⟨.non, _, I.lset (its' := its ++ its2) hH e (by simp) (r.append r2) ?_, rfl, q⟩
  rw [List.length_append]
  omega
theorem muM_some {m : Mu} {i : Nat} {as : M (List Ar)} {s s' : S} {r : D} (h : muM m i as s = some (r, s')) : ∃ d0 l s1 ds x x', resA s (.ln i) = some d0 ∧ isTy .list d0 = true ∧ as s = some (l, s1) ∧ valsA l = some ds ∧ resA s1 (.ln i) = some x ∧ muD m x ds = some (r, x') ∧ mutS i x' s1 = some s' := by
  unfold muM at h
  split at h
  · rename_i ht
    unfold isListA at ht
    split at ht
    · rename_i d0 e0
      split at h
      · cases h
      · rename_i l s1 e2
        split at h
        · rename_i ds x e3 e4
          split at h
          · cases h
          · rename_i rr x' e5
            split at h
            · cases h
            · rename_i s2 e6
              cases h
              exact ⟨d0, l, s1, ds, x, x', e0, ht, e2, e3, e4, e5, e6⟩
        · cases h
    · cases ht
  · cases h
theorem muD_list {m : Mu} {x r x' : D} {ds : List D} (h : muD m x ds = some (r, x')) : ∃ xs xs', x = .list xs ∧ x' = .list xs' := by
  unfold muD at h
  split at h
  · split at h <;> cases h; exact ⟨_, _, rfl, rfl⟩
  · split at h <;> cases h; exact ⟨_, _, rfl, rfl⟩
  · split at h <;> cases h; exact ⟨_, _, rfl, rfl⟩
  · split at h
    · split at h
      · split at h <;> cases h; exact ⟨_, _, rfl, rfl⟩
      · cases h
    · cases h
  · cases h
theorem slot_read {K : PySem.W.Frag} {F H : Hp} {σ : L2.St} {s : S} {i : Nat} {xs : List D} (r : Rs K F H σ s) (e : resA s (.ln i) = some (.list xs)) : ∃ b a vs, s[i]? = some (some b) ∧ b.mine = true ∧ σ[i]? = some (some (.ref a)) ∧ F a = none ∧ H a = some (.lst vs) ∧ Rps K F vs xs := by
  obtain ⟨b, eb, m, ed⟩ := ln_some e
  obtain ⟨v, ev, rb⟩ := r.at_ i b eb
  obtain ⟨a, rfl, hf, ob⟩ := rb.mineAt m
  rw [ed] at ob
  obtain ⟨vs, e1, r1⟩ := ob
  exact ⟨b, a, vs, eb, m, ev, hf, e1, r1⟩
theorem pe_mu_ (g : Gd X Γ q) {m : Mu} {i : Nat} {es : Ex} {y : Expr} {n : Str} {ap cp : Pos} {xs : List Expr} (hn : n = muName m) (hy : vis Γ q i y = true) (hl : (ap.endLine == cp.line) = true) (hp : PAx X C xs es) (hx : xs.length = muN m) :
    PE X (.Call (.Attribute y n ap) xs [] cp) (tV X.K C (.mu m i es)) := by
  subst hn
  obtain ⟨⟨yn, yp, rfl⟩, hv⟩ := vis_of g hy
  -- the receiver, the arguments, then the change
  have read : ∀ (r : V → List V → Hp → VK → Prop),
      (∀ (F H : Hp) (a : Addr) (vs ws : List V) (ds xs xs' : List D) (rr : D) (Q : VK), Same F H → F a = none → H a = some (.lst vs) → Rps X.K F vs xs → Rps X.K F ws ds → muD m (.list xs) ds = some (rr, .list xs') →
        (∀ (u : V) (vs' : List V), Rp X.K F u rr → Rps X.K F vs' xs' → Q u (upd H a (.lst vs'))) → r (.ref a) ws H Q) →
      ∀ σ H Q, tV X.K C (.mu m i es) σ H Q → ∃ v, σ[i]? = some (some v) ∧ (tyV X.K "list" v H ∧ tAs X.K C es σ H fun vs H2 => r v vs H2 Q) := by
    intro r hr σ H Q hq
    obtain ⟨s, F, d, s', rs, e, kk⟩ := hq
    obtain ⟨d0, l, s1, ds, x, x', e0, ht, e2, e3, e4, e5, e6⟩ := muM_some e
    obtain ⟨b0, eb0, m0, ed0⟩ := ln_some e0
    obtain ⟨v, ev, rb0⟩ := rs.at_ i b0 eb0
    refine ⟨v, ev, isList_ty rs.sub (by rw [← ed0]; exact rb0.tr) ht, as_read es rs e2 fun ws F2 H2 r2 x2 sub2 arrs => ?_⟩
    obtain ⟨zs, zs', rfl, rfl⟩ := muD_list e5
    obtain ⟨b, a, vs, eb, mb, ev2, hf, ha, rp⟩ := slot_read r2 e4
    rw [ev] at ev2
    cases ev2
    obtain ⟨b', eb', mb', rfl⟩ := mutS_some e6
    rw [eb] at eb'
    cases eb'
    refine hr F2 H2 a vs ws ds zs zs' d Q r2.sub hf ha rp (vals_rps arrs e3) e5 fun u vs' ru rv => ?_
    obtain ⟨rs', xt, subA⟩ := r2.mutate eb mb ev (o' := .lst vs') (x' := .list zs') ⟨vs', upd_same, rv⟩
    exact kk u F2 _ rs' (x2.trans xt fun b z => .inl (sub2 b z)) (fun c z => sub2 c (subA c z)) ru
  have one : ∀ {id : String} {r : V → List V → Hp → VK → Prop} (z : Expr), xs = [z] → Slot "list" (muName m) id → typeOf (.builtin id) = pure (.type "method_descriptor") → MtR X id r →
      PE X (.Call (.Attribute (.Name yn yp) (muName m) ap) xs [] cp) (tBM X.K "list" r (tVar i) (tAs X.K C es)) := fun z hz sl ty mr => by
    subst hz
    obtain ⟨ez, rfl, nz, pz⟩ := pax1 hp
    exact pe_bm PySem.F.plainAttrs_list sl ty mr hv (PAx.cons nz pz .nil).pa rfl (few1 nz) hl (star_ns nz) rfl
  cases m with
  | append =>
    obtain ⟨z, hz⟩ := List.length_eq_one_iff.mp hx
    refine PE.imp (one z hz PySem.F.slot_list_append PySem.F.type_list_append mt_append) (read _ fun F H a vs ws ds xs xs' rr Q sub hf ha rp rw' hm k => ?_)
    match ds, rw', hm with
    | [y], .cons hy .nil, hm =>
      simp only [muD] at hm
      split at hm
      · rename_i hz
        cases hm
        exact ⟨a, vs, _, rfl, rfl, ha, by rw [rp.length]; exact hz, k .non _ .non (rp.append (.cons hy .nil))⟩
      · cases hm
  | extend =>
    obtain ⟨z, hz⟩ := List.length_eq_one_iff.mp hx
    refine PE.imp (one z hz PySem.F.slot_list_extend PySem.F.type_list_extend mt_extendR) (read _ fun F H a vs ws ds xs xs' rr Q sub hf ha rp rw' hm k => ?_)
    match ds, rw', hm with
    | [.list ys], .cons hy .nil, hm =>
      simp only [muD] at hm
      split at hm
      · rename_i hz
        cases hm
        cases hy with
        | lst h1 r1 => exact ⟨a, _, vs, _, rfl, rfl, ha, Rd.same sub h1, by rw [rp.length, r1.length]; exact hz, k .non _ .non (rp.append r1)⟩
      · cases hm
  | pop0 =>
    have hx0 : xs = [] := List.length_eq_zero_iff.mp hx
    subst hx0
    cases hp
    refine PE.imp (pe_bm0 PySem.F.plainAttrs_list PySem.F.slot_list_pop PySem.F.type_list_pop mt_pop hv rfl hl) (read rPop fun F H a vs ws ds xs xs' rr Q sub hf ha rp rw' hm k => ?_)
    match ds, rw', hm with
    | [], .nil, hm =>
      simp only [muD] at hm
      split at hm
      · rename_i y hy
        cases hm
        obtain ⟨w, h1, h2⟩ := rp.get hy
        rw [← rp.length] at h1
        exact ⟨a, vs, w, rfl, rfl, ha, h1, k w _ h2 rp.dropLast⟩
      · cases hm
  | pop1 =>
    obtain ⟨z, hz⟩ := List.length_eq_one_iff.mp hx
    refine PE.imp (one z hz PySem.F.slot_list_pop PySem.F.type_list_pop mt_popAt) (read _ fun F H a vs ws ds xs xs' rr Q sub hf ha rp rw' hm k => ?_)
    match ds, rw', hm with
    | [.int j], .cons hy .nil, hm =>
      cases hy
      simp only [muD] at hm
      split at hm
      · rename_i kk hk
        split at hm
        · rename_i y hy
          split at hm
          · rename_i hsz
            cases hm
            obtain ⟨h1, h2, h3, h4⟩ := L2.ixN_seq hk
            obtain ⟨w, h5, h6⟩ := rp.get hy
            have hl2 : xs.length < 2 ^ 62 := Nat.lt_of_le_of_lt hsz (by decide)
            exact ⟨a, vs, j, kk, w, rfl, rfl, ha, by omega, by omega, by rw [rp.length]; exact h1, h5, k w _ h6 (rp.erase kk)⟩
          · cases hm
        · cases hm
      · cases hm
end
end FC

/-! Part 11: what is walked; comprehensions. -/
namespace FC
open PySem PySem.Spec PyProof.Rows L2

/-- an iterator hands out these -/
def ItOk (K : PySem.W.Frag) (F : Hp) (J : It) (ds : List D) : Prop := ∀ (F2 H2 : Hp), Same F F2 → Same F2 H2 →
  (∀ (i : Nat) (d : D), ds[i]? = some d → J.go i H2 ∧ ∀ (x : V) (H3 : Hp), J.yld i H2 x H3 → ∃ F3, Ext (fun _ => False) F2 H2 F3 H3 ∧ Same F3 H3 ∧ Rp K F3 x d) ∧ ∀ i, ds.length ≤ i → J.stop i H2
def tI (K : PySem.W.Frag) (m : M (List D)) : TI := fun σ H R =>
  ∃ (s : S) (F : Hp) (ds : List D) (s' : S), Rs K F H σ s ∧ m s = some (ds, s') ∧
    ∀ (J : It) (F' H' : Hp), Rs K F' H' σ s' → Ext (Ad σ s) F H F' H' → (∀ a, Ad σ s' a → Ad σ s a) → ItOk K F' J ds → R J H'
theorem PI.imp {X : Cx} {tg x : Expr} {t t' : TI} (h : PI X tg x t) (i : ∀ σ H R, t' σ H R → t σ H R) : PI X tg x t' := ⟨fun pins s σ H R I q => h.run pins s σ H R I (i σ H R q)⟩
section
variable {X : Cx} {Γ : Gam} {q : Scp} {C : Calls} {x tg : Expr} {K : PySem.W.Frag} {F : Hp}
theorem itl_ok {a : Addr} {vs : List V} {ds : List D} (h : Rd F a (.lst vs)) (r : Rps K F vs ds) : ItOk K F (Itl K a) ds := by
  intro F2 H2 s1 s2
  have hq : SqL K H2 a vs := .inl (Rd.same s2 (Rd.same s1 h))
  refine ⟨fun i d e => ?_, fun i e => ⟨vs, hq, by rw [r.length]; exact e⟩⟩
  obtain ⟨v, h1, h2⟩ := r.get e
  refine ⟨⟨vs, v, hq, h1⟩, fun x H3 y => ?_⟩
  obtain ⟨rfl, y⟩ := y
  have := y vs hq
  rw [h1] at this
  cases this
  exact ⟨F2, Ext.refl, s2, Rp.same s1 h2⟩
theorem itt_ok {a : Addr} {vs : List V} {ds : List D} (h : SqT K F a vs) (r : Rps K F vs ds) : ItOk K F (Itt K a) ds := by
  intro F2 H2 s1 s2
  have hq : SqT K H2 a vs := SqT.same s2 (SqT.same s1 h)
  refine ⟨fun i d e => ?_, fun i e => ⟨vs, hq, by rw [r.length]; exact e⟩⟩
  obtain ⟨v, h1, h2⟩ := r.get e
  refine ⟨⟨vs, v, hq, h1⟩, fun x H3 y => ?_⟩
  obtain ⟨rfl, y⟩ := y
  have := y vs hq
  rw [h1] at this
  cases this
  exact ⟨F2, Ext.refl, s2, Rp.same s1 h2⟩
theorem its_ok (z : Str) : ItOk K F (Its z) (z.cps.toList.map fun c => .str ⟨#[c]⟩) := by
  intro F2 H2 s1 s2
  refine ⟨fun i d e => ?_, fun i e => ?_⟩
  · rw [List.getElem?_map, Option.map_eq_some_iff] at e
    obtain ⟨c, hc, rfl⟩ := e
    have hi : i < z.cps.size := by
      have := (List.getElem?_eq_some_iff.mp hc).1
      simpa using this
    refine ⟨hi, fun x H3 y => ?_⟩
    obtain ⟨rfl, c', hc', rfl⟩ := y
    have : some c = some c' := by rw [← hc, ← hc', Array.getElem?_toList]
    cases this
    exact ⟨F2, Ext.refl, s2, .str _⟩
  · rw [List.length_map] at e
    show z.cps.size ≤ i
    simpa using e
theorem itr_ok {lo : Int} {n : Nat} {ds : List D} (h : ds = (List.range n).map fun i => PyData.int (lo + (i : Nat))) : ItOk K F (Itr lo n) ds := by
  subst h
  intro F2 H2 s1 s2
  refine ⟨fun i d e => ?_, fun i e => (by simpa using e : n ≤ i)⟩
  rw [List.getElem?_map, Option.map_eq_some_iff] at e
  obtain ⟨j, hj, rfl⟩ := e
  obtain ⟨h1, h2⟩ := List.getElem?_eq_some_iff.mp hj
  rw [List.getElem_range] at h2
  subst h2
  refine ⟨(by simpa using h1 : i < n), fun x H3 y => ?_⟩
  obtain ⟨rfl, rfl⟩ := y
  exact ⟨F2, Ext.refl, s2, .int _⟩
theorem enumD_get : ∀ {xs : List D} {n i : Nat} {d : D}, (enumD n xs)[i]? = some d → ∃ y, xs[i]? = some y ∧ d = .tuple [.int ((n + i : Nat) : Int), y]
  | [], n, i, d, h => by simp [enumD] at h
  | x :: r, n, 0, d, h => by simp [enumD] at h; exact ⟨x, rfl, h.symm⟩
  | x :: r, n, i + 1, d, h => by
    simp only [enumD, List.getElem?_cons_succ] at h
    obtain ⟨y, h1, h2⟩ := enumD_get h
    exact ⟨y, by simpa using h1, by rw [h2]; congr 4; omega⟩
theorem enumD_len : ∀ (xs : List D) (n : Nat), (enumD n xs).length = xs.length
  | [], _ => rfl
  | _ :: r, n => by simp only [enumD, List.length_cons, enumD_len r]
theorem zipD_get : ∀ {xs ys : List D} {i : Nat} {d : D}, (zipD xs ys)[i]? = some d → ∃ x y, xs[i]? = some x ∧ ys[i]? = some y ∧ d = .tuple [x, y]
  | [], _, i, d, h => by simp [zipD] at h
  | _ :: _, [], i, d, h => by simp [zipD] at h
  | x :: r, y :: t, 0, d, h => by simp [zipD] at h; exact ⟨x, y, rfl, rfl, h.symm⟩
  | x :: r, y :: t, i + 1, d, h => by
    simp only [zipD, List.getElem?_cons_succ] at h
    obtain ⟨a, b, h1, h2, h3⟩ := zipD_get h
    exact ⟨a, b, by simpa using h1, by simpa using h2, h3⟩
theorem zipD_len : ∀ (xs ys : List D), (zipD xs ys).length = min xs.length ys.length
  | [], _ => by simp [zipD]
  | _ :: _, [] => by simp [zipD]
  | x :: r, y :: t => by simp only [zipD, List.length_cons, zipD_len r t]; omega
theorem pair_new {F2 H2 : Hp} {T : Addr} {v w : V} {d e : D} (s2 : Same F2 H2) (hT : H2 T = none) (h1 : Rp K F2 v d) (h2 : Rp K F2 w e) :
    ∃ F3, Ext (fun _ => False) F2 H2 F3 (upd H2 T (.tup [v, w])) ∧ Same F3 (upd H2 T (.tup [v, w])) ∧ Rp K F3 (.ref T) (.tuple [d, e]) :=
  have x := ext_newF (o := .tup [v, w]) s2 hT
  ⟨upd F2 T (.tup [v, w]), x, same_newF s2, .tup (.inl (.inl upd_same)) (.cons (Rp.same x.f h1) (.cons (Rp.same x.f h2) .nil))⟩
theorem ite_ok {a : Addr} {vs : List V} {ds : List D} (h : Rd F a (.lst vs)) (r : Rps K F vs ds) : ItOk K F (Ite K a) (enumD 0 ds) := by
  intro F2 H2 s1 s2
  have hq : SqL K H2 a vs := .inl (Rd.same s2 (Rd.same s1 h))
  refine ⟨fun i d e => ?_, fun i e => ⟨vs, hq, by rw [r.length]; rw [enumD_len] at e; exact e⟩⟩
  obtain ⟨y, e1, rfl⟩ := enumD_get e
  obtain ⟨v, h1, h2⟩ := r.get e1
  refine ⟨⟨vs, v, hq, h1⟩, fun x H3 yl => ?_⟩
  obtain ⟨T, w, rfl, hT, rfl, yl⟩ := yl
  have := yl vs hq
  rw [h1] at this
  cases this
  rw [Nat.zero_add]
  exact pair_new s2 hT (.int _) (Rp.same s1 h2)
theorem itz_ok {a b : Addr} {vs ws : List V} {ds es : List D} (h : Rd F a (.lst vs)) (r : Rps K F vs ds) (h' : Rd F b (.lst ws)) (r' : Rps K F ws es) : ItOk K F (Itz K a b) (zipD ds es) := by
  intro F2 H2 s1 s2
  have hq : SqL K H2 a vs := .inl (Rd.same s2 (Rd.same s1 h))
  have hq' : SqL K H2 b ws := .inl (Rd.same s2 (Rd.same s1 h'))
  refine ⟨fun i d e => ?_, fun i e => ⟨vs, ws, hq, hq', ?_⟩⟩
  · obtain ⟨y, z, e1, e2, rfl⟩ := zipD_get e
    obtain ⟨v, h1, h2⟩ := r.get e1
    obtain ⟨w, k1, k2⟩ := r'.get e2
    refine ⟨⟨vs, ws, v, w, hq, hq', h1, k1⟩, fun x H3 yl => ?_⟩
    obtain ⟨T, v', w', rfl, hT, rfl, y1, y2⟩ := yl
    have := y1 vs hq
    rw [h1] at this
    cases this
    have := y2 ws hq'
    rw [k1] at this
    cases this
    exact pair_new s2 hT (Rp.same s1 h2) (Rp.same s1 k2)
  · rw [zipD_len] at e
    rw [r.length, r'.length]
    omega
theorem itzT_ok {a b : Addr} {vs ws : List V} {ds es : List D} (h : SqT K F a vs) (r : Rps K F vs ds) (h' : SqT K F b ws) (r' : Rps K F ws es) : ItOk K F (RZ.ItzT K a b) (zipD ds es) := by
  intro F2 H2 s1 s2
  have hq : SqT K H2 a vs := SqT.same s2 (SqT.same s1 h)
  have hq' : SqT K H2 b ws := SqT.same s2 (SqT.same s1 h')
  refine ⟨fun i d e => ?_, fun i e => ⟨vs, ws, hq, hq', ?_⟩⟩
  · obtain ⟨y, z, e1, e2, rfl⟩ := zipD_get e
    obtain ⟨v, h1, h2⟩ := r.get e1
    obtain ⟨w, k1, k2⟩ := r'.get e2
    refine ⟨⟨vs, ws, v, w, hq, hq', h1, k1⟩, fun x H3 yl => ?_⟩
    obtain ⟨T, v', w', rfl, hT, rfl, y1, y2⟩ := yl
    have := y1 vs hq
    rw [h1] at this
    cases this
    have := y2 ws hq'
    rw [k1] at this
    cases this
    exact pair_new s2 hT (Rp.same s1 h2) (Rp.same s1 k2)
  · rw [zipD_len] at e
    rw [r.length, r'.length]
    omega
/-- a list, a tuple or a text is walked -/
theorem pi_seq {l : Expr} {tl : TE} (hl : PE X l tl) : PI X tg l (fun σ H R => tl σ H fun x H1 => (∃ a, x = .ref a ∧ (∃ xs, SqL X.K H1 a xs) ∧ R (Itl X.K a) H1) ∨ (∃ a, x = .ref a ∧ (∃ xs, SqT X.K H1 a xs) ∧ R (Itt X.K a) H1) ∨ (∃ z, x = .str z ∧ R (Its z) H1) ∨ ∃ d o kvs, x = .ref d ∧ H1 d = some (.frz o (.dK kvs)) ∧ R (Itk d o kvs) H1) := by
  refine ⟨fun pins s σ H R I h => ?_⟩
  refine thn (hl.run pins s σ H _ I h) fun v s1 ⟨x, H1, I1, r1, q1⟩ => ?_
  rcases q1 with ⟨a, e, ⟨xs, hq⟩, q⟩ | ⟨a, e, ⟨xs, hq⟩, q⟩ | ⟨z, e, q⟩ | ⟨d, o, kvs, e, hd, q⟩
  · subst e
    cases r1
    obtain ⟨its, rv, p, hz⟩ := I1.list hq
    refine wpAny_pyIter_list p.isList ?_
    refine ⟨s1.heap.objs.size, [s1.heap.objs.size], _, _, H1, rfl, I1.kept (t' := s1.toks) fun b o e => Heap.get?_push_of_some _ e, turn_list a _, ⟨_, Heap.get?_push_size _ rfl, rfl, rfl⟩, fun b hb => ?_, q⟩
    have e : b = s1.heap.objs.size := by simpa using hb
    subst e
    exact I1.fpOk (Nat.le_refl _) (I1.hok.fresh (Nat.le_refl _))
  · subst e
    cases r1
    obtain ⟨its, rv, p, hz⟩ := I1.tuple hq
    refine wpAny_pyIter_tuple (show s1.heap.IsTuple a its.toArray from p) ?_
    refine ⟨s1.heap.objs.size, [s1.heap.objs.size], _, _, H1, rfl, I1.kept (t' := s1.toks) fun b o e => Heap.get?_push_of_some _ e, turn_tuple a _, ⟨_, Heap.get?_push_size _ rfl, rfl, rfl⟩, fun b hb => ?_, q⟩
    have e : b = s1.heap.objs.size := by simpa using hb
    subst e
    exact I1.fpOk (Nat.le_refl _) (I1.hok.fresh (Nat.le_refl _))
  · subst e
    obtain ⟨t, rfl⟩ := r1
    cases ha : z.cps.all (· < 128)
    · exact wpAny_pyIter_wide ha (pi_one (tk := s1.toks) I1 _ (turn_str _ z t "str_iterator" (.inr rfl)) ⟨_, Heap.get?_push_size _ rfl, rfl, rfl⟩ q)
    · exact wpAny_pyIter_ascii ha (pi_one (tk := s1.toks) I1 _ (turn_str _ z t "str_ascii_iterator" (.inl rfl)) ⟨_, Heap.get?_push_size _ rfl, rfl, rfl⟩ q)
  · subst e
    obtain rfl : v = Value.ref d := r1
    obtain ⟨hs, hgd, hx, es, ep, vs, hdt, hsz, kv, hm⟩ := I1.frzK hd
    refine iter_keys hs hgd hx hdt (pi_one (tk := s1.toks) I1 _ (turn_keys _ hdt) ⟨_, Heap.get?_push_size _ rfl, rfl, ?_⟩ q)
    rw [hsz] <;> rfl
theorem rpk_get {K : PySem.W.Frag} {F : Hp} : ∀ {kvs : List (Key × V)} {ds : List (D × D)} {i : Nat} {k : D} {d : D}, Rpk K F kvs ds → ds[i]? = some (k, d) → ∃ k0 v, kvs[i]? = some (k0, v) ∧ k = ofKey k0 ∧ Rp K F v d
  | _, _, _, _, _, .nil, e => by simp at e
  | _, _, 0, _, _, .cons h _, e => by simp at e; obtain ⟨rfl, rfl⟩ := e; exact ⟨_, _, rfl, rfl, h⟩
  | _, _, i + 1, k, d, .cons _ r, e => by
    obtain ⟨k0, v, h1, h2⟩ := rpk_get (i := i) (k := k) (d := d) r (by simpa using e)
    exact ⟨k0, v, by simpa using h1, h2⟩
theorem rp_key {K : PySem.W.Frag} {F : Hp} (k : Key) : Rp K F (kV k) (ofKey k) := by
  cases k with
  | inl i => exact .int i
  | inr x => exact .str x
theorem itk_ok {a : Addr} {o : Obj} {kvs : List (Key × V)} {ds : List (D × D)} (h : F a = some (.frz o (.dK kvs))) (r : Rpk K F kvs ds) : ItOk K F (Itk a o kvs) (ds.map (·.1)) := by
  intro F2 H2 s1 s2
  have hq := s2 _ _ (s1 _ _ h)
  refine ⟨fun i d e => ?_, fun i e => ⟨hq, by rw [r.length]; simpa using e⟩⟩
  rw [List.getElem?_map, Option.map_eq_some_iff] at e
  obtain ⟨⟨k, d'⟩, e, rfl⟩ := e
  obtain ⟨k0, v, h1, h2, h3⟩ := rpk_get r e
  refine ⟨⟨hq, (List.getElem?_eq_some_iff.mp h1).1⟩, fun x H3 y => ?_⟩
  obtain ⟨rfl, k1, v1, y1, rfl⟩ := y
  rw [h1] at y1
  cases y1
  change k = ofKey k0 at h2
  exact ⟨F2, Ext.refl, s2, by rw [h2]; exact rp_key k0⟩
theorem itd_ok {a : Addr} {o : Obj} {kvs : List (Key × V)} {ds : List (D × D)} (h : F a = some (.frz o (.dK kvs))) (r : Rpk K F kvs ds) : ItOk K F (Itd a o kvs) (ds.map (·.2)) := by
  intro F2 H2 s1 s2
  have hq := s2 _ _ (s1 _ _ h)
  refine ⟨fun i d e => ?_, fun i e => ⟨hq, by rw [r.length]; simpa using e⟩⟩
  rw [List.getElem?_map, Option.map_eq_some_iff] at e
  obtain ⟨⟨k, d'⟩, e, rfl⟩ := e
  obtain ⟨k0, v, h1, h2, h3⟩ := rpk_get r e
  refine ⟨⟨hq, (List.getElem?_eq_some_iff.mp h1).1⟩, fun x H3 y => ?_⟩
  obtain ⟨rfl, k1, y1⟩ := y
  rw [h1] at y1
  cases y1
  exact ⟨F2, Ext.refl, s2, Rp.same s1 h3⟩
theorem iti_ok {a : Addr} {o : Obj} {kvs : List (Key × V)} {ds : List (D × D)} (h : F a = some (.frz o (.dK kvs))) (r : Rpk K F kvs ds) : ItOk K F (Iti a o kvs) (ds.map fun kv => .tuple [kv.1, kv.2]) := by
  intro F2 H2 s1 s2
  have hq := s2 _ _ (s1 _ _ h)
  refine ⟨fun i d e => ?_, fun i e => ⟨hq, by rw [r.length]; simpa using e⟩⟩
  rw [List.getElem?_map, Option.map_eq_some_iff] at e
  obtain ⟨⟨k, d'⟩, e, rfl⟩ := e
  obtain ⟨k0, v, h1, h2, h3⟩ := rpk_get r e
  refine ⟨⟨hq, (List.getElem?_eq_some_iff.mp h1).1⟩, fun x H3 y => ?_⟩
  obtain ⟨T, k1, v1, y1, rfl, hT, rfl⟩ := y
  rw [h1] at y1
  cases y1
  change k = ofKey k0 at h2
  rw [h2]
  exact pair_new s2 hT (rp_key k0) (Rp.same s1 h3)
theorem dct_rp {v : V} {ds : List (D × D)} (h : Rp K F v (.dict ds)) : ∃ a o kvs, v = .ref a ∧ F a = some (.frz o (.dK kvs)) ∧ Rpk K F kvs ds := by
  cases h with
  | dct h r => exact ⟨_, _, _, rfl, h, r⟩
theorem pi_vals_ (g : Gd X Γ q) {e : Ex} {y : Expr} {ap cp : Pos} (h : PE X y (tV X.K C e)) (hy : notCall0 y = true) (hl : (ap.endLine == cp.line) = true) : PI X tg (.Call (.Attribute y "values" ap) [] [] cp) (tI X.K (sem C (.itVals e)).it) := by
  refine PI.imp (pi_values h (base_plain hy) hl) fun σ H R hq => ?_
  obtain ⟨s, F, ds, s', r, e0, k⟩ := hq
  obtain ⟨d, s1, e1, f1⟩ := bnd_some e0
  refine ⟨s, F, d, _, r, e1, fun v F' H' r' x' sub w => ?_⟩
  cases d <;> first | (cases f1; done) | skip
  cases f1
  obtain ⟨a, o, kvs, rfl, h1, r1⟩ := dct_rp w
  exact ⟨a, o, kvs, rfl, r'.sub _ _ h1, k _ F' H' r' x' sub (itd_ok h1 r1)⟩
theorem pi_items_ (g : Gd X Γ q) {e : Ex} {y : Expr} {ap cp tpos : Pos} {elts : List Expr} {kk : Nat} (h : PE X y (tV X.K C e)) (hy : notCall0 y = true) (hl : (ap.endLine == cp.line) = true) : PI X (.Tuple elts kk tpos) (.Call (.Attribute y "items" ap) [] [] cp) (tI X.K (sem C (.itItems e)).it) := by
  refine PI.imp (pi_items h (base_plain hy) hl) fun σ H R hq => ?_
  obtain ⟨s, F, ds, s', r, e0, k⟩ := hq
  obtain ⟨d, s1, e1, f1⟩ := bnd_some e0
  refine ⟨s, F, d, _, r, e1, fun v F' H' r' x' sub w => ?_⟩
  cases d <;> first | (cases f1; done) | skip
  cases f1
  obtain ⟨a, o, kvs, rfl, h1, r1⟩ := dct_rp w
  exact ⟨a, o, kvs, rfl, r'.sub _ _ h1, k _ F' H' r' x' sub (iti_ok h1 r1)⟩
theorem pi_of {e : Ex} (h : PE X x (tV X.K C e)) : PI X tg x (tI X.K (sem C (.itOf e)).it) := by
  refine PI.imp (pi_seq h) fun σ H R hq => ?_
  obtain ⟨s, F, ds, s', r, e0, k⟩ := hq
  have e0 : bnd (sem C e).v (fun d => lift (walkOf d)) s = some (ds, s') := e0
  obtain ⟨d, s1, e1, f1⟩ := bnd_some e0
  obtain ⟨e3, e4⟩ := lift_some f1
  change s' = s1 at e4
  change walkOf d = some ds at e3
  subst e4
  refine ⟨s, F, d, _, r, e1, fun v F' H' r' x' sub w => ?_⟩
  cases d <;> simp only [walkOf] at e3 <;> cases e3
  · cases w
    exact .inr (.inr (.inl ⟨_, rfl, k _ F' H' r' x' sub (its_ok _)⟩))
  · cases w with
    | lst h1 r1 => exact .inl ⟨_, rfl, ⟨_, .inl (Rd.same r'.sub h1)⟩, k _ F' H' r' x' sub (itl_ok h1 r1)⟩
  · cases w with
    | tup h1 r1 => exact .inr (.inl ⟨_, rfl, ⟨_, SqT.same r'.sub h1⟩, k _ F' H' r' x' sub (itt_ok h1 r1)⟩)
  · obtain ⟨a, o, kvs, rfl, h1, r1⟩ := dct_rp w
    exact .inr (.inr (.inr ⟨a, o, kvs, rfl, r'.sub _ _ h1, k _ F' H' r' x' sub (itk_ok h1 r1)⟩))
theorem small_of {n : Int} (h : smallI n = true) : -(2 ^ 62) ≤ n ∧ n < 2 ^ 62 := by
  simp only [smallI, Bool.and_eq_true, decide_eq_true_eq] at h
  omega
theorem pi_range_ (g : Gd X Γ q) {es : Ex} {xs : List Expr} {p pos : Pos} (hg : gl q "range" = true) (hp : PAx X C xs es) (hl : xs.length = 1 ∨ xs.length = 2) : PI X tg (.Call (.Name "range" p) xs [] pos) (tI X.K (sem C (.itRange es)).it) := by
  have hm : X.mg "range" = none := g.mgb _ (by decide +kernel)
  have key : ∀ {σ : L2.St} {H : Hp} {R : It → Hp → Prop}, tI X.K (sem C (.itRange es)).it σ H R → ∃ (s : S) (F : Hp) (l : List Ar) (s' : S) (ds : List D), Rs X.K F H σ s ∧ (sem C es).as s = some (l, s') ∧ valsA l = some ds ∧
      ((∃ n, ds = [.int n] ∧ smallI n = true ∧ ∀ F' H', Rs X.K F' H' σ s' → Ext (Ad σ s) F H F' H' → (∀ a, Ad σ s' a → Ad σ s a) → R (Itr 0 n.toNat) H') ∨
       (∃ a b, ds = [.int a, .int b] ∧ smallI a = true ∧ smallI b = true ∧ ∀ F' H', Rs X.K F' H' σ s' → Ext (Ad σ s) F H F' H' → (∀ a, Ad σ s' a → Ad σ s a) → R (Itr a (b - a).toNat) H')) := by
    intro σ H R hq
    obtain ⟨s, F, ds, s', r, e0, k⟩ := hq
    have e0 : bnd (sem C es).as (fun l => bnd (lift (valsA l)) fun ds => match ds with
      | [.int n] => if smallI n then gives (rgD n) else fails
      | [.int a, .int b] => if smallI a && smallI b then gives (rgD2 a b) else fails
      | _ => fails) s = some (ds, s') := e0
    obtain ⟨l, s1, e1, f1⟩ := bnd_some e0
    obtain ⟨dd, s2, e2, f2⟩ := bnd_some f1
    obtain ⟨e3, e4⟩ := lift_some e2
    change s2 = s1 at e4
    change valsA l = some dd at e3
    subst e4
    split at f2
    · split at f2
      · rename_i n hn
        cases f2
        exact ⟨s, F, l, _, _, r, e1, e3, .inl ⟨n, rfl, hn, fun F' H' r' x' sub => k _ F' H' r' x' sub (itr_ok (by unfold rgD; rfl))⟩⟩
      · cases f2
    · split at f2
      · rename_i a b hn
        cases f2
        rw [Bool.and_eq_true] at hn
        exact ⟨s, F, l, _, _, r, e1, e3, .inr ⟨a, b, rfl, hn.1, hn.2, fun F' H' r' x' sub => k _ F' H' r' x' sub (itr_ok (by unfold rgD2; rfl))⟩⟩
      · cases f2
    · cases f2
  rcases hl with hl | hl
  · obtain ⟨z, rfl⟩ := List.length_eq_one_iff.mp hl
    obtain ⟨ez, rfl, nz, pz⟩ := pax1 hp
    refine PI.imp (pi_range1 (g.glx hg) hm hp.pa (star_ns nz)) fun σ H R hq => ?_
    obtain ⟨s, F, l, s', ds, r, e1, e3, h⟩ := key hq
    refine as_read _ r e1 fun vs F' H' r' x' sub arrs => ?_
    have rp := vals_rps arrs e3
    rcases h with ⟨n, rfl, hn, k⟩ | ⟨a, b, rfl, _⟩
    · cases rp with
      | cons h1 h2 =>
        cases h1; cases h2
        exact ⟨n, rfl, (small_of hn).1, (small_of hn).2, k F' H' r' x' sub⟩
    · have := rp.length
      rw [arrs.len] at this
      have e2 : l.length = 1 := by
        have e1 : bnd (sem C ez).a (fun x => bnd (sem C .nil).as fun l => gives (x :: l)) s = some (l, s') := e1
        obtain ⟨ar, s1, _, f1⟩ := bnd_some e1
        obtain ⟨l1, s2, g1, f2⟩ := bnd_some f1
        cases g1; cases f2; rfl
      rw [e2] at this
      cases this
  · obtain ⟨y, z, rfl⟩ : ∃ y z, xs = [y, z] := by
      match xs, hl with
      | [y, z], _ => exact ⟨y, z, rfl⟩
    obtain ⟨ey, ez, rfl, ny, py, nz, pz⟩ := pax2 hp
    refine PI.imp (pi_range2 (g.glx hg) hm hp.pa (by rw [star_ns ny, star_ns nz]; rfl) (star_ns nz)) fun σ H R hq => ?_
    obtain ⟨s, F, l, s', ds, r, e1, e3, h⟩ := key hq
    refine as_read _ r e1 fun vs F' H' r' x' sub arrs => ?_
    have rp := vals_rps arrs e3
    rcases h with ⟨n, rfl, _⟩ | ⟨a, b, rfl, ha, hb, k⟩
    · have := rp.length
      rw [arrs.len] at this
      have e2 : l.length = 2 := by
        have e1 : bnd (sem C ey).a (fun x => bnd (sem C (.cons ez .nil)).as fun l => gives (x :: l)) s = some (l, s') := e1
        obtain ⟨ar, s1, _, f1⟩ := bnd_some e1
        obtain ⟨l1, s2, g1, f2⟩ := bnd_some f1
        have g1 : bnd (sem C ez).a (fun x => bnd (sem C .nil).as fun l => gives (x :: l)) s1 = some (l1, s2) := g1
        obtain ⟨ar2, s3, _, f3⟩ := bnd_some g1
        obtain ⟨l2, s4, g2, f4⟩ := bnd_some f3
        cases g2; cases f4; cases f2; rfl
      rw [e2] at this
      cases this
    · cases rp with
      | cons h1 h2 =>
        cases h2 with
        | cons h2 h3 =>
          cases h1; cases h2; cases h3
          exact ⟨a, b, rfl, ⟨(small_of ha).1, (small_of ha).2, (small_of hb).1, (small_of hb).2⟩, k F' H' r' x' sub⟩
theorem pi_enum_ (g : Gd X Γ q) {e : Ex} {a : Expr} {elts : List Expr} {kk : Nat} {tp p pos : Pos} (hg : gl q "enumerate" = true) (na : ns a = true) (h : PE X a (tV X.K C e)) : PI X (.Tuple elts kk tp) (.Call (.Name "enumerate" p) [a] [] pos) (tI X.K (sem C (.itEnum e)).it) := by
  refine PI.imp (pi_enum (g.glx hg) (g.mgb _ (by decide +kernel)) (pa_cons h pa_nil (star_ns na)) (star_ns na)) fun σ H R hq => ?_
  obtain ⟨s, F, ds, s', r, e0, k⟩ := hq
  have e0 : bnd (sem C e).v (fun d => match d with
      | .list xs => gives (enumD 0 xs)
      | _ => fails) s = some (ds, s') := e0
  obtain ⟨d, s1, e1, f1⟩ := bnd_some e0
  split at f1
  · cases f1
    refine ⟨s, F, _, _, r, e1, fun v F' H' r' x' sub w => ?_⟩
    cases w with
    | lst h1 r1 => exact ⟨_, _, rfl, .inl (Rd.same r'.sub h1), k _ F' H' r' x' sub (ite_ok h1 r1)⟩
  · cases f1
theorem pi_zip_ (g : Gd X Γ q) {es : Ex} {a b : Expr} {elts : List Expr} {kk : Nat} {tp p pos : Pos} (hg : gl q "zip" = true) (hp : PAx X C [a, b] es) : PI X (.Tuple elts kk tp) (.Call (.Name "zip" p) [a, b] [] pos) (tI X.K (sem C (.itZip es)).it) := by
  obtain ⟨ea, eb, rfl, na, pa, nb, pb⟩ := pax2 hp
  refine PI.imp (RZ.pi_zipA (g.glx hg) (g.mgb _ (by decide +kernel)) hp.pa (star_ns na) (by rw [star_ns nb]; rfl)) fun σ H R hq => ?_
  obtain ⟨s, F, ds, s', r, e0, k⟩ := hq
  have e0 : bnd (sem C (.cons ea (.cons eb .nil))).as (fun l => bnd (lift (valsA l)) fun ds => match ds with
      | [.list xs, .list ys] => gives (zipD xs ys)
      | [.tuple xs, .tuple ys] => gives (zipD xs ys)
      | _ => fails) s = some (ds, s') := e0
  obtain ⟨l, s1, e1, f1⟩ := bnd_some e0
  obtain ⟨dd, s2, e2, f2⟩ := bnd_some f1
  obtain ⟨e3, e4⟩ := lift_some e2
  change s2 = s1 at e4
  change valsA l = some dd at e3
  subst e4
  refine as_read _ r e1 fun vs F' H' r' x' sub arrs => ?_
  have rp := vals_rps arrs e3
  split at f2
  · cases f2
    cases rp with
    | cons h1 h2 =>
      cases h2 with
      | cons h2 h3 =>
        cases h3
        cases h1 with
        | lst p1 q1 =>
          cases h2 with
          | lst p2 q2 => exact ⟨_, _, _, _, rfl, .inl ⟨.inl (Rd.same r'.sub p1), .inl (Rd.same r'.sub p2), k _ F' H' r' x' sub (itz_ok p1 q1 p2 q2)⟩⟩
  · cases f2
    cases rp with
    | cons h1 h2 =>
      cases h2 with
      | cons h2 h3 =>
        cases h3
        cases h1 with
        | tup p1 q1 =>
          cases h2 with
          | tup p2 q2 => exact ⟨_, _, _, _, rfl, .inr ⟨SqT.same r'.sub p1, SqT.same r'.sub p2, k _ F' H' r' x' sub (itzT_ok p1 q1 p2 q2)⟩⟩
  · cases f2
end
end FC

/-! Part 12: targets. -/
namespace FC
open PySem PySem.Spec PyProof.Rows L2
section
variable {K : PySem.W.Frag} {F H : Hp} {σ : L2.St} {s s1 : S}
theorem putS_some {i : Nat} {b : B} (h : putS i b s = some s1) : s1 = s.set i (some b) ∧ i < s.length ∧ ∀ d, s[i]? ≠ some (some (.lent d)) := by
  unfold putS at h
  split at h
  · cases h
  · rename_i e2 e1
    cases h
    exact ⟨rfl, (List.getElem?_eq_some_iff.mp e1).1, fun d z => e2 d (by rw [e1] at z; cases z; rfl)⟩
  · cases h
theorem set_back {i j : Nat} {b c : B} (hi : i < s.length) (h : (s.set i (some b))[j]? = some (some c)) : (j = i ∧ c = b) ∨ (j ≠ i ∧ s[j]? = some (some c)) := by
  by_cases hj : j = i
  · subst hj
    rw [List.getElem?_set_self hi] at h
    cases h
    exact .inl ⟨rfl, rfl⟩
  · rw [List.getElem?_set_ne (Ne.symm hj)] at h
    exact .inr ⟨hj, h⟩
/-- a slot gets a value -/
theorem Rs.put {i : Nat} {d : D} {v : V} (r : Rs K F H σ s) (h : putS i (.val d) s = some s1) (w : Rp K F v d) : Rs K F H (σ.set i (some v)) s1 ∧ ∀ a, Ad (σ.set i (some v)) s1 a → Ad σ s a := by
  obtain ⟨rfl, hi, hl⟩ := putS_some h
  have his : i < σ.length := by rw [r.len]; exact hi
  refine ⟨⟨r.sub, by rw [List.length_set, List.length_set]; exact r.len, fun j b ej => ?_, fun j k b c a e1 e2 m1 m2 e3 e4 => ?_⟩, fun a ⟨j, b, ej, m, ev⟩ => ?_⟩
  · rcases set_back hi ej with ⟨rfl, rfl⟩ | ⟨nj, ej⟩
    · exact ⟨v, List.getElem?_set_self his, w⟩
    · rw [List.getElem?_set_ne (Ne.symm nj)]
      exact r.at_ j b ej
  · rcases set_back hi e1 with ⟨rfl, rfl⟩ | ⟨nj, e1⟩
    · cases m1
    · rcases set_back hi e2 with ⟨rfl, rfl⟩ | ⟨nk, e2⟩
      · cases m2
      · rw [List.getElem?_set_ne (Ne.symm nj)] at e3
        rw [List.getElem?_set_ne (Ne.symm nk)] at e4
        exact r.dis j k b c a e1 e2 m1 m2 e3 e4
  · rcases set_back hi ej with ⟨rfl, rfl⟩ | ⟨nj, ej⟩
    · cases m
    · rw [List.getElem?_set_ne (Ne.symm nj)] at ev
      exact ⟨j, b, ej, m, ev⟩
/-- a slot gets an object of its own -/
theorem Rs.putO {i : Nat} {d : D} {a : Addr} (r : Rs K F H σ s) (h : putS i (.own d) s = some s1) (hf : F a = none) (ob : Ob K F H a d) (nA : ¬ Ad σ s a) : Rs K F H (σ.set i (some (.ref a))) s1 ∧ ∀ c, Ad (σ.set i (some (.ref a))) s1 c → Ad σ s c ∨ c = a := by
  obtain ⟨rfl, hi, hl⟩ := putS_some h
  have his : i < σ.length := by rw [r.len]; exact hi
  refine ⟨⟨r.sub, by rw [List.length_set, List.length_set]; exact r.len, fun j b ej => ?_, fun j k b c a' e1 e2 m1 m2 e3 e4 => ?_⟩, fun c ⟨j, b, ej, m, ev⟩ => ?_⟩
  · rcases set_back hi ej with ⟨rfl, rfl⟩ | ⟨nj, ej⟩
    · exact ⟨.ref a, List.getElem?_set_self his, a, rfl, hf, ob⟩
    · rw [List.getElem?_set_ne (Ne.symm nj)]
      exact r.at_ j b ej
  · rcases set_back hi e1 with ⟨rfl, rfl⟩ | ⟨nj, e1⟩
    · rw [List.getElem?_set_self his] at e3
      cases e3
      rcases set_back hi e2 with ⟨rfl, rfl⟩ | ⟨nk, e2⟩
      · rfl
      · rw [List.getElem?_set_ne (Ne.symm nk)] at e4
        exact absurd ⟨k, c, e2, m2, e4⟩ nA
    · rw [List.getElem?_set_ne (Ne.symm nj)] at e3
      rename_i e1'
      rcases set_back hi e2 with ⟨hk, hc⟩ | ⟨nk, e2⟩
      · rw [hk, List.getElem?_set_self his] at e4
        cases e4
        exact absurd ⟨j, b, e1, m1, e3⟩ nA
      · rw [List.getElem?_set_ne (Ne.symm nk)] at e4
        exact r.dis j k b c a' e1 e2 m1 m2 e3 e4
  · rcases set_back hi ej with ⟨rfl, rfl⟩ | ⟨nj, ej⟩
    · rw [List.getElem?_set_self his] at ev
      cases ev
      exact .inr rfl
    · rw [List.getElem?_set_ne (Ne.symm nj)] at ev
      exact .inl ⟨j, b, ej, m, ev⟩
def setAll : L2.St → List Nat → List V → L2.St
  | σ, i :: is, v :: vs => setAll (σ.set i (some v)) is vs
  | σ, _, _ => σ
theorem Rs.putAll : ∀ {is : List Nat} {ds : List D} {vs : List V} {σ : L2.St} {s s1 : S}, Rs K F H σ s → FC.putAll (is.zip (ds.map .val)) s = some s1 → Rps K F vs ds → ds.length = is.length →
    Rs K F H (setAll σ is vs) s1 ∧ ∀ a, Ad (setAll σ is vs) s1 a → Ad σ s a
  | [], [], _, σ, s, s1, r, h, .nil, _ => by
    cases h
    exact ⟨r, fun _ z => z⟩
  | i :: is, d :: ds, _, σ, s, s1, r, h, .cons w ws, hl => by
    simp only [List.map_cons, List.zip_cons_cons, FC.putAll] at h
    split at h
    · rename_i s2 e
      obtain ⟨r2, a2⟩ := r.put e w
      obtain ⟨r3, a3⟩ := Rs.putAll r2 h ws (by simpa using hl)
      exact ⟨r3, fun a z => a2 a (a3 a z)⟩
    · cases h
  | [], _ :: _, _, _, _, _, _, _, _, hl => by simp at hl
  | _ :: _, [], _, _, _, _, _, _, _, hl => by simp at hl
theorem wipe_set {i : Nat} {o : Option V} : ∀ {vs : List Nat}, i ∈ vs → wipe (σ.set i o) vs = wipe σ vs
  | v :: vs, h => by
    unfold wipe
    by_cases hv : i ∈ vs
    · rw [wipe_set hv]
    · have e : i = v := by
        rcases List.mem_cons.mp h with e | e
        · exact e
        · exact absurd e hv
      subst e
      have : ∀ (vs : List Nat) (σ : L2.St), i ∉ vs → (wipe (σ.set i o) vs).set i none = (wipe σ vs).set i none := by
        intro vs
        induction vs with
        | nil => intro σ _; show (σ.set i o).set i none = σ.set i none; rw [List.set_set]
        | cons w ws ih =>
          intro σ hn
          have hw : w ≠ i := fun e => hn (e ▸ List.mem_cons_self)
          show ((wipe (σ.set i o) ws).set w none).set i none = ((wipe σ ws).set w none).set i none
          rw [List.set_comm _ _ hw, List.set_comm _ _ hw, ih σ (fun e => hn (List.mem_cons_of_mem _ e))]
      exact this vs σ hv
theorem wipe_setAll {ws : List Nat} : ∀ {is : List Nat} {vs : List V} {σ : L2.St}, (∀ i ∈ is, i ∈ ws) → wipe (setAll σ is vs) ws = wipe σ ws
  | [], _, σ, _ => by unfold setAll; rfl
  | i :: is, [], σ, _ => by unfold setAll; rfl
  | i :: is, v :: vs, σ, h => by
    unfold setAll
    rw [wipe_setAll fun j hj => h j (List.mem_cons_of_mem _ hj), wipe_set (h i List.mem_cons_self)]
end
section
variable {X : Cx} {Γ : Gam} {q : Scp} {C : Calls}
def gIs : List Nat → TGs
  | [] => gNil
  | i :: is => gCons (gName i) (gIs is)
theorem gIs_of : ∀ {is : List Nat} {vs : List V} {σ : L2.St} {H : Hp} {Q : L2.St → Hp → Prop}, vs.length = is.length → Q (setAll σ is vs) H → gIs is vs σ H Q
  | [], [], σ, H, Q, _, q => ⟨rfl, q⟩
  | i :: is, v :: vs, σ, H, Q, hl, q => ⟨v, vs, rfl, gIs_of (by simpa using hl) q⟩
  | [], _ :: _, _, _, _, hl, _ => by simp at hl
  | _ :: _, [], _, _, _, hl, _ => by simp at hl
theorem tgn_of (g : Gd X Γ q) {i : Nat} {x : Expr} (h : tgn Γ q i x = true) : PG X x (gName i) ∧ ∃ y p, x = .Name y p := by
  unfold tgn at h
  split at h
  · rename_i y p
    simp only [Bool.and_eq_true, beq_iff_eq] at h
    obtain ⟨h1, h2⟩ := h
    refine ⟨?_, y, p, rfl⟩
    unfold locB at h2
    split at h2
    · rename_i e
      have e' : X.env.scope.names.lookup y = some .local := by rw [g.sc]; exact e
      exact pg_name g.nd (by rw [g.N]; exact h1) (.inl e') (.inr e')
    · rename_i e
      have e' : X.env.scope.names.lookup y = some .cell := by rw [g.sc]; exact e
      exact pg_name g.nd (by rw [g.N]; exact h1) (.inr e') (.inl (by rw [g.fn]; exact h2))
    · cases h2
  · cases h
theorem tgns_of (g : Gd X Γ q) : ∀ {is : List Nat} {xs : List Expr}, tgns Γ q is xs = true → PGs X xs (gIs is) ∧ (assignEach xs X.env).length = is.length ∧ (assignEach xs X.env).findIdx? (·.1) = none
  | [], [], _ => ⟨pgs_nil, rfl, rfl⟩
  | [], _ :: _, h => by cases h
  | _ :: _, [], h => by cases h
  | i :: is, x :: xs, h => by
    unfold tgns at h
    rw [Bool.and_eq_true] at h
    obtain ⟨p, y, po, rfl⟩ := tgn_of g h.1
    obtain ⟨p2, l2, f2⟩ := tgns_of g h.2
    refine ⟨pgs_cons p p2 rfl, ?_, ?_⟩
    · show (assignEach xs X.env).length + 1 = is.length + 1
      rw [l2]
    · show ((false, assign (.Name y po) X.env) :: assignEach xs X.env).findIdx? (·.1) = none
      rw [List.findIdx?_cons]
      simp [f2]
theorem PG.or {x : Expr} {t t' : TG} (h : PG X x t) (h' : PG X x t') : PG X x (fun v σ H Q => t v σ H Q ∨ t' v σ H Q) :=
  ⟨fun pins s σ H v u Q I r q => q.elim (h.run pins s σ H v u Q I r) (h'.run pins s σ H v u Q I r)⟩
def gTg (K : PySem.W.Frag) : Tg → TG
  | .nm i => gName i
  | .tp is => fun v σ H Q => gTup K is.length (gIs is) v σ H Q ∨ gUnl K is.length (gIs is) v σ H Q
theorem pg_tg (g : Gd X Γ q) {t : Tg} {x : Expr} (h : mTg Γ q t x = true) : PG X x (gTg X.K t) := by
  unfold mTg at h
  split at h
  · exact (tgn_of g h).1
  · rw [Bool.and_eq_true] at h
    obtain ⟨p, l, f⟩ := tgns_of g h.1
    exact PG.or (pg_tup g.calm p l f) (pg_unl g.calm p l f)
  · cases h
theorem bind_read {K : PySem.W.Frag} {t : Tg} {F H : Hp} {σ : L2.St} {s s1 : S} {v : V} {d : D} {Q : L2.St → Hp → Prop} (r : Rs K F H σ s) (w : Rp K F v d) (e : bindT t d s = some s1)
    (k : ∀ σ', Rs K F H σ' s1 → (∀ a, Ad σ' s1 a → Ad σ s a) → wipe σ' t.slots = wipe σ t.slots → Q σ' H) : gTg K t v σ H Q := by
  cases t with
  | nm i =>
    obtain ⟨r1, a1⟩ := r.put e w
    exact k _ r1 a1 (wipe_set List.mem_cons_self)
  | tp is =>
    simp only [bindT] at e
    split at e
    · rename_i ds hd
      split at e
      · rename_i hl
        cases d <;> simp only [itemsOf] at hd <;> cases hd
        · cases w with
          | lst h1 r1 =>
            obtain ⟨r2, a2⟩ := Rs.putAll r e r1 hl
            exact .inr ⟨_, _, rfl, .inl (Rd.same r.sub h1), by rw [r1.length]; exact hl, gIs_of (by rw [r1.length]; exact hl) (k _ r2 a2 (wipe_setAll fun _ z => z))⟩
        · cases w with
          | tup h1 r1 =>
            obtain ⟨r2, a2⟩ := Rs.putAll r e r1 hl
            exact .inl ⟨_, _, rfl, SqT.same r.sub h1, by rw [r1.length]; exact hl, gIs_of (by rw [r1.length]; exact hl) (k _ r2 a2 (wipe_setAll fun _ z => z))⟩
      · cases e
    · cases e
end
end FC

/-! Part 13: comprehensions. -/
namespace FC
open PySem PySem.Spec PyProof.Rows L2
section
variable {K : PySem.W.Frag} {F H : Hp} {σ : L2.St} {s : S}
theorem wipeS_len (s : S) : ∀ vs : List Nat, (wipeS s vs).length = s.length
  | [] => rfl
  | v :: vs => by unfold wipeS; rw [List.length_set, wipeS_len s vs]
theorem wipeS_out {i : Nat} : ∀ {vs : List Nat}, i ∉ vs → (wipeS s vs)[i]? = s[i]?
  | [], _ => rfl
  | v :: vs, h => by
    unfold wipeS
    rw [List.getElem?_set_ne (fun e => h (by rw [e]; exact List.mem_cons_self))]
    exact wipeS_out fun e => h (List.mem_cons_of_mem _ e)
theorem wipeS_some {i : Nat} {b : B} : ∀ {vs : List Nat}, (wipeS s vs)[i]? = some (some b) → s[i]? = some (some b) ∧ i ∉ vs
  | [], h => ⟨h, by simp⟩
  | v :: vs, h => by
    unfold wipeS at h
    by_cases hi : v = i
    · subst hi
      by_cases hv : v < (wipeS s vs).length
      · rw [List.getElem?_set_self hv] at h; cases h
      · rw [List.getElem?_eq_none (by simpa using hv)] at h; cases h
    · rw [List.getElem?_set_ne hi] at h
      obtain ⟨h1, h2⟩ := wipeS_some h
      refine ⟨h1, fun e => ?_⟩
      rcases List.mem_cons.mp e with e | e
      · exact hi e.symm
      · exact h2 e
theorem wipe_get {i : Nat} : ∀ {vs : List Nat}, i ∉ vs → (wipe σ vs)[i]? = σ[i]? := fun h => wipe_out h
theorem Rs.wipe (r : Rs K F H σ s) (vs : List Nat) : Rs K F H (L2.wipe σ vs) (wipeS s vs) ∧ ∀ a, Ad (L2.wipe σ vs) (wipeS s vs) a → Ad σ s a := by
  refine ⟨⟨r.sub, by rw [wipe_length, wipeS_len]; exact r.len, fun j b ej => ?_, fun j k b c a e1 e2 m1 m2 e3 e4 => ?_⟩, fun a ⟨j, b, ej, m, ev⟩ => ?_⟩
  · obtain ⟨h1, h2⟩ := wipeS_some ej
    rw [wipe_out h2]
    exact r.at_ j b h1
  · obtain ⟨h1, h2⟩ := wipeS_some e1
    obtain ⟨h3, h4⟩ := wipeS_some e2
    rw [wipe_out h2] at e3
    rw [wipe_out h4] at e4
    exact r.dis j k b c a h1 h3 m1 m2 e3 e4
  · obtain ⟨h1, h2⟩ := wipeS_some ej
    rw [wipe_out h2] at ev
    exact ⟨j, b, h1, m, ev⟩
theorem wipe_idem : ∀ vs : List Nat, L2.wipe (L2.wipe σ vs) vs = L2.wipe σ vs := by
  intro vs
  apply List.ext_getElem?
  intro i
  by_cases hi : i ∈ vs
  · have : ∀ (τ : L2.St) (vs : List Nat), i ∈ vs → (L2.wipe τ vs)[i]? = if i < τ.length then some none else none := by
      intro τ vs
      induction vs with
      | nil => intro h; cases h
      | cons v vs ih =>
        intro h
        unfold L2.wipe
        by_cases hv : v = i
        · subst hv
          by_cases hl : v < τ.length
          · rw [List.getElem?_set_self (by rw [wipe_length]; exact hl), if_pos hl]
          · rw [List.getElem?_eq_none (by rw [List.length_set, wipe_length]; omega), if_neg hl]
        · rw [List.getElem?_set_ne hv]
          exact ih (by rcases List.mem_cons.mp h with e | e; exact absurd e.symm hv; exact e)
    rw [this _ vs hi, this _ vs hi, wipe_length]
  · rw [wipe_out hi]
theorem restS_len (s0 s : S) : ∀ vs : List Nat, (restS s0 s vs).length = s.length
  | [] => rfl
  | v :: vs => by unfold restS; rw [List.length_set, restS_len s0 s vs]
theorem restS_out {s0 : S} {i : Nat} : ∀ {vs : List Nat}, i ∉ vs → (restS s0 s vs)[i]? = s[i]?
  | [], _ => rfl
  | v :: vs, h => by
    unfold restS
    rw [List.getElem?_set_ne (fun e => h (by rw [e]; exact List.mem_cons_self))]
    exact restS_out fun e => h (List.mem_cons_of_mem _ e)
theorem restS_in {s0 : S} {i : Nat} {b : B} : ∀ {vs : List Nat}, i ∈ vs → (restS s0 s vs)[i]? = some (some b) → s0[i]? = some (some b)
  | v :: vs, h, e => by
    unfold restS at e
    by_cases hv : v = i
    · subst hv
      by_cases hl : v < (restS s0 s vs).length
      · rw [List.getElem?_set_self hl] at e
        cases q : s0[v]? with
        | none => rw [q] at e; cases e
        | some o => rw [q] at e; cases e; rfl
      · rw [List.getElem?_eq_none (by rw [List.length_set]; omega)] at e
        cases e
    · rw [List.getElem?_set_ne hv] at e
      exact restS_in (by rcases List.mem_cons.mp h with e | e; exact absurd e.symm hv; exact e) e
theorem plain_val {i : Nat} {b : B} (h : plainS s i = true) (e : s[i]? = some (some b)) : ∃ d, b = .val d := by
  unfold plainS at h
  rw [e] at h
  cases b with
  | val d => exact ⟨d, rfl⟩
  | own d => cases h
  | lent d => cases h
/-- behind the comprehension the names are as they were -/
theorem Rs.rest {F1 H1 : Hp} {s1 : S} {vs : List Nat} (r1 : Rs K F1 H1 σ s1) (sm : Same F1 F) (r : Rs K F H (L2.wipe σ vs) (wipeS s vs)) (hp : vs.all (plainS s1) = true) (hl : s.length = s1.length) :
    Rs K F H σ (restS s1 s vs) ∧ ∀ a, Ad σ (restS s1 s vs) a → Ad (L2.wipe σ vs) (wipeS s vs) a := by
  have pv : ∀ {j : Nat} {b : B}, j ∈ vs → (restS s1 s vs)[j]? = some (some b) → ∃ d, b = .val d := fun {j b} hj e =>
    plain_val (List.all_eq_true.mp hp j hj) (restS_in hj e)
  have mo : ∀ {j : Nat} {b : B}, (restS s1 s vs)[j]? = some (some b) → b.mine = true → j ∉ vs ∧ (wipeS s vs)[j]? = some (some b) := fun {j b} e m => by
    have hj : j ∉ vs := fun hj => by
      obtain ⟨d, rfl⟩ := pv hj e
      cases m
    rw [restS_out hj] at e
    exact ⟨hj, by rw [wipeS_out hj]; exact e⟩
  refine ⟨⟨r.sub, by rw [restS_len, hl]; exact r1.len, fun j b ej => ?_, fun j k b c a e1 e2 m1 m2 e3 e4 => ?_⟩, fun a ⟨j, b, ej, m, ev⟩ => ?_⟩
  · by_cases hj : j ∈ vs
    · obtain ⟨d, rfl⟩ := pv hj ej
      obtain ⟨v, ev, rb⟩ := r1.at_ j _ (restS_in hj ej)
      exact ⟨v, ev, Rp.same sm rb⟩
    · rw [restS_out hj] at ej
      obtain ⟨v, ev, rb⟩ := r.at_ j b (by rw [wipeS_out hj]; exact ej)
      rw [wipe_out hj] at ev
      exact ⟨v, ev, rb⟩
  · obtain ⟨h1, h2⟩ := mo e1 m1
    obtain ⟨h3, h4⟩ := mo e2 m2
    exact r.dis j k b c a h2 h4 m1 m2 (by rw [wipe_out h1]; exact e3) (by rw [wipe_out h3]; exact e4)
  · obtain ⟨h1, h2⟩ := mo ej m
    exact ⟨j, b, h2, m, by rw [wipe_out h1]; exact ev⟩
end
section
variable {X : Cx} {Γ : Gam} {q : Scp} {C : Calls}
theorem comp_read {K : PySem.W.Frag} {t : Tg} {it e ifs : Ex} {σ : L2.St} {H : Hp} {Q : VK} (h : tO K C (.comp e t it ifs) σ H Q) :
    tLc (tI K (sem C it).it) (gTg K t) (tT K (sem C ifs).ts) (tV K C e) t.slots σ H Q := by
  obtain ⟨s, F, d, s', r, e0, k⟩ := h
  have e0 : compM t (sem C it).it (sem C ifs).ts (sem C e).v s = some (d, s') := e0
  unfold compM at e0
  split at e0
  · cases e0
  · rename_i ds s1 e1
    split at e0
    · rename_i hp
      split at e0
      · cases e0
      · rename_i ys s2 e2
        cases e0
        refine ⟨s, F, ds, s1, r, e1, fun J F1 H1 r1 x1 sub1 ok dd hD => ?_⟩
        have h0 : H dd = none := fresh_back x1 hD
        -- what holds at a turn
        refine ⟨fun i m H2 => ∃ (F2 : Hp) (si : S) (acc : List D) (av : List V), m = ds.length - i ∧ i ≤ ds.length ∧ compLoop t (sem C ifs).ts (sem C e).v (ds.drop i) acc si = some (ys, s2) ∧
            Rs K F2 H2 (L2.wipe σ t.slots) (wipeS si t.slots) ∧ Same F1 F2 ∧ Ext (Ad σ s) F H F2 H2 ∧ (∀ a, Ad (L2.wipe σ t.slots) (wipeS si t.slots) a → Ad σ s a) ∧ H2 dd = some (.lst av) ∧ F2 dd = none ∧ Rps K F2 av acc ∧ si.length = s1.length, ?_, ?_⟩
        · refine ⟨ds.length, F1, s1, [], [], by simp, Nat.zero_le _, e2, ?_, Same.refl, ?_, ?_, upd_same, none_sub r1.sub hD, .nil, rfl⟩
          · exact ((r1.ext (ext_new (o := .lst []) hD) (same_new r1.sub hD)).wipe t.slots).1
          · exact x1.trans (ext_new (F := F1) (o := .lst []) hD).none_ fun b z => .inl (sub1 b z)
          · exact fun a z => sub1 a ((r1.wipe t.slots).2 a z)
        · rintro i m H2 ⟨F2, si, acc, av, rfl, hi, ec, r2, sm, x2, sub2, hDv, hDf, rpa, hsl⟩
          obtain ⟨okg, oks⟩ := ok F2 H2 sm r2.sub
          by_cases hlt : i < ds.length
          · -- a turn
            have hdi : ds[i]? = some ds[i] := List.getElem?_eq_getElem hlt
            obtain ⟨hgo, hy⟩ := okg i _ hdi
            rw [List.drop_eq_getElem_cons hlt] at ec
            simp only [compLoop] at ec
            split at ec
            · cases ec
            · rename_i sb eb
              have nAD : ∀ {A : Addr → Prop}, (∀ a, A a → Ad σ s a) → ¬ A dd := fun hA z => (Ad.tracked r (hA dd z)).1 h0
              refine .inr ⟨hgo, fun H3 => ∃ m', m' < ds.length - i ∧ ∃ (F2 : Hp) (si : S) (acc : List D) (av : List V), m' = ds.length - (i + 1) ∧ i + 1 ≤ ds.length ∧ compLoop t (sem C ifs).ts (sem C e).v (ds.drop (i + 1)) acc si = some (ys, s2) ∧
                Rs K F2 H3 (L2.wipe σ t.slots) (wipeS si t.slots) ∧ Same F1 F2 ∧ Ext (Ad σ s) F H F2 H3 ∧ (∀ a, Ad (L2.wipe σ t.slots) (wipeS si t.slots) a → Ad σ s a) ∧ H3 dd = some (.lst av) ∧ F2 dd = none ∧ Rps K F2 av acc ∧ si.length = s1.length, fun H' h => h, fun x H3 yl => ?_⟩
              obtain ⟨F3, x3, sm3, rx⟩ := hy x H3 yl
              have r3 := r2.ext x3 sm3
              have hD3 : H3 dd = some (.lst av) := x3.k dd _ (fun z => z) hDv
              have hF3 : F3 dd = none := x3.z dd (fun z => z) hDf (by rw [hDv]; intro z; cases z)
              refine bind_read r3 rx eb fun σ2 rb subb wb => ⟨by rw [wb, wipe_idem], ?_⟩
              rw [wipe_idem] at wb
              have hlb : sb.length = s1.length := by
                have h1 := rb.len
                have h2 : σ2.length = (L2.wipe σ2 t.slots).length := (wipe_length _ _).symm
                rw [wb, wipe_length] at h2
                have h3 := r1.len
                omega
              have xb : Ext (Ad σ s) F H F3 H3 := x2.trans x3.none_ fun b z => .inl (sub2 b z)
              have subb' : ∀ a, Ad σ2 sb a → Ad σ s a := fun a z => sub2 a (subb a z)
              split at ec
              · cases ec
              · -- left out
                rename_i s3 ei
                refine ⟨sb, F3, false, s3, rb, ei, fun F4 H4 r4 x4 sub4 => ?_⟩
                obtain ⟨r4w, a4w⟩ := r4.wipe t.slots
                rw [wb] at r4w a4w
                have hD4 : H4 dd = some (.lst av) := x4.k dd _ (nAD subb') hD3
                have hF4 : F4 dd = none := x4.z dd (nAD subb') hF3 (by rw [hD3]; intro z; cases z)
                refine ⟨ds.length - (i + 1), by omega, F4, s3, acc, av, rfl, hlt, ec, r4w, fun b u e => x4.f b u (x3.f b u (sm b u e)), xb.trans x4 fun b z => .inl (subb' b z), fun a z => subb' a (sub4 a (a4w a z)), hD4, hF4, Rps.same x4.f (Rps.same x3.f rpa), ?_⟩
                have := r4.len; have := rb.len; omega
              · rename_i s3 ei
                split at ec
                · cases ec
                · rename_i y s4 ey
                  split at ec
                  · rename_i hz
                    refine ⟨sb, F3, true, s3, rb, ei, fun F4 H4 r4 x4 sub4 => ⟨s3, F4, y, s4, r4, ey, fun v F5 H5 r5 x5 sub5 w5 => ?_⟩⟩
                    have hD4 : H4 dd = some (.lst av) := x4.k dd _ (nAD subb') hD3
                    have hF4 : F4 dd = none := x4.z dd (nAD subb') hF3 (by rw [hD3]; intro z; cases z)
                    have sub4' : ∀ a, Ad σ2 s3 a → Ad σ s a := fun a z => subb' a (sub4 a z)
                    have hD5 : H5 dd = some (.lst av) := x5.k dd _ (nAD sub4') hD4
                    have hF5 : F5 dd = none := x5.z dd (nAD sub4') hF4 (by rw [hD4]; intro z; cases z)
                    have sub5' : ∀ a, Ad σ2 s4 a → Ad σ s a := fun a z => sub4' a (sub5 a z)
                    have x15 : Ext (Ad σ s) F H F5 H5 := (xb.trans x4 fun b z => .inl (subb' b z)).trans x5 fun b z => .inl (sub4' b z)
                    have rpa5 : Rps K F5 av acc := Rps.same x5.f (Rps.same x4.f (Rps.same x3.f rpa))
                    refine ⟨av, hD5, by rw [rpa5.length]; exact hz, ds.length - (i + 1), by omega, F5, s4, acc ++ [y], av ++ [v], rfl, hlt, ec, ?_, fun b u e => x5.f b u (x4.f b u (x3.f b u (sm b u e))), ?_, ?_, upd_same, hF5, rpa5.append (.cons w5 .nil), ?_⟩
                    · -- the new list is changed, nothing else
                      have xu : Ext (fun a => a = dd) F5 H5 F5 (upd H5 dd (.lst (av ++ [v]))) := ⟨Same.refl, fun a o n e => by rw [upd_ne n]; exact e, fun _ _ e _ => e, fun a e => upd_some e⟩
                      have r6 : Rs K F5 (upd H5 dd (.lst (av ++ [v]))) σ2 s4 := by
                        refine ⟨fun b u e => ?_, r5.len, fun j b ej => ?_, r5.dis⟩
                        · rw [upd_ne (ne_of_none e hF5)]; exact r5.sub b u e
                        · obtain ⟨w, ew, rb2⟩ := r5.at_ j b ej
                          refine ⟨w, ew, ?_⟩
                          have ne : ∀ c, w = .ref c → b.mine = true → c ≠ dd := fun c ec m z => nAD sub5' ⟨j, b, ej, m, by rw [ew, ec, z]⟩
                          cases b with
                          | val d => exact rb2
                          | own d =>
                            obtain ⟨c, rfl, hn, ob⟩ := rb2
                            exact ⟨c, rfl, hn, ob.mono Same.refl (upd_ne (ne c rfl rfl))⟩
                          | lent d =>
                            obtain ⟨c, rfl, hn, ob⟩ := rb2
                            exact ⟨c, rfl, hn, ob.mono Same.refl (upd_ne (ne c rfl rfl))⟩
                      have := (r6.wipe t.slots).1
                      rw [wb] at this
                      exact this
                    · refine ⟨x15.f, fun a o n e => ?_, x15.z, fun a e => upd_some (x15.t a e)⟩
                      have ne : a ≠ dd := fun z => by rw [z, h0] at e; cases e
                      rw [upd_ne ne]
                      exact x15.k a o n e
                    · intro a z
                      have := (r5.wipe t.slots).2
                      rw [wb] at this
                      exact sub5' a (this a z)
                    · have := r5.len; have := rb.len; omega
                  · cases ec
          · -- the end
            have ei : i = ds.length := by omega
            subst ei
            refine .inl ⟨oks _ (Nat.le_refl _), ?_⟩
            rw [List.drop_length] at ec
            cases ec
            obtain ⟨rr, ar⟩ := Rs.rest r1 sm r2 hp hsl
            refine k (.ref dd) F2 H2 rr x2 (fun a z => sub2 a (ar a z)) ?_
            exact ⟨dd, rfl, h0, hDf, av, hDv, rpa⟩
    · cases e0
end
end FC

/-! Part 13a: comprehensions with two loops. -/
namespace FC
open PySem PySem.Spec PyProof.Rows L2
section
variable {K : PySem.W.Frag} {F H : Hp} {σ : L2.St} {s : S}
theorem wipe_app : ∀ (vs ws : List Nat) (σ : L2.St), L2.wipe (L2.wipe σ ws) (vs ++ ws) = L2.wipe σ (vs ++ ws)
  | [], ws, σ => wipe_idem ws
  | v :: vs, ws, σ => by
    show (L2.wipe (L2.wipe σ ws) (vs ++ ws)).set v none = (L2.wipe σ (vs ++ ws)).set v none
    rw [wipe_app vs ws σ]
theorem wipe_in_ {i : Nat} : ∀ {vs : List Nat} {σ : L2.St}, i ∈ vs → (L2.wipe σ vs)[i]? = if i < σ.length then some none else none
  | v :: vs, σ, h => by
    show ((L2.wipe σ vs).set v none)[i]? = _
    by_cases hv : i = v
    · subst hv
      split
      · rename_i hi
        exact List.getElem?_set_self (by rw [wipe_length]; exact hi)
      · rename_i hi
        exact List.getElem?_eq_none (by rw [List.length_set, wipe_length]; omega)
    · rw [List.getElem?_set_ne (Ne.symm hv)]
      exact wipe_in_ ((List.mem_cons.mp h).resolve_left hv)
theorem wipeS_in {i : Nat} : ∀ {vs : List Nat} {s : S}, i ∈ vs → i < s.length → (wipeS s vs)[i]? = some none
  | v :: vs, s, h, hi => by
    unfold wipeS
    by_cases hv : i = v
    · subst hv
      exact List.getElem?_set_self (by rw [wipeS_len]; exact hi)
    · rw [List.getElem?_set_ne (Ne.symm hv)]
      exact wipeS_in ((List.mem_cons.mp h).resolve_left hv) hi
theorem wipeS_app (vs ws : List Nat) (s : S) : wipeS (wipeS s ws) (vs ++ ws) = wipeS s (vs ++ ws) := by
  apply List.ext_getElem?
  intro i
  by_cases hi : i < s.length
  · by_cases h : i ∈ vs ++ ws
    · rw [wipeS_in h (by rw [wipeS_len]; exact hi), wipeS_in h hi]
    · rw [wipeS_out h, wipeS_out h, wipeS_out fun z => h (List.mem_append_right _ z)]
  · rw [List.getElem?_eq_none (by rw [wipeS_len, wipeS_len]; omega), List.getElem?_eq_none (by rw [wipeS_len]; omega)]
end
/-- one loop that fills the list at dd -/
theorem loop_read {K : PySem.W.Frag} {C : Calls} {t : Tg} {e ifs : Ex} {σ : L2.St} {F1 H1 : Hp} {s1 s2 : S} {ds acc0 ys : List D} {av0 : List V} {J : It} {dd : Addr} {Nx : Hp → Prop} {A : Addr → Prop}
    (e2 : compLoop t (sem C ifs).ts (sem C e).v ds acc0 s1 = some (ys, s2)) (r1 : Rs K F1 H1 σ s1) (ok : ItOk K F1 J ds) (hA : ∀ a, Ad σ s1 a → A a) (hAd : A dd) (nA : ¬ Ad σ s1 dd) (hD : H1 dd = some (.lst av0)) (hF : F1 dd = none) (ra : Rps K F1 av0 acc0)
    (hN : ∀ (F5 H5 : Hp) (av : List V), Rs K F5 H5 (L2.wipe σ t.slots) (wipeS s2 t.slots) → Same F1 F5 → Ext A F1 H1 F5 H5 → (∀ a, Ad (L2.wipe σ t.slots) (wipeS s2 t.slots) a → Ad σ s1 a) → H5 dd = some (.lst av) → F5 dd = none → Rps K F5 av ys → s2.length = s1.length → Nx H5) :
    ∃ W : Nat → Nat → Hp → Prop, (∃ m, W 0 m H1) ∧ ∀ i m H, W i m H →
      (J.stop i H ∧ Nx H) ∨ (J.go i H ∧ ∃ Nx1 : Hp → Prop, (∀ H', Nx1 H' → ∃ m', m' < m ∧ W (i + 1) m' H') ∧ ∀ x H', J.yld i H x H' → gTg K t x (L2.wipe σ t.slots) H' fun σ2 H2 => L2.wipe σ2 t.slots = L2.wipe σ t.slots ∧ tT K (sem C ifs).ts σ2 H2 fun b H3 =>
        if b = true then tV K C e σ2 H3 fun y H4 => ∃ acc, H4 dd = some (.lst acc) ∧ acc.length < sizeLine ∧ Nx1 (upd H4 dd (.lst (acc ++ [y]))) else Nx1 H3) := by
  let I : Nat → Hp → Prop := fun i H2 => ∃ (F2 : Hp) (si : S) (acc : List D) (av : List V), i ≤ ds.length ∧ compLoop t (sem C ifs).ts (sem C e).v (ds.drop i) acc si = some (ys, s2) ∧
      Rs K F2 H2 (L2.wipe σ t.slots) (wipeS si t.slots) ∧ Same F1 F2 ∧ Ext A F1 H1 F2 H2 ∧ (∀ a, Ad (L2.wipe σ t.slots) (wipeS si t.slots) a → Ad σ s1 a) ∧ H2 dd = some (.lst av) ∧ F2 dd = none ∧ Rps K F2 av acc ∧ si.length = s1.length
  refine ⟨fun i m H2 => m = ds.length - i ∧ I i H2, ⟨ds.length, by simp, F1, s1, acc0, av0, Nat.zero_le _, e2, (r1.wipe t.slots).1, Same.refl, Ext.refl, (r1.wipe t.slots).2, hD, hF, ra, rfl⟩, ?_⟩
  rintro i m H2 ⟨rfl, F2, si, acc, av, hi, ec, r2, sm, x2, sub2, hDv, hDf, rpa, hsl⟩
  obtain ⟨okg, oks⟩ := ok F2 H2 sm r2.sub
  by_cases hlt : i < ds.length
  · have hdi : ds[i]? = some ds[i] := List.getElem?_eq_getElem hlt
    obtain ⟨hgo, hy⟩ := okg i _ hdi
    rw [List.drop_eq_getElem_cons hlt] at ec
    simp only [compLoop] at ec
    split at ec
    · cases ec
    · rename_i sb eb
      refine .inr ⟨hgo, I (i + 1), fun H' h => ⟨ds.length - (i + 1), by omega, rfl, h⟩, fun x H3 yl => ?_⟩
      obtain ⟨F3, x3, sm3, rx⟩ := hy x H3 yl
      have r3 := r2.ext x3 sm3
      have hD3 : H3 dd = some (.lst av) := x3.k dd _ (fun z => z) hDv
      have hF3 : F3 dd = none := x3.z dd (fun z => z) hDf (by rw [hDv]; intro z; cases z)
      refine bind_read r3 rx eb fun σ2 rb subb wb => ⟨by rw [wb, wipe_idem], ?_⟩
      rw [wipe_idem] at wb
      have hlb : sb.length = s1.length := by
        have h1 := rb.len
        have h2 : σ2.length = (L2.wipe σ2 t.slots).length := (wipe_length _ _).symm
        rw [wb, wipe_length] at h2
        have h3 := r1.len
        omega
      have xb : Ext A F1 H1 F3 H3 := x2.trans x3.none_ fun b z => .inl (hA b (sub2 b z))
      have subb' : ∀ a, Ad σ2 sb a → Ad σ s1 a := fun a z => sub2 a (subb a z)
      have nAD : ∀ {B : Addr → Prop}, (∀ a, B a → Ad σ s1 a) → ¬ B dd := fun hB z => nA (hB dd z)
      split at ec
      · cases ec
      · rename_i s3 ei
        refine ⟨sb, F3, false, s3, rb, ei, fun F4 H4 r4 x4 sub4 => ?_⟩
        obtain ⟨r4w, a4w⟩ := r4.wipe t.slots
        rw [wb] at r4w a4w
        have hD4 : H4 dd = some (.lst av) := x4.k dd _ (nAD subb') hD3
        have hF4 : F4 dd = none := x4.z dd (nAD subb') hF3 (by rw [hD3]; intro z; cases z)
        refine ⟨F4, s3, acc, av, hlt, ec, r4w, fun b u e => x4.f b u (x3.f b u (sm b u e)), xb.trans x4 fun b z => .inl (hA b (subb' b z)), fun a z => subb' a (sub4 a (a4w a z)), hD4, hF4, Rps.same x4.f (Rps.same x3.f rpa), ?_⟩
        have := r4.len; have := rb.len; omega
      · rename_i s3 ei
        split at ec
        · cases ec
        · rename_i y s4 ey
          split at ec
          · rename_i hz
            refine ⟨sb, F3, true, s3, rb, ei, fun F4 H4 r4 x4 sub4 => ⟨s3, F4, y, s4, r4, ey, fun v F5 H5 r5 x5 sub5 w5 => ?_⟩⟩
            have hD4 : H4 dd = some (.lst av) := x4.k dd _ (nAD subb') hD3
            have hF4 : F4 dd = none := x4.z dd (nAD subb') hF3 (by rw [hD3]; intro z; cases z)
            have sub4' : ∀ a, Ad σ2 s3 a → Ad σ s1 a := fun a z => subb' a (sub4 a z)
            have hD5 : H5 dd = some (.lst av) := x5.k dd _ (nAD sub4') hD4
            have hF5 : F5 dd = none := x5.z dd (nAD sub4') hF4 (by rw [hD4]; intro z; cases z)
            have sub5' : ∀ a, Ad σ2 s4 a → Ad σ s1 a := fun a z => sub4' a (sub5 a z)
            have x15 : Ext A F1 H1 F5 H5 := (xb.trans x4 fun b z => .inl (hA b (subb' b z))).trans x5 fun b z => .inl (hA b (sub4' b z))
            have rpa5 : Rps K F5 av acc := Rps.same x5.f (Rps.same x4.f (Rps.same x3.f rpa))
            refine ⟨av, hD5, by rw [rpa5.length]; exact hz, F5, s4, acc ++ [y], av ++ [v], hlt, ec, ?_, fun b u e => x5.f b u (x4.f b u (x3.f b u (sm b u e))), ?_, ?_, upd_same, hF5, rpa5.append (.cons w5 .nil), ?_⟩
            · have r6 : Rs K F5 (upd H5 dd (.lst (av ++ [v]))) σ2 s4 := by
                refine ⟨fun b u e => ?_, r5.len, fun j b ej => ?_, r5.dis⟩
                · rw [upd_ne (ne_of_none e hF5)]; exact r5.sub b u e
                · obtain ⟨w, ew, rb2⟩ := r5.at_ j b ej
                  refine ⟨w, ew, ?_⟩
                  have ne : ∀ c, w = .ref c → b.mine = true → c ≠ dd := fun c ec m z => nAD sub5' ⟨j, b, ej, m, by rw [ew, ec, z]⟩
                  cases b with
                  | val d => exact rb2
                  | own d =>
                    obtain ⟨c, rfl, hn, ob⟩ := rb2
                    exact ⟨c, rfl, hn, ob.mono Same.refl (upd_ne (ne c rfl rfl))⟩
                  | lent d =>
                    obtain ⟨c, rfl, hn, ob⟩ := rb2
                    exact ⟨c, rfl, hn, ob.mono Same.refl (upd_ne (ne c rfl rfl))⟩
              have := (r6.wipe t.slots).1
              rw [wb] at this
              exact this
            · refine ⟨x15.f, fun a o n e => ?_, x15.z, fun a e => upd_some (x15.t a e)⟩
              have ne : a ≠ dd := fun z => n (by rw [z]; exact hAd)
              rw [upd_ne ne]
              exact x15.k a o n e
            · intro a z
              have := (r5.wipe t.slots).2
              rw [wb] at this
              exact sub5' a (this a z)
            · have := r5.len; have := rb.len; omega
          · cases ec
  · have ei : i = ds.length := by omega
    subst ei
    refine .inl ⟨oks _ (Nat.le_refl _), ?_⟩
    rw [List.drop_length] at ec
    cases ec
    exact hN F2 H2 av r2 sm x2 sub2 hDv hDf rpa hsl
theorem comp2_read {K : PySem.W.Frag} {C : Calls} {t t1 : Tg} {it e ifs it1 ifs1 : Ex} {σ : L2.St} {H : Hp} {Q : VK} (h : tO K C (.comp2 e t it ifs t1 it1 ifs1) σ H Q) :
    tLc2 (tI K (sem C it).it) (gTg K t) (tT K (sem C ifs).ts) (tI K (sem C it1).it) (gTg K t1) (tT K (sem C ifs1).ts) (tV K C e) (t.slots ++ t1.slots) t1.slots σ H Q := by
  obtain ⟨s, F, d, s', r, e0, k⟩ := h
  have e0 : compM2 t (sem C it).it (sem C ifs).ts t1 (sem C it1).it (sem C ifs1).ts (sem C e).v s = some (d, s') := e0
  unfold compM2 at e0
  split at e0
  · cases e0
  · rename_i ds s1 e1
    split at e0
    · rename_i hp
      split at e0
      · cases e0
      · rename_i ys s2 e2
        cases e0
        refine ⟨s, F, ds, s1, r, e1, fun J F1 H1 r1 x1 sub1 ok dd hD => ?_⟩
        have h0 : H dd = none := fresh_back x1 hD
        generalize hvs : t.slots ++ t1.slots = vs at *
        refine ⟨fun i m H2 => m = ds.length - i ∧ ∃ (F2 : Hp) (si : S) (acc : List D) (av : List V), i ≤ ds.length ∧ compLoop2 vs t (sem C ifs).ts t1 (sem C it1).it (sem C ifs1).ts (sem C e).v (ds.drop i) acc si = some (ys, s2) ∧
            Rs K F2 H2 (L2.wipe σ vs) (wipeS si vs) ∧ Same F1 F2 ∧ Ext (Ad σ s) F H F2 H2 ∧ (∀ a, Ad (L2.wipe σ vs) (wipeS si vs) a → Ad σ s a) ∧ H2 dd = some (.lst av) ∧ F2 dd = none ∧ Rps K F2 av acc ∧ si.length = s1.length, ?_, ?_⟩
        · refine ⟨ds.length, by simp, F1, s1, [], [], Nat.zero_le _, e2, ?_, Same.refl, ?_, ?_, upd_same, none_sub r1.sub hD, .nil, rfl⟩
          · exact ((r1.ext (ext_new (o := .lst []) hD) (same_new r1.sub hD)).wipe vs).1
          · exact x1.trans (ext_new (F := F1) (o := .lst []) hD).none_ fun b z => .inl (sub1 b z)
          · exact fun a z => sub1 a ((r1.wipe vs).2 a z)
        · rintro i m H2 ⟨rfl, F2, si, acc, av, hi, ec, r2, sm, x2, sub2, hDv, hDf, rpa, hsl⟩
          obtain ⟨okg, oks⟩ := ok F2 H2 sm r2.sub
          by_cases hlt : i < ds.length
          · have hdi : ds[i]? = some ds[i] := List.getElem?_eq_getElem hlt
            obtain ⟨hgo, hy⟩ := okg i _ hdi
            rw [List.drop_eq_getElem_cons hlt] at ec
            simp only [compLoop2] at ec
            split at ec
            · cases ec
            · rename_i sb eb
              have nAD : ∀ {A : Addr → Prop}, (∀ a, A a → Ad σ s a) → ¬ A dd := fun hA z => (Ad.tracked r (hA dd z)).1 h0
              refine .inr ⟨hgo, fun H3 => ∃ (F2 : Hp) (si : S) (acc : List D) (av : List V), i + 1 ≤ ds.length ∧ compLoop2 vs t (sem C ifs).ts t1 (sem C it1).it (sem C ifs1).ts (sem C e).v (ds.drop (i + 1)) acc si = some (ys, s2) ∧
                Rs K F2 H3 (L2.wipe σ vs) (wipeS si vs) ∧ Same F1 F2 ∧ Ext (Ad σ s) F H F2 H3 ∧ (∀ a, Ad (L2.wipe σ vs) (wipeS si vs) a → Ad σ s a) ∧ H3 dd = some (.lst av) ∧ F2 dd = none ∧ Rps K F2 av acc ∧ si.length = s1.length, fun H' h => ⟨ds.length - (i + 1), by omega, rfl, h⟩, fun x H3 yl => ?_⟩
              obtain ⟨F3, x3, sm3, rx⟩ := hy x H3 yl
              have r3 := r2.ext x3 sm3
              have hD3 : H3 dd = some (.lst av) := x3.k dd _ (fun z => z) hDv
              have hF3 : F3 dd = none := x3.z dd (fun z => z) hDf (by rw [hDv]; intro z; cases z)
              refine bind_read r3 rx eb fun σ2 rb subb wb => ?_
              have wb' : L2.wipe σ2 vs = L2.wipe σ vs := by
                have h1 : ∀ (τ : L2.St), L2.wipe (L2.wipe τ t.slots) vs = L2.wipe τ vs := fun τ => by
                  apply List.ext_getElem?
                  intro j
                  by_cases hj : j ∈ vs
                  · have : ∀ (ρ : L2.St), (L2.wipe ρ vs)[j]? = if j < ρ.length then some none else none := fun ρ => wipe_in_ hj
                    rw [this, this, wipe_length]
                  · rw [wipe_out hj, wipe_out hj, wipe_out fun z => hj (by rw [← hvs]; exact List.mem_append_left _ z)]
                rw [← h1 σ2, wb, h1, wipe_idem]
              refine ⟨wb', ?_⟩
              have hlb : sb.length = s1.length := by
                have h1 := rb.len
                have h2 : σ2.length = (L2.wipe σ2 vs).length := (wipe_length _ _).symm
                rw [wb', wipe_length] at h2
                have h3 := r1.len
                omega
              have xb : Ext (Ad σ s) F H F3 H3 := x2.trans x3.none_ fun b z => .inl (sub2 b z)
              have subb' : ∀ a, Ad σ2 sb a → Ad σ s a := fun a z => sub2 a (subb a z)
              split at ec
              · cases ec
              · rename_i s3 ei
                refine ⟨sb, F3, false, s3, rb, ei, fun F4 H4 r4 x4 sub4 => ?_⟩
                obtain ⟨r4w, a4w⟩ := r4.wipe vs
                rw [wb'] at r4w a4w
                have hD4 : H4 dd = some (.lst av) := x4.k dd _ (nAD subb') hD3
                have hF4 : F4 dd = none := x4.z dd (nAD subb') hF3 (by rw [hD3]; intro z; cases z)
                refine ⟨F4, s3, acc, av, hlt, ec, r4w, fun b u e => x4.f b u (x3.f b u (sm b u e)), xb.trans x4 fun b z => .inl (subb' b z), fun a z => subb' a (sub4 a (a4w a z)), hD4, hF4, Rps.same x4.f (Rps.same x3.f rpa), ?_⟩
                have := r4.len; have := rb.len; omega
              · rename_i s3 ei
                split at ec
                · cases ec
                · rename_i ds1 s4 eit
                  split at ec
                  · cases ec
                  · rename_i acc' s5 el
                    refine ⟨sb, F3, true, s3, rb, ei, fun F4 H4 r4 x4 sub4 => ?_⟩
                    dsimp only
                    rw [if_pos rfl]
                    refine ⟨s3, F4, ds1, s4, r4, eit, fun J1 F5 H5 r5 x5 sub5 ok5 => ?_⟩
                    have sub4' : ∀ a, Ad σ2 s3 a → Ad σ s a := fun a z => subb' a (sub4 a z)
                    have sub5' : ∀ a, Ad σ2 s4 a → Ad σ s a := fun a z => sub4' a (sub5 a z)
                    have hD4 : H4 dd = some (.lst av) := x4.k dd _ (nAD subb') hD3
                    have hF4 : F4 dd = none := x4.z dd (nAD subb') hF3 (by rw [hD3]; intro z; cases z)
                    have hD5 : H5 dd = some (.lst av) := x5.k dd _ (nAD sub4') hD4
                    have hF5 : F5 dd = none := x5.z dd (nAD sub4') hF4 (by rw [hD4]; intro z; cases z)
                    have x15 : Ext (Ad σ s) F H F5 H5 := (xb.trans x4 fun b z => .inl (subb' b z)).trans x5 fun b z => .inl (sub4' b z)
                    have sm5 : Same F1 F5 := fun b u e => x5.f b u (x4.f b u (x3.f b u (sm b u e)))
                    refine loop_read (A := fun a => Ad σ s a ∨ a = dd) el r5 ok5 (fun a z => .inl (sub5' a z)) (.inr rfl) (nAD sub5') hD5 hF5 (Rps.same x5.f (Rps.same x4.f (Rps.same x3.f rpa))) fun F6 H6 av6 r6 sm6 x6 sub6 hD6 hF6 rp6 hl6 => ?_
                    obtain ⟨r6w, a6w⟩ := r6.wipe vs
                    rw [← hvs] at r6w a6w
                    rw [wipe_app, wipeS_app] at r6w a6w
                    rw [hvs, wb'] at r6w a6w
                    refine ⟨F6, s5, acc', av6, hlt, ec, r6w, fun b u e => sm6 b u (sm5 b u e), ?_, fun a z => sub5' a (sub6 a (a6w a z)), hD6, hF6, rp6, ?_⟩
                    · refine x15.trans x6 fun b z => ?_
                      rcases z with z | z
                      · exact .inl z
                      · exact .inr (by rw [z]; exact h0)
                    · have := r5.len; have := rb.len; omega
          · have ei : i = ds.length := by omega
            subst ei
            refine .inl ⟨oks _ (Nat.le_refl _), ?_⟩
            rw [List.drop_length] at ec
            cases ec
            obtain ⟨rr, ar⟩ := Rs.rest r1 sm r2 hp hsl
            refine k (.ref dd) F2 H2 rr x2 (fun a z => sub2 a (ar a z)) ?_
            exact ⟨dd, rfl, h0, hDf, av, hDv, rpa⟩
    · cases e0
end FC

/-! Part 13b: comprehensions of dicts. -/
namespace FC
open PySem PySem.Spec PyProof.Rows L2
theorem rpk_len {K : PySem.W.Frag} {F : Hp} : ∀ {v : List (Key × V)} {d : List (D × D)}, Rpk K F v d → v.length = d.length
  | _, _, .nil => rfl
  | _, _, .cons _ r => by rw [List.length_cons, List.length_cons, rpk_len r]
section
variable {X : Cx} {Γ : Gam} {q : Scp} {C : Calls}
theorem dcomp_read {K : PySem.W.Frag} {t : Tg} {it ke ve ifs : Ex} {σ : L2.St} {H : Hp} {Q : VK} (h : tO K C (.dcomp ke ve t it ifs) σ H Q) :
    tDc (tI K (sem C it).it) (gTg K t) (tT K (sem C ifs).ts) (tV K C ke) (tV K C ve) t.slots σ H Q := by
  obtain ⟨s, F, d, s', r, e0, k⟩ := h
  have e0 : dcompM t (sem C it).it (sem C ifs).ts (sem C ke).v (sem C ve).v s = some (d, s') := e0
  unfold dcompM at e0
  split at e0
  · cases e0
  · rename_i ds s1 e1
    split at e0
    · rename_i hp
      split at e0
      · cases e0
      · rename_i ys s2 e2
        cases e0
        refine ⟨s, F, ds, s1, r, e1, fun J F1 H1 r1 x1 sub1 ok dd hD => ?_⟩
        have h0 : H dd = none := fresh_back x1 hD
        -- what holds at a turn
        refine ⟨fun i m H2 => ∃ (F2 : Hp) (si : S) (acc : List (FC.D × FC.D)) (av : List (Key × V)), m = ds.length - i ∧ i ≤ ds.length ∧ dcompLoop t (sem C ifs).ts (sem C ke).v (sem C ve).v (ds.drop i) acc si = some (ys, s2) ∧
            Rs K F2 H2 (L2.wipe σ t.slots) (wipeS si t.slots) ∧ Same F1 F2 ∧ Ext (Ad σ s) F H F2 H2 ∧ (∀ a, Ad (L2.wipe σ t.slots) (wipeS si t.slots) a → Ad σ s a) ∧ H2 dd = some (.dK av) ∧ F2 dd = none ∧ Rpk K F2 av acc ∧ si.length = s1.length, ?_, ?_⟩
        · refine ⟨ds.length, F1, s1, [], [], by simp, Nat.zero_le _, e2, ?_, Same.refl, ?_, ?_, upd_same, none_sub r1.sub hD, .nil, rfl⟩
          · exact ((r1.ext (ext_new (o := .dK []) hD) (same_new r1.sub hD)).wipe t.slots).1
          · exact x1.trans (ext_new (F := F1) (o := .dK []) hD).none_ fun b z => .inl (sub1 b z)
          · exact fun a z => sub1 a ((r1.wipe t.slots).2 a z)
        · rintro i m H2 ⟨F2, si, acc, av, rfl, hi, ec, r2, sm, x2, sub2, hDv, hDf, rpa, hsl⟩
          obtain ⟨okg, oks⟩ := ok F2 H2 sm r2.sub
          by_cases hlt : i < ds.length
          · -- a turn
            have hdi : ds[i]? = some ds[i] := List.getElem?_eq_getElem hlt
            obtain ⟨hgo, hy⟩ := okg i _ hdi
            rw [List.drop_eq_getElem_cons hlt] at ec
            simp only [dcompLoop] at ec
            split at ec
            · cases ec
            · rename_i sb eb
              have nAD : ∀ {A : Addr → Prop}, (∀ a, A a → Ad σ s a) → ¬ A dd := fun hA z => (Ad.tracked r (hA dd z)).1 h0
              refine .inr ⟨hgo, fun H3 => ∃ m', m' < ds.length - i ∧ ∃ (F2 : Hp) (si : S) (acc : List (FC.D × FC.D)) (av : List (Key × V)), m' = ds.length - (i + 1) ∧ i + 1 ≤ ds.length ∧ dcompLoop t (sem C ifs).ts (sem C ke).v (sem C ve).v (ds.drop (i + 1)) acc si = some (ys, s2) ∧
                Rs K F2 H3 (L2.wipe σ t.slots) (wipeS si t.slots) ∧ Same F1 F2 ∧ Ext (Ad σ s) F H F2 H3 ∧ (∀ a, Ad (L2.wipe σ t.slots) (wipeS si t.slots) a → Ad σ s a) ∧ H3 dd = some (.dK av) ∧ F2 dd = none ∧ Rpk K F2 av acc ∧ si.length = s1.length, fun H' h => h, fun x H3 yl => ?_⟩
              obtain ⟨F3, x3, sm3, rx⟩ := hy x H3 yl
              have r3 := r2.ext x3 sm3
              have hD3 : H3 dd = some (.dK av) := x3.k dd _ (fun z => z) hDv
              have hF3 : F3 dd = none := x3.z dd (fun z => z) hDf (by rw [hDv]; intro z; cases z)
              refine bind_read r3 rx eb fun σ2 rb subb wb => ⟨by rw [wb, wipe_idem], ?_⟩
              rw [wipe_idem] at wb
              have hlb : sb.length = s1.length := by
                have h1 := rb.len
                have h2 : σ2.length = (L2.wipe σ2 t.slots).length := (wipe_length _ _).symm
                rw [wb, wipe_length] at h2
                have h3 := r1.len
                omega
              have xb : Ext (Ad σ s) F H F3 H3 := x2.trans x3.none_ fun b z => .inl (sub2 b z)
              have subb' : ∀ a, Ad σ2 sb a → Ad σ s a := fun a z => sub2 a (subb a z)
              split at ec
              · cases ec
              · -- left out
                rename_i s3 ei
                refine ⟨sb, F3, false, s3, rb, ei, fun F4 H4 r4 x4 sub4 => ?_⟩
                obtain ⟨r4w, a4w⟩ := r4.wipe t.slots
                rw [wb] at r4w a4w
                have hD4 : H4 dd = some (.dK av) := x4.k dd _ (nAD subb') hD3
                have hF4 : F4 dd = none := x4.z dd (nAD subb') hF3 (by rw [hD3]; intro z; cases z)
                refine ⟨ds.length - (i + 1), by omega, F4, s3, acc, av, rfl, hlt, ec, r4w, fun b u e => x4.f b u (x3.f b u (sm b u e)), xb.trans x4 fun b z => .inl (subb' b z), fun a z => subb' a (sub4 a (a4w a z)), hD4, hF4, Rpk.same x4.f (Rpk.same x3.f rpa), ?_⟩
                have := r4.len; have := rb.len; omega
              · rename_i s3 ei
                split at ec
                · cases ec
                · rename_i kd s4 ey
                  split at ec
                  · cases ec
                  · rename_i vd s5 ev
                    split at ec
                    · cases ec
                    · rename_i k0 hk0
                      split at ec
                      · rename_i hz
                        refine ⟨sb, F3, true, s3, rb, ei, fun F4 H4 r4 x4 sub4 => ⟨s3, F4, kd, s4, r4, ey, fun kv F5 H5 r5 x5 sub5 w5 => ⟨s4, F5, vd, s5, r5, ev, fun v F6 H6 r6 x6 sub6 w6 => ?_⟩⟩⟩
                        have hD4 : H4 dd = some (.dK av) := x4.k dd _ (nAD subb') hD3
                        have hF4 : F4 dd = none := x4.z dd (nAD subb') hF3 (by rw [hD3]; intro z; cases z)
                        have sub4' : ∀ a, Ad σ2 s3 a → Ad σ s a := fun a z => subb' a (sub4 a z)
                        have hD5 : H5 dd = some (.dK av) := x5.k dd _ (nAD sub4') hD4
                        have hF5 : F5 dd = none := x5.z dd (nAD sub4') hF4 (by rw [hD4]; intro z; cases z)
                        have sub5' : ∀ a, Ad σ2 s4 a → Ad σ s a := fun a z => sub4' a (sub5 a z)
                        have hD6 : H6 dd = some (.dK av) := x6.k dd _ (nAD sub5') hD5
                        have hF6 : F6 dd = none := x6.z dd (nAD sub5') hF5 (by rw [hD5]; intro z; cases z)
                        have sub6' : ∀ a, Ad σ2 s5 a → Ad σ s a := fun a z => sub5' a (sub6 a z)
                        have x15 : Ext (Ad σ s) F H F5 H5 := (xb.trans x4 fun b z => .inl (subb' b z)).trans x5 fun b z => .inl (sub4' b z)
                        have x16 : Ext (Ad σ s) F H F6 H6 := x15.trans x6 fun b z => .inl (sub5' b z)
                        have rpa6 : Rpk K F6 av acc := Rpk.same x6.f (Rpk.same x5.f (Rpk.same x4.f (Rpk.same x3.f rpa)))
                        have ek : kv = kV k0 := key_tr (H := H5) (.inl w5) hk0
                        refine ⟨av, k0, ek, hD6, by rw [rpk_len rpa6]; exact hz, ds.length - (i + 1), by omega, F6, s5, putD acc k0 vd, putK av k0 v, rfl, hlt, ec, ?_, fun b u e => x6.f b u (x5.f b u (x4.f b u (x3.f b u (sm b u e)))), ?_, ?_, upd_same, hF6, rpk_put rpa6 w6, ?_⟩
                        · have r7 : Rs K F6 (upd H6 dd (.dK (putK av k0 v))) σ2 s5 := by
                            refine ⟨fun b u e => ?_, r6.len, fun j b ej => ?_, r6.dis⟩
                            · rw [upd_ne (ne_of_none e hF6)]; exact r6.sub b u e
                            · obtain ⟨w, ew, rb2⟩ := r6.at_ j b ej
                              refine ⟨w, ew, ?_⟩
                              have ne : ∀ c, w = .ref c → b.mine = true → c ≠ dd := fun c ec m z => nAD sub6' ⟨j, b, ej, m, by rw [ew, ec, z]⟩
                              cases b with
                              | val d => exact rb2
                              | own d =>
                                obtain ⟨c, rfl, hn, ob⟩ := rb2
                                exact ⟨c, rfl, hn, ob.mono Same.refl (upd_ne (ne c rfl rfl))⟩
                              | lent d =>
                                obtain ⟨c, rfl, hn, ob⟩ := rb2
                                exact ⟨c, rfl, hn, ob.mono Same.refl (upd_ne (ne c rfl rfl))⟩
                          have := (r7.wipe t.slots).1
                          rw [wb] at this
                          exact this
                        · refine ⟨x16.f, fun a o n e => ?_, x16.z, fun a e => upd_some (x16.t a e)⟩
                          have ne : a ≠ dd := fun z => by rw [z, h0] at e; cases e
                          rw [upd_ne ne]
                          exact x16.k a o n e
                        · intro a z
                          have := (r6.wipe t.slots).2
                          rw [wb] at this
                          exact sub6' a (this a z)
                        · have := r6.len; have := rb.len; omega
                      · cases ec
          · -- the end
            have ei : i = ds.length := by omega
            subst ei
            refine .inl ⟨oks _ (Nat.le_refl _), ?_⟩
            rw [List.drop_length] at ec
            cases ec
            obtain ⟨rr, ar⟩ := Rs.rest r1 sm r2 hp hsl
            refine k (.ref dd) F2 H2 rr x2 (fun a z => sub2 a (ar a z)) ?_
            exact ⟨dd, rfl, h0, hDf, av, hDv, rpa⟩
    · cases e0
/-- the same, stored under a name -/
theorem ps_setD {X : Cx} {i : Nat} {y : Str} {py : Pos} {kx vx tg iter : Expr} {ifs : List Expr} {scope : Scope} {own : List (Str × Nat)} {pos spos : Pos} {wi : TI} {g : TG} {tt : TT} {tk tv : TE}
    (hc : X.calm = true) (hN : X.N.Nodup) (hy : X.N[i]? = some y) (hyl : List.lookup y X.env.scope.names = some NameKind.local) (hsw : swapsWith (.DictComp kx vx [⟨tg, iter, ifs, 0⟩] scope pos) (some (.Name y py)) spos.line X.env = pure true)
    (hi : PI X tg iter wi) (ok : BlkOk X.N X.env.scope scope own) (hg : ∀ (s : Shared) (H : Hp) (c : Addr) (cl : List (Str × Addr)) (fp : List Addr), PG (X.blk s H scope (compEnvC scope cl c X.env) fp) tg g)
    (ht : ∀ (s : Shared) (H : Hp) (c : Addr) (cl : List (Str × Addr)) (fp : List Addr), PTs (X.blk s H scope (compEnvC scope cl c X.env) fp) ifs tt)
    (hk : ∀ (s : Shared) (H : Hp) (c : Addr) (cl : List (Str × Addr)) (fp : List Addr), PE (X.blk s H scope (compEnvC scope cl c X.env) fp) kx tk)
    (he : ∀ (s : Shared) (H : Hp) (c : Addr) (cl : List (Str × Addr)) (fp : List Addr), PE (X.blk s H scope (compEnvC scope cl c X.env) fp) vx tv)
    (hs : ∀ x : Value, foldedSetIterable iter X.env x = pure x) :
    PS X (.Assign [.Name y py] (.DictComp kx vx [⟨tg, iter, ifs, 0⟩] scope pos) spos) (tAsg (tDc wi g tt tk tv (own.map (·.2))) (gName i)) := by
  refine ⟨fun pins s σ H D I h => ?_⟩
  rw [exec_Assign_Name_used y py _ spos hsw]
  refine wpAny_bind (wpAny_standAt (wpAny_bind ?_))
  refine wpAny_bind (thn (dc_core hc hN I hi ok hg ht hk he hs h fun L c s' m H' I' q hn f => ?_) fun x s' hq => wpAny_pure (wpAny_pure hq))
  refine wpAny_assign_Name (store_ok2 I' hN hy (.inl hyl) (show RelV (V.ref L) (Value.ref L) from rfl) (fun s2 I2 x => ?_) (.inr hyl))
  obtain ⟨a, sb, ha⟩ := x
  obtain ⟨f0, f1, f2, f3, f4, f5⟩ := f
  have haC : c ≠ a := by
    rcases ha with z | z
    · rw [z]; exact f1
    · exact fun e => f4 y a z e.symm
  exact ⟨m, hn.sameBut sb haC, fun h3 sb3 => ⟨σ.set i (some (V.ref L)), H', I2.turned (fun b o hb e => (sb3.right b hb).trans e) f0 f1 f3 f4 f5, q⟩⟩
end
end FC

/-! Part 14: calls of the text's own defs. -/
namespace FC
open PySem PySem.Spec PyProof.Rows L2
def InR (K : PySem.W.Frag) (F H : Hp) : List V → List Bool → List D → Prop
  | [], [], [] => True
  | v :: vs, false :: ms, d :: ds => Rp K F v d ∧ InR K F H vs ms ds
  | v :: vs, true :: ms, d :: ds => (∃ a, v = .ref a ∧ F a = none ∧ Ob K F H a d) ∧ InR K F H vs ms ds
  | _, _, _ => False
def BackR (K : PySem.W.Frag) (F H : Hp) : List V → List Bool → List D → Prop
  | [], [], [] => True
  | _ :: vs, false :: ms, ls => BackR K F H vs ms ls
  | v :: vs, true :: ms, d :: ls => (∃ a, v = .ref a ∧ F a = none ∧ Ob K F H a d) ∧ BackR K F H vs ms ls
  | _, _, _ => False
def AdV (vs : List V) (ms : List Bool) (a : Addr) : Prop := ∃ i : Nat, ms[i]? = some true ∧ vs[i]? = some (.ref a)
def DisV (vs : List V) (ms : List Bool) : Prop := ∀ (i j : Nat) (a : Addr), ms[i]? = some true → ms[j]? = some true → vs[i]? = some (.ref a) → vs[j]? = some (.ref a) → i = j
/-- what a def promises -/
def spF (K : PySem.W.Frag) (C : Calls) (f : Nat) (sg : Sig) : Sp := fun vs H Q _ =>
  ∃ (F : Hp) (ds : List D) (r : D) (ls : List D), Same F H ∧ vs.length = sg.ps.length ∧ InR K F H vs sg.modes ds ∧ DisV vs sg.modes ∧ C f ds = some (r, ls) ∧
    ∀ (v : V) (F' H' : Hp), Same F' H' → Ext (AdV vs sg.modes) F H F' H' → BackR K F' H' vs sg.modes ls →
      (if sg.own = true then (newObj r = true ∧ ∃ a, v = V.ref a ∧ H a = none ∧ F' a = none ∧ Ob K F' H' a r) else Rp K F' v r) → Q v H'
def arKind : Ar → Option Bool
  | .pl _ => none
  | .ln _ => some true
  | .vl _ => some false
  | .ow _ => some true
theorem a_kind {C : Calls} {e : Ex} {s s' : S} {a : Ar} (h : (sem C e).a s = some (a, s')) : arKind a = modeOf e ∧ (∀ i, a = .ln i → lendOf e = some i) := by
  have vl : ∀ {m : M D}, bnd m (fun d => gives (Ar.vl d)) s = some (a, s') → arKind a = some false ∧ ∀ i, a ≠ .ln i := fun {m} hm => by
    obtain ⟨d, s1, _, e2⟩ := bnd_some hm
    cases e2
    exact ⟨rfl, fun i z => by cases z⟩
  have vl2 : ∀ {m : M D}, bnd m (fun d => gives (Ar.vl d)) s = some (a, s') → some false = modeOf e → arKind a = modeOf e ∧ (∀ i, a = .ln i → lendOf e = some i) := fun hm he => by
    obtain ⟨h1, h2⟩ := vl hm
    exact ⟨h1.trans he, fun i z => absurd z (h2 i)⟩
  cases e with
  | pk i =>
    have h : slotA (.pl i) s = some (a, s') := h
    unfold slotA at h
    split at h <;> cases h
    exact ⟨rfl, fun i z => by cases z⟩
  | lend i =>
    have h : slotA (.ln i) s = some (a, s') := h
    unfold slotA at h
    split at h <;> cases h
    exact ⟨rfl, fun i z => by cases z; rfl⟩
  | give x =>
    have h : bnd (sem C x).v (fun d => if newObj d then gives (Ar.ow d) else fails) s = some (a, s') := h
    obtain ⟨d, s1, _, e2⟩ := bnd_some h
    split at e2 <;> cases e2
    exact ⟨rfl, fun i z => by cases z⟩
  | con d => exact vl2 (m := gives d) h rfl
  | glob y d => exact vl2 (m := gives d) h rfl
  | dct0 => exact vl2 (m := gives (.dict [])) h rfl
  | nil => cases h
  | nev => cases h
  | cons _ _ => cases h
  | itOf _ => cases h
  | itRange _ => cases h
  | itEnum _ => cases h
  | itZip _ => cases h
  | itVals _ => cases h
  | itItems _ => cases h
  | _ => exact vl2 h rfl
theorem as_kinds {C : Calls} : ∀ {es : Ex} {s s' : S} {l : List Ar}, (sem C es).as s = some (l, s') → l.map arKind = (listE es).map modeOf ∧ ∀ (k i : Nat), l[k]? = some (.ln i) → ∃ e, (listE es)[k]? = some e ∧ lendOf e = some i
  | .nil, s, s', l, h => by cases h; exact ⟨rfl, fun k i e => by simp at e⟩
  | .cons x es, s, s', l, h => by
    have h : bnd (sem C x).a (fun x => bnd (sem C es).as fun l => gives (x :: l)) s = some (l, s') := h
    obtain ⟨a, s1, e1, f1⟩ := bnd_some h
    obtain ⟨l1, s2, e2, f2⟩ := bnd_some f1
    cases f2
    obtain ⟨k1, k2⟩ := a_kind e1
    obtain ⟨k3, k4⟩ := as_kinds e2
    refine ⟨by simp only [listE, List.map_cons, k1, k3], fun k i e => ?_⟩
    cases k with
    | zero => cases e; exact ⟨x, rfl, k2 i rfl⟩
    | succ k => exact k4 k i (by simpa using e)
  | .con _, _, _, _, h => by cases h
  | .glob _ _, _, _, _, h => by cases h
  | .var _, _, _, _, h => by cases h
  | .pk _, _, _, _, h => by cases h
  | .lend _, _, _, _, h => by cases h
  | .give _, _, _, _, h => by cases h
  | .op _ _, _, _, _, h => by cases h
  | .not _, _, _, _, h => by cases h
  | .and _ _, _, _, _, h => by cases h
  | .or _ _, _, _, _, h => by cases h
  | .chain .., _, _, _, h => by cases h
  | .ife .., _, _, _, h => by cases h
  | .tup _, _, _, _, h => by cases h
  | .lst _, _, _, _, h => by cases h
  | .dct0, _, _, _, h => by cases h
  | .dct1 _ _, _, _, _, h => by cases h
  | .call .., _, _, _, h => by cases h
  | .mt .., _, _, _, h => by cases h
  | .sl2 .., _, _, _, h => by cases h
  | .mu .., _, _, _, h => by cases h
  | .comp .., _, _, _, h => by cases h
  | .itOf _, _, _, _, h => by cases h
  | .itRange _, _, _, _, h => by cases h
  | .itEnum _, _, _, _, h => by cases h
  | .itZip _, _, _, _, h => by cases h
  | .itVals _, _, _, _, h => by cases h
  | .itItems _, _, _, _, h => by cases h

/-- relations while lent slots come back -/
structure RsP (K : PySem.W.Frag) (F H : Hp) (σ : L2.St) (s : S) (P : Nat → Prop) : Prop where
  sub : Same F H
  len : σ.length = s.length
  at_ : ∀ (i : Nat) (b : B), s[i]? = some (some b) → ¬ P i → ∃ v, σ[i]? = some (some v) ∧ RB K F H v b
  dis : ∀ (i j : Nat) (b c : B) (a : Addr), s[i]? = some (some b) → s[j]? = some (some c) → b.mine = true → c.mine = true → σ[i]? = some (some (.ref a)) → σ[j]? = some (some (.ref a)) → i = j
theorem back_ok {K : PySem.W.Frag} {F H : Hp} {σ : L2.St} : ∀ {l : List Ar} {vs : List V} {ms : List Bool} {ls : List D} {s s' : S}, l.map arKind = ms.map some → (∀ (k i : Nat), l[k]? = some (.ln i) → ∃ v, vs[k]? = some v ∧ σ[i]? = some (some v)) →
    RsP K F H σ s (fun j => ∃ k : Nat, l[k]? = some (.ln j)) → BackR K F H vs ms ls → backS l ls s = some s' → Rs K F H σ s' ∧ ∀ a, Ad σ s' a → Ad σ s a
  | [], vs, ms, ls, s, s', hk, hv, r, hb, e => by
    cases ms with
    | nil =>
      cases vs with
      | nil =>
        cases ls with
        | nil => cases e; exact ⟨⟨r.sub, r.len, fun i b eb => r.at_ i b eb (fun ⟨k, z⟩ => by simp at z), r.dis⟩, fun _ z => z⟩
        | cons _ _ => exact hb.elim
      | cons _ _ => exact hb.elim
    | cons _ _ => cases hk
  | x :: l, vs, ms, ls, s, s', hk, hv, r, hb, e => by
    cases ms with
    | nil => cases hk
    | cons m ms =>
      simp only [List.map_cons, List.cons.injEq] at hk
      obtain ⟨hk1, hk2⟩ := hk
      cases vs with
      | nil => cases m <;> exact hb.elim
      | cons v vs =>
        have hv' : ∀ (k i : Nat), l[k]? = some (.ln i) → ∃ w, vs[k]? = some w ∧ σ[i]? = some (some w) := fun k i e => by
          obtain ⟨w, h1, h2⟩ := hv (k + 1) i (by simpa using e)
          exact ⟨w, by simpa using h1, h2⟩
        have skip : (∀ i, x ≠ .ln i) → RsP K F H σ s (fun j => ∃ k : Nat, l[k]? = some (.ln j)) := fun hx =>
          ⟨r.sub, r.len, fun i b eb np => r.at_ i b eb fun ⟨k, z⟩ => by
            cases k with
            | zero => cases z; exact hx i rfl
            | succ k => exact np ⟨k, by simpa using z⟩, r.dis⟩
        cases x with
        | pl i => cases hk1
        | vl d =>
          cases hk1
          exact back_ok hk2 hv' (skip fun i z => by cases z) hb e
        | ow d =>
          cases hk1
          cases ls with
          | nil => exact hb.elim
          | cons d' ls => exact back_ok hk2 hv' (skip fun i z => by cases z) hb.2 e
        | ln i =>
          cases hk1
          cases ls with
          | nil => exact hb.elim
          | cons d' ls =>
            obtain ⟨⟨a, rfl, hf, ob⟩, hb⟩ := hb
            simp only [backS] at e
            split at e
            · rename_i s1 em
              obtain ⟨b, eb, m, rfl⟩ := mutS_some em
              obtain ⟨w, hw1, hw2⟩ := hv 0 i rfl
              cases hw1
              have hi : i < s.length := (List.getElem?_eq_some_iff.mp eb).1
              have back : ∀ {j : Nat} {c : B}, (s.set i (some (b.put d')))[j]? = some (some c) → c.mine = true → ∃ c', s[j]? = some (some c') ∧ c'.mine = true := fun {j c} ej mj => by
                rcases set_back hi ej with ⟨rfl, rfl⟩ | ⟨nj, ej⟩
                · exact ⟨b, eb, m⟩
                · exact ⟨c, ej, mj⟩
              have r1 : RsP K F H σ (s.set i (some (b.put d'))) (fun j => ∃ k : Nat, l[k]? = some (.ln j)) := by
                refine ⟨r.sub, by rw [List.length_set]; exact r.len, fun j c ej np => ?_, fun j k c d a' e1 e2 m1 m2 e3 e4 => ?_⟩
                · rcases set_back hi ej with ⟨rfl, rfl⟩ | ⟨nj, ej⟩
                  · refine ⟨.ref a, hw2, ?_⟩
                    cases b with
                    | val d => cases m
                    | own d => exact ⟨a, rfl, hf, ob⟩
                    | lent d => exact ⟨a, rfl, hf, ob⟩
                  · refine r.at_ j c ej fun ⟨k, z⟩ => ?_
                    cases k with
                    | zero => cases z; exact nj rfl
                    | succ k => exact np ⟨k, by simpa using z⟩
                · obtain ⟨c', f1, n1⟩ := back e1 m1
                  obtain ⟨d'', f2, n2⟩ := back e2 m2
                  exact r.dis j k c' d'' a' f1 f2 n1 n2 e3 e4
              obtain ⟨r2, a2⟩ := back_ok hk2 hv' r1 hb e
              refine ⟨r2, fun c z => ?_⟩
              obtain ⟨j, d, ej, mj, evj⟩ := a2 c z
              obtain ⟨d'', f, n⟩ := back ej mj
              exact ⟨j, d'', f, n, evj⟩
            · cases e
end FC

/-! Part 15: calls in the text. -/
namespace FC
open PySem PySem.Spec PyProof.Rows L2
def pick {α : Type} (perm : List Nat) (l : List α) : List α := perm.filterMap (l[·]?)
structure CallOk (X : Cx) (C : Calls) (f : Nat) (sg : Sig) : Prop where
  ok : ∃ (k : Nat) (ad : Addr) (fd : FuncData), FnOk X.prog X.w X.K X.mg X.base CX0 k ad fd sg.ps (spF X.K C f sg) ∧ Room k X.A ∧ X.mg sg.name = some (.ref ad) ∧ PySem.W.keepIn X.K (.ref ad) = true ∧ Binds X.K fd sg.ps [] ∧
    ∀ t ∈ sg.kws, KBn X.K fd sg.ps t.1 t.2.1 (fun us ws => pick t.2.2 (us ++ ws)) (fun vs zs => pick t.2.2 (vs ++ zs))
theorem permL_pick {α : Type} : ∀ {perm : List Nat} {l l' : List α}, permL perm l = some l' → l' = pick perm l ∧ l'.length = perm.length
  | [], l, l', h => by
    simp only [permL, List.mapM_nil] at h
    cases h
    exact ⟨rfl, rfl⟩
  | i :: perm, l, l', h => by
    have h : (i :: perm).mapM (fun i => l[i]?) = some l' := h
    rw [List.mapM_cons] at h
    cases e1 : l[i]? with
    | none => rw [e1] at h; cases h
    | some a =>
      rw [e1] at h
      cases e2 : perm.mapM (fun i => l[i]?) with
      | none => rw [e2] at h; cases h
      | some r =>
        rw [e2] at h
        cases h
        obtain ⟨h1, h2⟩ := permL_pick (perm := perm) (l := l) (l' := r) e2
        refine ⟨?_, by simp [h2]⟩
        show a :: r = pick (i :: perm) l
        unfold pick
        rw [List.filterMap_cons, e1]
        show a :: r = a :: pick perm l
        rw [← h1]
theorem pick_get {α : Type} : ∀ {perm : List Nat} {l l' : List α} {j i : Nat}, permL perm l = some l' → perm[j]? = some i → l'[j]? = l[i]?
  | [], _, _, _, _, _, e => by simp at e
  | p :: perm, l, l', j, i, h, e => by
    have h : (p :: perm).mapM (fun i => l[i]?) = some l' := h
    rw [List.mapM_cons] at h
    cases e1 : l[p]? with
    | none => rw [e1] at h; cases h
    | some a =>
      rw [e1] at h
      cases e2 : perm.mapM (fun i => l[i]?) with
      | none => rw [e2] at h; cases h
      | some r =>
        rw [e2] at h
        cases h
        cases j with
        | zero => cases e; simp [e1]
        | succ j => simpa using pick_get (perm := perm) (l := l) (l' := r) e2 (by simpa using e)
theorem permL_same {α β : Type} : ∀ {perm : List Nat} {l : List α} {m : List β} {l' : List α}, permL perm l = some l' → l.length = m.length → ∃ m', permL perm m = some m'
  | [], _, _, _, _, _ => ⟨[], rfl⟩
  | p :: perm, l, m, l', h, hl => by
    have h : (p :: perm).mapM (fun i => l[i]?) = some l' := h
    rw [List.mapM_cons] at h
    cases e1 : l[p]? with
    | none => rw [e1] at h; cases h
    | some a =>
      rw [e1] at h
      cases e2 : perm.mapM (fun i => l[i]?) with
      | none => rw [e2] at h; cases h
      | some r =>
        obtain ⟨m', h2⟩ := permL_same (perm := perm) (l := l) (m := m) (l' := r) e2 hl
        have hp : p < m.length := by rw [← hl]; exact (List.getElem?_eq_some_iff.mp e1).1
        refine ⟨m[p] :: m', ?_⟩
        show (p :: perm).mapM (fun i => m[i]?) = some _
        have h2 : perm.mapM (fun i => m[i]?) = some m' := h2
        rw [List.mapM_cons, List.getElem?_eq_getElem hp, h2]
        rfl
theorem inR_of {K : PySem.W.Frag} {F H : Hp} : ∀ {vs : List V} {ms : List Bool} {ds : List D}, vs.length = ms.length → ds.length = ms.length →
    (∀ (j : Nat) (v : V) (m : Bool) (d : D), vs[j]? = some v → ms[j]? = some m → ds[j]? = some d → if m = true then (∃ a, v = .ref a ∧ F a = none ∧ Ob K F H a d) else Rp K F v d) → InR K F H vs ms ds
  | [], [], [], _, _, _ => trivial
  | v :: vs, m :: ms, d :: ds, h1, h2, h => by
    have hr := inR_of (K := K) (F := F) (H := H) (vs := vs) (ms := ms) (ds := ds) (by simpa using h1) (by simpa using h2) fun j w n e k1 k2 k3 => h (j + 1) w n e (by simpa using k1) (by simpa using k2) (by simpa using k3)
    have h0 := h 0 v m d rfl rfl rfl
    cases m with
    | true => rw [if_pos rfl] at h0; exact ⟨h0, hr⟩
    | false => rw [if_neg Bool.false_ne_true] at h0; exact ⟨h0, hr⟩
  | [], _ :: _, _, h, _, _ => by simp at h
  | _ :: _, [], _, h, _, _ => by simp at h
  | [], [], _ :: _, _, h, _ => by simp at h
  | _ :: _, _ :: _, [], _, h, _ => by simp at h
theorem resAs_get {s : S} : ∀ {l : List Ar} {ds : List D} {j : Nat} {a : Ar}, resAs s l = some ds → l[j]? = some a → ∃ d, ds[j]? = some d ∧ resA s a = some d
  | [], _, _, _, _, e => by simp at e
  | x :: l, ds, j, a, h, e => by
    unfold resAs at h
    split at h
    · rename_i d ds' e1 e2
      cases h
      cases j with
      | zero => cases e; exact ⟨d, rfl, e1⟩
      | succ j =>
        obtain ⟨d', h1, h2⟩ := resAs_get e2 (by simpa using e)
        exact ⟨d', by simpa using h1, h2⟩
    · cases h
theorem resAs_len {s : S} : ∀ {l : List Ar} {ds : List D}, resAs s l = some ds → ds.length = l.length
  | [], ds, h => by cases h; rfl
  | x :: l, ds, h => by
    unfold resAs at h
    split at h
    · rename_i d ds' e1 e2
      cases h
      rw [List.length_cons, List.length_cons, resAs_len e2]
    · cases h
theorem ln_uniq {es : Ex} (hn : ((listE es).filterMap lendOf).Nodup) : ∀ {k k' i : Nat} {e e' : Ex}, (listE es)[k]? = some e → (listE es)[k']? = some e' → lendOf e = some i → lendOf e' = some i → k = k' := by
  generalize listE es = l at hn
  induction l with
  | nil => intro k k' i e e' h; simp at h
  | cons x l ih =>
    intro k k' i e e' h1 h2 h3 h4
    have mem : ∀ {k : Nat} {e : Ex}, l[k]? = some e → lendOf e = some i → i ∈ l.filterMap lendOf := fun h1 h3 => List.mem_filterMap.mpr ⟨_, List.mem_of_getElem? h1, h3⟩
    cases hx : lendOf x with
    | none =>
      rw [List.filterMap_cons, hx] at hn
      cases k with
      | zero => cases h1; rw [hx] at h3; cases h3
      | succ k =>
        cases k' with
        | zero => cases h2; rw [hx] at h4; cases h4
        | succ k' =>
          have := ih hn (k := k) (k' := k') (by simpa using h1) (by simpa using h2) h3 h4
          omega
    | some z =>
      rw [List.filterMap_cons, hx] at hn
      have hn' : z ∉ l.filterMap lendOf ∧ (l.filterMap lendOf).Nodup := List.nodup_cons.mp hn
      cases k with
      | zero =>
        cases h1
        rw [hx] at h3
        cases h3
        cases k' with
        | zero => rfl
        | succ k' => exact absurd (mem (by simpa using h2) h4) hn'.1
      | succ k =>
        cases k' with
        | zero =>
          cases h2
          rw [hx] at h4
          cases h4
          exact absurd (mem (by simpa using h1) h3) hn'.1
        | succ k' =>
          have := ih hn'.2 (k := k) (k' := k') (by simpa using h1) (by simpa using h2) h3 h4
          omega
section
variable {X : Cx} {Γ : Gam} {q : Scp} {C : Calls}
theorem callM_some {f : Nat} {perm : List Nat} {as : M (List Ar)} {s s' : S} {r : D} (h : callM C f perm as s = some (r, s')) : ∃ l l' s1 ds ls, as s = some (l, s1) ∧ permL perm l = some l' ∧ resAs s1 l' = some ds ∧ C f ds = some (r, ls) ∧ backS l' ls s1 = some s' := by
  unfold callM at h
  obtain ⟨l, s1, e1, f1⟩ := bnd_some h
  split at f1
  · cases f1
  · rename_i l' e2
    split at f1
    · cases f1
    · rename_i ds e3
      split at f1
      · cases f1
      · rename_i rr ls e4
        split at f1
        · cases f1
        · rename_i s2 e5
          cases f1
          exact ⟨l, l', s1, ds, ls, e1, e2, e3, e4, e5⟩
/-- the arguments stand, the promise is asked -/
theorem call_read {K : PySem.W.Frag} {f : Nat} {sg : Sig} {perm : List Nat} {es : Ex} {σ : L2.St} {H : Hp} {Q : VK} {R : Hp → Hp → L2.St → Hp → V → D → Prop}
    (hm : perm.map (fun i => ((listE es)[i]?).bind modeOf) = sg.modes.map some) (hps : sg.ps.length = sg.modes.length) (hn : ((listE es).filterMap lendOf).Nodup) (hpn : perm.Nodup)
    (hR : ∀ F' H' H0 v d, (if sg.own = true then (newObj d = true ∧ ∃ a, v = V.ref a ∧ H0 a = none ∧ F' a = none ∧ Ob K F' H' a d) else Rp K F' v d) → R F' H' σ H0 v d)
    (h : tG K (callM C f perm (sem C es).as) R σ H Q) : tAs K C es σ H fun vs H2 => vs.length = (listE es).length ∧ spF K C f sg (pick perm vs) H2 Q E0 := by
  obtain ⟨s, F, d, s', r, e, k⟩ := h
  obtain ⟨l, l', s1, ds, ls, e1, e2, e3, e4, e5⟩ := callM_some e
  obtain ⟨kd1, kd2⟩ := as_kinds e1
  refine as_read es r e1 fun vs F2 H2 r2 x2 sub2 arrs => ?_
  have hll : l.length = (listE es).length := by
    have := congrArg List.length kd1
    simpa using this
  refine ⟨by rw [arrs.len, hll], ?_⟩
  obtain ⟨vs', ev⟩ := permL_same (m := vs) e2 arrs.len.symm
  obtain ⟨epick, elen⟩ := permL_pick ev
  rw [← epick]
  have ll' : l'.length = perm.length := (permL_pick e2).2
  have pm : perm.length = sg.modes.length := by
    have := congrArg List.length hm
    simpa using this
  -- kinds in the order of the parameters
  have kl' : l'.map arKind = sg.modes.map some := by
    rw [← hm]
    apply List.ext_getElem?
    intro j
    rw [List.getElem?_map, List.getElem?_map]
    cases ep : perm[j]? with
    | none =>
      have : l'[j]? = none := List.getElem?_eq_none (by rw [ll']; exact List.getElem?_eq_none_iff.mp ep)
      rw [this]
      rfl
    | some i =>
      rw [pick_get e2 ep]
      have hj : j < l'.length := by rw [ll']; exact (List.getElem?_eq_some_iff.mp ep).1
      have hli : l[i]? ≠ none := by
        rw [← pick_get e2 ep, List.getElem?_eq_getElem hj]
        intro z; cases z
      have k0 : (l.map arKind)[i]? = ((listE es).map modeOf)[i]? := by rw [kd1]
      rw [List.getElem?_map, List.getElem?_map] at k0
      cases el : l[i]? with
      | none => exact absurd el hli
      | some a =>
        rw [el] at k0
        cases ee : (listE es)[i]? with
        | none => rw [ee] at k0; cases k0
        | some x =>
          rw [ee] at k0
          have hk : arKind a = modeOf x := Option.some.inj k0
          show some (arKind a) = some (Option.bind ((listE es)[i]?) modeOf)
          rw [ee, hk]
          rfl
  -- the place of a parameter's argument
  have place : ∀ {j : Nat} {v : V} {a : Ar}, vs'[j]? = some v → l'[j]? = some a → ∃ i, perm[j]? = some i ∧ vs[i]? = some v ∧ l[i]? = some a := fun {j v a} h1 h2 => by
    have hj : j < perm.length := by rw [← ll']; exact (List.getElem?_eq_some_iff.mp h2).1
    have ep : perm[j]? = some perm[j] := List.getElem?_eq_getElem hj
    exact ⟨perm[j], ep, by rw [← pick_get ev ep]; exact h1, by rw [← pick_get e2 ep]; exact h2⟩
  have arAt : ∀ {j : Nat} {v : V} {a : Ar}, vs'[j]? = some v → l'[j]? = some a → ArR K F2 H2 σ H v a := fun {j v a} h1 h2 => by
    obtain ⟨i, _, h3, h4⟩ := place h1 h2
    exact arrs.at_ i v a h3 h4
  have kindAt : ∀ {j : Nat} {a : Ar} {m : Bool}, l'[j]? = some a → sg.modes[j]? = some m → arKind a = some m := fun {j a m} h1 h2 => by
    have : (l'.map arKind)[j]? = (sg.modes.map some)[j]? := by rw [kl']
    rw [List.getElem?_map, List.getElem?_map, h1, h2] at this
    simpa using this
  have lenv : vs'.length = sg.modes.length := elen.trans pm
  have lv : vs'.length = l'.length := by rw [lenv, ll', pm]
  -- a lent argument's address
  have lentAt : ∀ {j : Nat} {v : V} {a : Ar} {d : D}, vs'[j]? = some v → l'[j]? = some a → sg.modes[j]? = some true → resA s1 a = some d → ∃ c, v = .ref c ∧ F2 c = none ∧ Ob K F2 H2 c d ∧ (Ad σ s1 c ∨ H c = none) := fun {j v a d} h1 h2 h3 h4 => by
    have ka := kindAt h2 h3
    have ar := arAt h1 h2
    cases a with
    | pl i => cases ka
    | vl d => cases ka
    | ln i =>
      obtain ⟨b, eb, mb, ed⟩ := ln_some h4
      obtain ⟨w, ew, rb⟩ := r2.at_ i b eb
      have ar : σ[i]? = some (some v) := ar
      rw [ar] at ew
      cases ew
      obtain ⟨c, ec, hf, ob⟩ := rb.mineAt mb
      rw [ed] at ob
      exact ⟨c, ec, hf, ob, .inl ⟨i, b, eb, mb, by rw [← ec]; exact ar⟩⟩
    | ow d' =>
      cases h4
      obtain ⟨_, c, ec, h0, hf, ob⟩ := ar
      exact ⟨c, ec, hf, ob, .inr h0⟩
  have adv : ∀ c, AdV vs' sg.modes c → Ad σ s c ∨ H c = none := fun c ⟨j, hj1, hj2⟩ => by
    have hj : j < l'.length := by rw [← lv]; exact (List.getElem?_eq_some_iff.mp hj2).1
    obtain ⟨dd, _, h4⟩ := resAs_get e3 (List.getElem?_eq_getElem hj)
    obtain ⟨c', ec, _, _, h5⟩ := lentAt hj2 (List.getElem?_eq_getElem hj) hj1 h4
    cases ec
    rcases h5 with h5 | h5
    · exact .inl (sub2 c h5)
    · exact .inr h5
  refine ⟨F2, ds, d, ls, r2.sub, by rw [lenv, hps], inR_of lenv (by rw [resAs_len e3, ← lv, lenv]) fun j v m dd h1 h2 h3 => ?_, fun i j a hi hj hvi hvj => ?_, e4, fun v F' H' sm xc hb hv => ?_⟩
  · have hj : j < l'.length := by rw [← lv]; exact (List.getElem?_eq_some_iff.mp h1).1
    have hl := List.getElem?_eq_getElem hj
    obtain ⟨d2, h5, h4⟩ := resAs_get e3 hl
    rw [h3] at h5
    cases h5
    cases m with
    | true =>
      rw [if_pos rfl]
      obtain ⟨c, ec, hf, ob, _⟩ := lentAt h1 hl h2 h4
      exact ⟨c, ec, hf, ob⟩
    | false =>
      rw [if_neg Bool.false_ne_true]
      have ka := kindAt hl h2
      have ar := arAt h1 hl
      generalize l'[j] = a at ka ar h4
      cases a with
      | pl i => cases ka
      | ln i => cases ka
      | ow d => cases ka
      | vl d => cases h4; exact ar
  · -- lent arguments stand apart
    have hi' : i < l'.length := by rw [← lv]; exact (List.getElem?_eq_some_iff.mp hvi).1
    have hj' : j < l'.length := by rw [← lv]; exact (List.getElem?_eq_some_iff.mp hvj).1
    have hli := List.getElem?_eq_getElem hi'
    have hlj := List.getElem?_eq_getElem hj'
    obtain ⟨pi, ep1, ev1, el1⟩ := place hvi hli
    obtain ⟨pj, ep2, ev2, el2⟩ := place hvj hlj
    have same : pi = pj := by
      have ki := kindAt hli hi
      have kj := kindAt hlj hj
      have ari := arAt hvi hli
      have arj := arAt hvj hlj
      obtain ⟨di, _, rdi⟩ := resAs_get e3 hli
      obtain ⟨dj, _, rdj⟩ := resAs_get e3 hlj
      have ti := lentAt hvi hli hi rdi
      have tj := lentAt hvj hlj hj rdj
      generalize l'[i] = ai at ki ari el1 rdi
      generalize l'[j] = aj at kj arj el2 rdj
      cases ai with
      | pl _ => cases ki
      | vl _ => cases ki
      | ln x =>
        obtain ⟨bi, ebi, mbi, _⟩ := ln_some rdi
        cases aj with
        | pl _ => cases kj
        | vl _ => cases kj
        | ln y =>
          obtain ⟨bj, ebj, mbj, _⟩ := ln_some rdj
          have exy : x = y := r2.dis x y bi bj a ebi ebj mbi mbj ari arj
          subst exy
          obtain ⟨x1, g1, g2⟩ := kd2 _ _ el1
          obtain ⟨x2, g3, g4⟩ := kd2 _ _ el2
          exact ln_uniq hn g1 g3 g2 g4
        | ow d =>
          obtain ⟨_, c, ec, h0, _⟩ := arj
          cases ec
          exact absurd h0 (Ad.tracked r (sub2 a ⟨x, bi, ebi, mbi, ari⟩)).1
      | ow d =>
        obtain ⟨_, c, ec, h0, _⟩ := ari
        cases ec
        cases aj with
        | pl _ => cases kj
        | vl _ => cases kj
        | ln y =>
          obtain ⟨bj, ebj, mbj, _⟩ := ln_some rdj
          exact absurd h0 (Ad.tracked r (sub2 a ⟨y, bj, ebj, mbj, arj⟩)).1
        | ow d' => exact arrs.dis pi pj a d d' ev1 el1 ev2 el2
    subst same
    have h1 : i < perm.length := (List.getElem?_eq_some_iff.mp ep1).1
    have h2 : j < perm.length := (List.getElem?_eq_some_iff.mp ep2).1
    exact (List.getElem_inj hpn).mp ((List.getElem?_eq_some_iff.mp ep1).2.trans (List.getElem?_eq_some_iff.mp ep2).2.symm)
  · -- behind the call
    have rp : RsP K F' H' σ s1 (fun j => ∃ k : Nat, l'[k]? = some (.ln j)) := by
      refine ⟨sm, r2.len, fun j b eb np => ?_, r2.dis⟩
      obtain ⟨w, ew, rb⟩ := r2.at_ j b eb
      refine ⟨w, ew, ?_⟩
      have far : ∀ c, w = .ref c → b.mine = true → ¬ AdV vs' sg.modes c := fun c ec mb ⟨i, hi, hv2⟩ => by
        have hi' : i < l'.length := by rw [← lv]; exact (List.getElem?_eq_some_iff.mp hv2).1
        have hli := List.getElem?_eq_getElem hi'
        have ki := kindAt hli hi
        have ari := arAt hv2 hli
        obtain ⟨di, _, rdi⟩ := resAs_get e3 hli
        have np' : ∀ x, l'[i] ≠ .ln x ∨ x ≠ j := fun x => by
          by_cases hx : x = j
          · exact .inl fun z => np ⟨i, by rw [hli, z, hx]⟩
          · exact .inr hx
        generalize l'[i] = ai at ki ari rdi np'
        cases ai with
        | pl _ => cases ki
        | vl _ => cases ki
        | ln x =>
          obtain ⟨bi, ebi, mbi, _⟩ := ln_some rdi
          have exy : x = j := r2.dis x j bi b c ebi eb mbi mb ari (by rw [← ec]; exact ew)
          rcases np' x with z | z
          · exact z rfl
          · exact z exy
        | ow d =>
          obtain ⟨_, c', ec', h0, _⟩ := ari
          cases ec'
          exact (Ad.tracked r (sub2 c ⟨j, b, eb, mb, by rw [← ec]; exact ew⟩)).1 h0
      cases b with
      | val d => exact Rp.same xc.f rb
      | own d =>
        obtain ⟨c, rfl, hf, ob⟩ := rb
        obtain ⟨o, eo⟩ := ob.has
        exact ⟨c, rfl, xc.z c (far c rfl rfl) hf (by rw [eo]; intro z; cases z), ob.mono xc.f (by rw [xc.k c o (far c rfl rfl) eo, eo])⟩
      | lent d =>
        obtain ⟨c, rfl, hf, ob⟩ := rb
        obtain ⟨o, eo⟩ := ob.has
        exact ⟨c, rfl, xc.z c (far c rfl rfl) hf (by rw [eo]; intro z; cases z), ob.mono xc.f (by rw [xc.k c o (far c rfl rfl) eo, eo])⟩
    have hvl : ∀ (k i : Nat), l'[k]? = some (.ln i) → ∃ v, vs'[k]? = some v ∧ σ[i]? = some (some v) := fun k i el => by
      have hk : k < vs'.length := by rw [lv]; exact (List.getElem?_eq_some_iff.mp el).1
      exact ⟨vs'[k], List.getElem?_eq_getElem hk, arAt (List.getElem?_eq_getElem hk) el⟩
    obtain ⟨rs, ars⟩ := back_ok kl' hvl rp hb e5
    have xx : Ext (Ad σ s) F H F' H' := x2.trans xc adv
    refine k v F' H' rs xx (fun a z => sub2 a (ars a z)) (hR F' H' H v d ?_)
    split
    · rename_i ho
      rw [if_pos ho] at hv
      obtain ⟨h1, a, h2, h3, h4⟩ := hv
      exact ⟨h1, a, h2, fresh_back x2 h3, h4⟩
    · rename_i ho
      rw [if_neg ho] at hv
      exact hv
end
end FC

/-! Part 16: calls, by position and by names. -/
namespace FC
open PySem PySem.Spec PyProof.Rows L2
theorem tAs_mono {K : PySem.W.Frag} {C : Calls} : ∀ {es : Ex} {σ : L2.St} {H : Hp} {k k' : List V → Hp → Prop}, tAs K C es σ H k → (∀ vs H, k vs H → k' vs H) → tAs K C es σ H k'
  | .cons e es, σ, H, k, k', h, i => tG_mono (show tG K (sem C e).a _ σ H _ from h) fun v H1 h1 => tAs_mono (es := es) h1 fun vs H2 h2 => i _ _ h2
  | .nil, σ, H, k, k', h, i => i _ _ h
  | .con _, σ, H, k, k', h, i => i _ _ h
  | .glob _ _, σ, H, k, k', h, i => i _ _ h
  | .var _, σ, H, k, k', h, i => i _ _ h
  | .pk _, σ, H, k, k', h, i => i _ _ h
  | .lend _, σ, H, k, k', h, i => i _ _ h
  | .give _, σ, H, k, k', h, i => i _ _ h
  | .op _ _, σ, H, k, k', h, i => i _ _ h
  | .not _, σ, H, k, k', h, i => i _ _ h
  | .and _ _, σ, H, k, k', h, i => i _ _ h
  | .or _ _, σ, H, k, k', h, i => i _ _ h
  | .chain .., σ, H, k, k', h, i => i _ _ h
  | .ife .., σ, H, k, k', h, i => i _ _ h
  | .tup _, σ, H, k, k', h, i => i _ _ h
  | .lst _, σ, H, k, k', h, i => i _ _ h
  | .dct0, σ, H, k, k', h, i => i _ _ h
  | .dct1 _ _, σ, H, k, k', h, i => i _ _ h
  | .call .., σ, H, k, k', h, i => i _ _ h
  | .mt .., σ, H, k, k', h, i => i _ _ h
  | .sl2 .., σ, H, k, k', h, i => i _ _ h
  | .mu .., σ, H, k, k', h, i => i _ _ h
  | .comp .., σ, H, k, k', h, i => i _ _ h
  | .comp2 .., σ, H, k, k', h, i => i _ _ h
  | .dcomp .., σ, H, k, k', h, i => i _ _ h
  | .itOf _, σ, H, k, k', h, i => i _ _ h
  | .itRange _, σ, H, k, k', h, i => i _ _ h
  | .itEnum _, σ, H, k, k', h, i => i _ _ h
  | .itZip _, σ, H, k, k', h, i => i _ _ h
  | .itVals _, σ, H, k, k', h, i => i _ _ h
  | .itItems _, σ, H, k, k', h, i => i _ _ h
  | .nev, σ, H, k, k', h, i => i _ _ h
section
variable {X : Cx} {Γ : Gam} {q : Scp} {C : Calls}
theorem PAx.len : ∀ {xs : List Expr} {es : Ex}, PAx X C xs es → (listE es).length = xs.length
  | _, _, .nil => rfl
  | _, _, .cons _ _ r => by simp only [listE, List.length_cons, r.len]
/-- positional arguments, then the keywords' values -/
theorem PAx.split : ∀ {xs ys : List Expr} {es : Ex}, PAx X C (xs ++ ys) es → ∃ e1 e2, PAx X C xs e1 ∧ PAx X C ys e2 ∧
    ∀ {σ : L2.St} {H : Hp} {k : List V → Hp → Prop}, tAs X.K C es σ H (fun vs H2 => vs.length = xs.length + ys.length ∧ k vs H2) → tAs X.K C e1 σ H fun vs H1 => tAs X.K C e2 σ H1 fun zs H2 => vs.length = xs.length ∧ zs.length = ys.length ∧ k (vs ++ zs) H2
  | [], ys, es, h => ⟨.nil, es, .nil, h, fun {σ H k} hq => by
      show tAs X.K C es σ H fun zs H2 => ([] : List V).length = ([] : List Expr).length ∧ zs.length = ys.length ∧ k ([] ++ zs) H2
      exact tAs_mono hq fun vs H2 ⟨hl, hk⟩ => ⟨rfl, by simpa using hl, hk⟩⟩
  | x :: xs, ys, _, .cons (es := es) hn hp r => by
    obtain ⟨e1, e2, p1, p2, h⟩ := PAx.split (xs := xs) (ys := ys) r
    refine ⟨.cons _ e1, e2, .cons hn hp p1, p2, fun {σ H k} hq => ?_⟩
    refine tG_mono (show tG X.K _ _ σ H _ from hq) fun v H1 h1 => ?_
    have h2 : tAs X.K C es σ H1 (fun vs H2 => vs.length = xs.length + ys.length ∧ k (v :: vs) H2) := tAs_mono h1 fun vs H2 ⟨hl, hk⟩ => ⟨by simp only [List.length_cons] at hl; omega, hk⟩
    exact tAs_mono (h h2) fun vs H2 h3 => tAs_mono h3 fun zs H3 ⟨l1, l2, hk⟩ => ⟨by simp [l1], l2, hk⟩
theorem pick_shift {α : Type} (a : α) (vs : List α) : ∀ n : Nat, pick ((List.range n).map (· + 1)) (a :: vs) = pick (List.range n) vs := by
  intro n
  unfold pick
  rw [List.filterMap_map]
  rfl
theorem pick_range {α : Type} : ∀ (vs : List α), pick (List.range vs.length) vs = vs
  | [] => rfl
  | a :: vs => by
    rw [List.length_cons, List.range_succ_eq_map]
    show a :: pick ((List.range vs.length).map Nat.succ) (a :: vs) = a :: vs
    rw [show ((List.range vs.length).map Nat.succ) = ((List.range vs.length).map (· + 1)) from rfl, pick_shift, pick_range vs]
theorem kwEach_some {env : Env} {pos : Pos} : ∀ {kws : List Keyword}, kws.all kwNamed = true → (backToKw pos (keywordEach kws env)).all (·.1.isSome) = true ∧ (backToKw pos (keywordEach kws env)).filterMap (·.1) = kws.filterMap kwName ∧ (backToKw pos (keywordEach kws env)).any (·.1.isNone) = false
  | [], _ => ⟨rfl, rfl, rfl⟩
  | ⟨some n, v, p⟩ :: r, h => by
    obtain ⟨h1, h2, h3⟩ := kwEach_some (env := env) (pos := pos) (kws := r) (by simp only [List.all_cons, Bool.and_eq_true] at h; exact h.2)
    refine ⟨?_, ?_, ?_⟩
    · show (true && (backToKw pos (keywordEach r env)).all (·.1.isSome)) = true
      rw [h1]; rfl
    · show n :: (backToKw pos (keywordEach r env)).filterMap (·.1) = n :: r.filterMap kwName
      rw [h2]
    · show (false || (backToKw pos (keywordEach r env)).any (·.1.isNone)) = false
      rw [h3]; rfl
  | ⟨none, v, p⟩ :: r, h => by cases h
theorem PAx.pk : ∀ {kws : List Keyword} {es : Ex}, PAx X C (kws.map kwVal) es → PK X kws (tAs X.K C es)
  | [], _, .nil => pk_nil
  | ⟨n, v, p⟩ :: r, _, .cons _ hp hr => pk_cons hp hr.pk
theorem pe_callN0 {CX : CXT} {k n : Nat} {f : Addr} {fd : FuncData} {ps ks : List Str} {sp : Sp} {E : XK} {x : Str} {p pos : Pos} {kws : List Keyword} {tk : TA} {g : List Value → List Value → List Value} {gV : List V → List V → List V}
    (F : FnOk X.prog X.w X.K X.mg X.base CX k f fd ps sp) (hr : Room k X.A) (hg : Gl X x) (hm : X.mg x = some (.ref f)) (hk : PySem.W.keepIn X.K (.ref f) = true) (hb : KBn X.K fd ps n ks g gV) (hx : Passes CX X E)
    (hkw : PK X kws tk) (hall : (backToKw pos (keywordEach kws X.env)).all (·.1.isSome) = true) (hks : (backToKw pos (keywordEach kws X.env)).filterMap (·.1) = ks)
    (hdb : (x == ("__debug__" : Str)) = false) (hpl : (backToKw pos (keywordEach kws X.env)).any (·.1.isNone) = false) :
    PE X (.Call (.Name x p) [] kws pos) (tCallN n ks.length sp gV E tNil tk) := by
  refine ⟨fun pins s σ H Q I h => ?_⟩
  refine wpAny_Call_Name_kw (ld_glob I hg hm ?_ hdb)
  refine PySem.W.callWith_KW0 (h₀ := X.base) I.ok.mod.kin hk hall (thn (hkw.run pos pins s σ H _ I h) fun ws s2 ⟨zs, H2, I2, rz, l1, l2, q2⟩ => ⟨I2.kIn, ?_⟩) (by rw [hpl]; rfl)
  rw [hks]
  exact run_fnN F hr hb hx I2 .nil rz l1 l2 q2
theorem pe_call_ (g : Gd X Γ q) {f : Nat} {sg : Sig} {perm : List Nat} {es : Ex} {xs : List Expr} {kws : List Keyword} {y : Str} {p pos : Pos} {R : Hp → Hp → L2.St → Hp → V → D → Prop} (ok : CallOk X C f sg)
    (hy : sg.name = y) (hg : gl q y = true) (hd : (y == ("__debug__" : Str)) = false) (hp : PAx X C (xs ++ kws.map kwVal) es)
    (hkw : (if kws.isEmpty then decide (perm = List.range sg.ps.length) && (xs.length == sg.ps.length) else (kws.all kwNamed) && sg.kws.contains (xs.length, kws.filterMap kwName, perm)) = true)
    (hm : perm.map (fun i => ((listE es)[i]?).bind modeOf) = sg.modes.map some) (hps : sg.ps.length = sg.modes.length) (hn : ((listE es).filterMap lendOf).Nodup) (hpn : perm.Nodup)
    (hR : ∀ F' H' σ H0 v d, (if sg.own = true then (newObj d = true ∧ ∃ a, v = V.ref a ∧ H0 a = none ∧ F' a = none ∧ Ob X.K F' H' a d) else Rp X.K F' v d) → R F' H' σ H0 v d) :
    PE X (.Call (.Name y p) xs kws pos) (tG X.K (callM C f perm (sem C es).as) R) := by
  subst hy
  obtain ⟨k, ad, fd, F, hr, hmg, hk, hb, hkb⟩ := ok.ok
  cases kws with
  | nil =>
    simp only [List.isEmpty_nil, if_true, Bool.and_eq_true, decide_eq_true_eq, beq_iff_eq] at hkw
    obtain ⟨rfl, hxl⟩ := hkw
    rw [List.map_nil, List.append_nil] at hp
    have key : ∀ {σ : L2.St} {H : Hp} {Q : VK}, tG X.K (callM C f (List.range sg.ps.length) (sem C es).as) R σ H Q → tAs X.K C es σ H fun vs H2 => spF X.K C f sg (vs ++ []) H2 Q E0 := fun {σ H Q} h =>
      tAs_mono (call_read hm hps hn hpn (hR · · σ · · ·) h) fun vs H2 ⟨hl, hs⟩ => by
        rw [hp.len, hxl] at hl
        rw [← hl, pick_range] at hs
        rw [List.append_nil]
        exact hs
    cases hp with
    | nil => exact PE.imp (pe_call0 F hr (g.glx hg) hmg hk hb .nil pass0 hd) fun σ H Q h => key h
    | cons h1 h2 h3 => exact PE.imp (pe_call F hr (g.glx hg) hmg hk hb .nil pass0 (PAx.cons h1 h2 h3).pa hd (star_ns h1) h3.star) fun σ H Q h => key h
  | cons kw kws =>
    simp only [List.isEmpty_cons, Bool.false_eq_true, if_false, Bool.and_eq_true] at hkw
    obtain ⟨hall, hcon⟩ := hkw
    have hmem : (xs.length, (kw :: kws).filterMap kwName, perm) ∈ sg.kws := by simpa using hcon
    have hkb' := hkb _ hmem
    obtain ⟨e1, e2, p1, p2, sp⟩ := PAx.split hp
    obtain ⟨k1, k2, k3⟩ := kwEach_some (env := X.env) (pos := pos) hall
    have hkl : ((kw :: kws).filterMap kwName).length = ((kw :: kws).map kwVal).length := by
      have : ∀ {l : List Keyword}, l.all kwNamed = true → (l.filterMap kwName).length = (l.map kwVal).length := by
        intro l
        induction l with
        | nil => intro _; rfl
        | cons a l ih =>
          intro h
          obtain ⟨nm, v, ps⟩ := a
          cases nm with
          | none => cases h
          | some n =>
            show (l.filterMap kwName).length + 1 = (l.map kwVal).length + 1
            rw [ih (by simp only [List.all_cons, Bool.and_eq_true] at h; exact h.2)]
      exact this hall
    have key : ∀ {σ : L2.St} {H : Hp} {Q : VK}, tG X.K (callM C f perm (sem C es).as) R σ H Q → tAs X.K C e1 σ H fun vs H1 => tAs X.K C e2 σ H1 fun zs H2 => vs.length = xs.length ∧ zs.length = ((kw :: kws).filterMap kwName).length ∧ spF X.K C f sg (pick perm (vs ++ zs)) H2 Q E0 := fun {σ H Q} h => by
      have h2 := call_read hm hps hn hpn (hR · · σ · · ·) h
      rw [hp.len, List.length_append] at h2
      rw [hkl]
      exact sp h2
    cases xs with
    | nil =>
      cases p1
      exact PE.imp (pe_callN0 F hr (g.glx hg) hmg hk hkb' pass0 p2.pk k1 k2 hd k3) fun σ H Q h => key h
    | cons x xs =>
      cases p1 with
      | cons h1 h2 h3 =>
        refine PE.imp (pe_callN F hr (g.glx hg) hmg hk hkb' pass0 (PAx.cons h1 h2 h3).pa p2.pk k1 k2 hd (star_ns h1) ?_) fun σ H Q h => key h
        rw [(PAx.cons h1 h2 h3).star, k3]
        rfl
end
end FC

/-! Part 17: every expression does what the evaluator says. -/
namespace FC
open PySem PySem.Spec PyProof.Rows L2
structure PX (Γ : Gam) (C : Calls) (X : Cx) (q : Scp) (e : Ex) : Prop where
  v : ∀ x, (mm Γ e).e q x = true → PE X x (tV X.K C e)
  o : fresh Γ.sigs e = true → ∀ x, (mm Γ e).e q x = true → PE X x (tO X.K C e)
  a : ∀ x, (mm Γ e).e q x = true → PE X x (tA X.K C e)
  t : ∀ x, (mm Γ e).e q x = true → PT X x (tT X.K (sem C e).t)
  as : ∀ xs, (mm Γ e).es q xs = true → PAx X C xs e
  ts : ∀ xs, (mm Γ e).es q xs = true → xs.length ≤ 1 → PTs X xs (tT X.K (sem C e).ts)
  it : ∀ tg x, (mm Γ e).it q x = true → (needTup e = true → ∃ l k p, tg = .Tuple l k p) → PI X tg x (tI X.K (sem C e).it)
theorem PTs.imp {X : Cx} {xs : List Expr} {t t' : TT} (h : PTs X xs t) (i : ∀ σ H Q, t' σ H Q → t σ H Q) : PTs X xs t' := ⟨fun pins s σ H Q I q => h.run pins s σ H Q I (i σ H Q q)⟩
section
variable {Γ : Gam} {C : Calls} {X : Cx} {q : Scp}
/-- for expressions that are not lists nor walked -/
theorem PX.mk' {e : Ex} (hv : ∀ x, (mm Γ e).e q x = true → PE X x (tV X.K C e)) (ho : fresh Γ.sigs e = true → ∀ x, (mm Γ e).e q x = true → PE X x (tO X.K C e)) (ha : ∀ x, (mm Γ e).e q x = true → PE X x (tA X.K C e)) (ht : ∀ x, (mm Γ e).e q x = true → PT X x (tT X.K (sem C e).t))
    (h1 : (mm Γ e).es = fun _ _ => false) (h2 : (mm Γ e).it = fun _ _ => false) : PX Γ C X q e :=
  ⟨hv, ho, ha, ht, fun xs h => (by rw [h1] at h; cases h), fun xs h => (by rw [h1] at h; cases h), fun tg x h => (by rw [h2] at h; cases h)⟩
theorem Gd.blk (g : Gd X Γ q) (s : Shared) (H : Hp) (scope : Scope) (cl : List (Str × Addr)) (c : Addr) (fp : List Addr) : Gd (X.blk s H scope (compEnvC scope cl c X.env) fp) Γ (blkSc q scope) where
  calm := g.calm
  nd := g.nd
  xe := rfl
  un := g.un
  mgb := g.mgb
  N := g.N
  sc := by
    show relS scope X.env.scope = relS scope q.sc
    rw [g.sc]
  fn := rfl
  gv := g.gv
theorem folded_of {iter : Expr} (h : noSet iter = true) (env : Env) (x : Value) : foldedSetIterable iter env x = pure x := by
  cases iter <;> first | rfl | (cases h; done)
theorem call_e {f : Nat} {perm : List Nat} {es : Ex} {x : Expr} (h : (mm Γ (.call f perm es)).e q x = true) : ∃ y p xs kws pos sg, x = .Call (.Name y p) xs kws pos ∧ Γ.sigs[f]? = some sg ∧ sg.name = y ∧ gl q y = true ∧ (y == ("__debug__" : Str)) = false ∧ (mm Γ es).es q (xs ++ kws.map kwVal) = true ∧
    (if kws.isEmpty then decide (perm = List.range sg.ps.length) && (xs.length == sg.ps.length) else (kws.all kwNamed) && sg.kws.contains (xs.length, kws.filterMap kwName, perm)) = true ∧
    perm.map (fun i => ((listE es)[i]?).bind modeOf) = sg.modes.map some ∧ sg.ps.length = sg.modes.length ∧ ((listE es).filterMap lendOf).Nodup ∧ perm.Nodup := by
  simp only [mm] at h
  split at h
  · rename_i y p xs kws pos
    split at h
    · rename_i sg es'
      simp only [Bool.and_eq_true, beq_iff_eq, Bool.not_eq_true', decide_eq_true_eq] at h
      obtain ⟨⟨⟨⟨⟨⟨⟨⟨h1, h2⟩, h3⟩, h4⟩, h5⟩, h6⟩, h7⟩, h8⟩, h9⟩ := h
      exact ⟨y, p, xs, kws, pos, sg, rfl, es', h1, h2, h3, h4, h5, h6, h7, h8, h9⟩
    · cases h
  · cases h
theorem ex_ok : ∀ (e : Ex) (X : Cx) (q : Scp), Gd X Γ q → (∀ f sg, Γ.sigs[f]? = some sg → CallOk X C f sg) → PX Γ C X q e := by
  intro e
  induction e with
  | con d =>
    intro X q g cs
    have hv : ∀ x, (mm Γ (.con d)).e q x = true → PE X x (tV X.K C (.con d)) := fun x h => pe_con h
    exact PX.mk' hv (fun h => by cases h) (fun x h => pe_vl (hv x h)) (fun x h => pt_of (con_plain h) (hv x h)) rfl rfl
  | glob y d =>
    intro X q g cs
    have hv : ∀ x, (mm Γ (.glob y d)).e q x = true → PE X x (tV X.K C (.glob y d)) := fun x h => (pe_glob_ g h).2
    exact PX.mk' hv (fun h => by cases h) (fun x h => pe_vl (hv x h)) (fun x h => pt_of (pe_glob_ (C := C) g h).1 (hv x h)) rfl rfl
  | var i =>
    intro X q g cs
    have hv : ∀ x, (mm Γ (.var i)).e q x = true → PE X x (tV X.K C (.var i)) := fun x h => pe_var_ g h
    refine PX.mk' hv (fun h => by cases h) (fun x h => pe_vl (hv x h)) (fun x h => pt_of ?_ (hv x h)) rfl rfl
    obtain ⟨⟨y, p, rfl⟩, _⟩ := vis_of g h
    rfl
  | pk i =>
    intro X q g cs
    exact PX.mk' (fun x h => PE.fails) (fun h => by cases h) (fun x h => pe_arSlot g (.inl rfl) h) (fun x h => pt_pk_ g h) rfl rfl
  | lend i =>
    intro X q g cs
    exact PX.mk' (fun x h => PE.fails) (fun h => by cases h) (fun x h => pe_arSlot g (.inr rfl) h) (fun x h => PT.fails) rfl rfl
  | give e ih =>
    intro X q g cs
    refine PX.mk' (fun x h => PE.fails) (fun h => by cases h) (fun x h => ?_) (fun x h => PT.fails) rfl rfl
    have h : (fresh Γ.sigs e && (mm Γ e).e q x) = true := h
    rw [Bool.and_eq_true] at h
    exact pe_ow ((ih X q g cs).o h.1 x h.2)
  | op o es ih =>
    intro X q g cs
    have get : ∀ x, (mm Γ (.op o es)).e q x = true → ∃ xs, opArgs q o x = some xs ∧ PAx X C xs es := fun x h => by
      simp only [mm] at h
      split at h
      · rename_i xs hx
        exact ⟨xs, hx, (ih X q g cs).as xs h⟩
      · cases h
    refine PX.mk' (fun x h => ?_) (fun hf x h => ?_) (fun x h => ?_) (fun x h => ?_) rfl rfl
    · obtain ⟨xs, h1, h2⟩ := get x h
      exact pe_opV g h1 h2
    · obtain ⟨xs, h1, h2⟩ := get x h
      exact pe_opO g h1 h2 hf
    · obtain ⟨xs, h1, h2⟩ := get x h
      exact pe_vl (pe_opV g h1 h2)
    · obtain ⟨xs, h1, h2⟩ := get x h
      exact op_t g h1 h2
  | not a ih =>
    intro X q g cs
    have get : ∀ x, (mm Γ (.not a)).e q x = true → ∃ y p, x = .UnaryOp .Not y p ∧ (mm Γ a).e q y = true := fun x h => by
      simp only [mm] at h
      split at h
      · exact ⟨_, _, rfl, h⟩
      · cases h
    have hv : ∀ x, (mm Γ (.not a)).e q x = true → PE X x (tV X.K C (.not a)) := fun x h => by
      obtain ⟨y, p, rfl, h1⟩ := get x h
      exact pe_not_ ((ih X q g cs).v y h1)
    refine PX.mk' hv (fun h => by cases h) (fun x h => pe_vl (hv x h)) (fun x h => ?_) rfl rfl
    obtain ⟨y, p, rfl, h1⟩ := get x h
    exact pt_not_ ((ih X q g cs).t y h1)
  | and a b iha ihb =>
    intro X q g cs
    have get : ∀ x, (mm Γ (.and a b)).e q x = true → ∃ y z rest p, x = .BoolOp .And (y :: z :: rest) p ∧ (mm Γ a).e q y = true ∧ ((rest = [] ∧ (mm Γ b).e q z = true) ∨ (mm Γ b).e q (.BoolOp .And (z :: rest) p) = true) := fun x h => by
      simp only [mm] at h
      split at h
      · rw [Bool.and_eq_true] at h
        exact ⟨_, _, [], _, rfl, h.1, .inl ⟨rfl, h.2⟩⟩
      · rw [Bool.and_eq_true] at h
        exact ⟨_, _, _, _, rfl, h.1, .inr h.2⟩
      · cases h
    have hv : ∀ x, (mm Γ (.and a b)).e q x = true → PE X x (tV X.K C (.and a b)) := fun x h => by
      obtain ⟨y, z, rest, p, rfl, h1, h2⟩ := get x h
      refine pe_and_ ((iha X q g cs).v y h1) ?_
      rcases h2 with ⟨rfl, h2⟩ | h2
      · exact pe_one ((ihb X q g cs).v z h2)
      · exact (ihb X q g cs).v _ h2
    refine PX.mk' hv (fun h => by cases h) (fun x h => pe_vl (hv x h)) (fun x h => ?_) rfl rfl
    obtain ⟨y, z, rest, p, rfl, h1, h2⟩ := get x h
    refine pt_and_ ((iha X q g cs).t y h1) ?_
    rcases h2 with ⟨rfl, h2⟩ | h2
    · exact pw_and1 ((ihb X q g cs).t z h2)
    · exact pw_of ((ihb X q g cs).t _ h2)
  | or a b iha ihb =>
    intro X q g cs
    have get : ∀ x, (mm Γ (.or a b)).e q x = true → ∃ y z rest p, x = .BoolOp .Or (y :: z :: rest) p ∧ (mm Γ a).e q y = true ∧ ((rest = [] ∧ (mm Γ b).e q z = true) ∨ (mm Γ b).e q (.BoolOp .Or (z :: rest) p) = true) := fun x h => by
      simp only [mm] at h
      split at h
      · rw [Bool.and_eq_true] at h
        exact ⟨_, _, [], _, rfl, h.1, .inl ⟨rfl, h.2⟩⟩
      · rw [Bool.and_eq_true] at h
        exact ⟨_, _, _, _, rfl, h.1, .inr h.2⟩
      · cases h
    have hv : ∀ x, (mm Γ (.or a b)).e q x = true → PE X x (tV X.K C (.or a b)) := fun x h => by
      obtain ⟨y, z, rest, p, rfl, h1, h2⟩ := get x h
      refine pe_or_ ((iha X q g cs).v y h1) ?_
      rcases h2 with ⟨rfl, h2⟩ | h2
      · exact pe_one ((ihb X q g cs).v z h2)
      · exact (ihb X q g cs).v _ h2
    refine PX.mk' hv (fun hf x h => ?_) (fun x h => pe_vl (hv x h)) (fun x h => ?_) rfl rfl
    · have hf : (fresh Γ.sigs a && fresh Γ.sigs b) = true := hf
      rw [Bool.and_eq_true] at hf
      obtain ⟨y, z, rest, p, rfl, h1, h2⟩ := get x h
      refine pe_orO ((iha X q g cs).o hf.1 y h1) ?_
      rcases h2 with ⟨rfl, h2⟩ | h2
      · exact pe_one ((ihb X q g cs).o hf.2 z h2)
      · exact (ihb X q g cs).o hf.2 _ h2
    · obtain ⟨y, z, rest, p, rfl, h1, h2⟩ := get x h
      refine pt_or_ ((iha X q g cs).t y h1) ?_
      rcases h2 with ⟨rfl, h2⟩ | h2
      · exact pw_or1 ((ihb X q g cs).t z h2)
      · exact pw_of ((ihb X q g cs).t _ h2)
  | chain o o' a b c iha ihb ihc =>
    intro X q g cs
    have get : ∀ x, (mm Γ (.chain o o' a b c)).e q x = true → ∃ y z w c1 c2 p, x = .Compare y [c1, c2] [z, w] p ∧ copOf o = some c1 ∧ copOf o' = some c2 ∧ (mm Γ a).e q y = true ∧ (mm Γ b).e q z = true ∧ (mm Γ c).e q w = true := fun x h => by
      simp only [mm] at h
      split at h
      · simp only [Bool.and_eq_true, beq_iff_eq] at h
        obtain ⟨⟨⟨⟨h1, h2⟩, h3⟩, h4⟩, h5⟩ := h
        exact ⟨_, _, _, _, _, _, rfl, h1, h2, h3, h4, h5⟩
      · cases h
    have hv : ∀ x, (mm Γ (.chain o o' a b c)).e q x = true → PE X x (tV X.K C (.chain o o' a b c)) := fun x h => by
      obtain ⟨y, z, w, c1, c2, p, rfl, h1, h2, h3, h4, h5⟩ := get x h
      exact pe_chain_ h1 h2 ((iha X q g cs).v _ h3) ((ihb X q g cs).v _ h4) ((ihc X q g cs).v _ h5)
    refine PX.mk' hv (fun h => by cases h) (fun x h => pe_vl (hv x h)) (fun x h => ?_) rfl rfl
    obtain ⟨y, z, w, c1, c2, p, rfl, h1, h2, h3, h4, h5⟩ := get x h
    exact pt_chain_ h1 h2 ((iha X q g cs).v _ h3) ((ihb X q g cs).v _ h4) ((ihc X q g cs).v _ h5)
  | ife c a b ihc iha ihb =>
    intro X q g cs
    have hv : ∀ x, (mm Γ (.ife c a b)).e q x = true → PE X x (tV X.K C (.ife c a b)) := fun x h => by
      simp only [mm] at h
      split at h
      · simp only [Bool.and_eq_true] at h
        exact pe_ife_ ((ihc X q g cs).t _ h.1.1) ((iha X q g cs).v _ h.1.2) ((ihb X q g cs).v _ h.2)
      · cases h
    exact PX.mk' hv (fun h => by cases h) (fun x h => pe_vl (hv x h)) (fun x h => PT.fails) rfl rfl
  | tup es ih =>
    intro X q g cs
    have get : ∀ x, (mm Γ (.tup es)).e q x = true → ∃ xs k p, x = .Tuple xs k p ∧ PAx X C xs es := fun x h => by
      simp only [mm] at h
      split at h
      · exact ⟨_, _, _, rfl, (ih X q g cs).as _ h⟩
      · cases h
    have hv : ∀ x, (mm Γ (.tup es)).e q x = true → PE X x (tV X.K C (.tup es)) := fun x h => by
      obtain ⟨xs, k, p, rfl, hp⟩ := get x h
      exact pe_tup_ hp
    refine PX.mk' hv (fun h => by cases h) (fun x h => pe_vl (hv x h)) (fun x h => pt_of ?_ (hv x h)) rfl rfl
    obtain ⟨xs, k, p, rfl, hp⟩ := get x h
    rfl
  | lst es ih =>
    intro X q g cs
    have get : ∀ x, (mm Γ (.lst es)).e q x = true → ∃ xs p, x = .List xs p ∧ PAx X C xs es := fun x h => by
      simp only [mm] at h
      split at h
      · exact ⟨_, _, rfl, (ih X q g cs).as _ h⟩
      · cases h
    have ho : ∀ x, (mm Γ (.lst es)).e q x = true → PE X x (tO X.K C (.lst es)) := fun x h => by
      obtain ⟨xs, p, rfl, hp⟩ := get x h
      exact pe_lstO hp
    refine PX.mk' (fun x h => pe_frz (ho x h)) (fun _ => ho) (fun x h => pe_vl (pe_frz (ho x h))) (fun x h => pt_of ?_ (pe_frz (ho x h))) rfl rfl
    obtain ⟨xs, p, rfl, hp⟩ := get x h
    rfl
  | dct0 =>
    intro X q g cs
    have get : ∀ x, (mm Γ (.dct0)).e q x = true → ∃ p, x = .Dict [] [] p := fun x h => by
      simp only [mm] at h
      split at h
      · exact ⟨_, rfl⟩
      · cases h
    have ho : ∀ x, (mm Γ (.dct0)).e q x = true → PE X x (tO X.K C .dct0) := fun x h => by
      obtain ⟨p, rfl⟩ := get x h
      exact pe_dct0O
    refine PX.mk' (fun x h => pe_frz (ho x h)) (fun _ => ho) (fun x h => pe_vl (pe_frz (ho x h))) (fun x h => pt_of ?_ (pe_frz (ho x h))) rfl rfl
    obtain ⟨p, rfl⟩ := get x h
    rfl
  | dct1 k v ihk ihv =>
    intro X q g cs
    have get : ∀ x, (mm Γ (.dct1 k v)).e q x = true → ∃ y z p, x = .Dict [some y] [z] p ∧ (mm Γ k).e q y = true ∧ (mm Γ v).e q z = true := fun x h => by
      simp only [mm] at h
      split at h
      · simp only [Bool.and_eq_true] at h
        exact ⟨_, _, _, rfl, h.1, h.2⟩
      · cases h
    have ho : ∀ x, (mm Γ (.dct1 k v)).e q x = true → PE X x (tO X.K C (.dct1 k v)) := fun x h => by
      obtain ⟨y, z, p, rfl, h1, h2⟩ := get x h
      exact pe_dct1O ((ihk X q g cs).v _ h1) ((ihv X q g cs).v _ h2)
    refine PX.mk' (fun x h => pe_frz (ho x h)) (fun _ => ho) (fun x h => pe_vl (pe_frz (ho x h))) (fun x h => pt_of ?_ (pe_frz (ho x h))) rfl rfl
    obtain ⟨y, z, p, rfl, _⟩ := get x h
    rfl
  | call f perm es ih =>
    intro X q g cs
    have hv : ∀ x, (mm Γ (.call f perm es)).e q x = true → PE X x (tV X.K C (.call f perm es)) := fun x h => by
      obtain ⟨y, p, xs, kws, pos, sg, rfl, h0, h1, h2, h3, h4, h5, h6, h7, h8, h9⟩ := call_e h
      cases ho : sg.own with
      | false =>
        refine pe_call_ g (cs f sg h0) h1 h2 h3 ((ih X q g cs).as _ h4) h5 h6 h7 h8 h9 fun F' H' σ H0 v d hq => ?_
        rw [ho, if_neg Bool.false_ne_true] at hq
        exact hq
      | true =>
        refine pe_frz (pe_call_ g (cs f sg h0) h1 h2 h3 ((ih X q g cs).as _ h4) h5 h6 h7 h8 h9 fun F' H' σ H0 v d hq => ?_)
        rw [ho, if_pos rfl] at hq
        show Raw X.K F' H' H0 v d
        unfold Raw
        rw [if_pos hq.1]
        exact hq.2
    refine PX.mk' hv (fun hf x h => ?_) (fun x h => pe_vl (hv x h)) (fun x h => pt_of ?_ (hv x h)) rfl rfl
    · obtain ⟨y, p, xs, kws, pos, sg, rfl, h0, h1, h2, h3, h4, h5, h6, h7, h8, h9⟩ := call_e h
      have ho : sg.own = true := by
        have hf : (match Γ.sigs[f]? with | some s => s.own | none => false) = true := hf
        rw [h0] at hf
        exact hf
      refine pe_call_ g (cs f sg h0) h1 h2 h3 ((ih X q g cs).as _ h4) h5 h6 h7 h8 h9 fun F' H' σ H0 v d hq => ?_
      rw [ho, if_pos rfl] at hq
      show Raw X.K F' H' H0 v d
      unfold Raw
      rw [if_pos hq.1]
      exact hq.2
    · obtain ⟨y, p, xs, kws, pos, sg, rfl, _⟩ := call_e h
      rfl
  | mt m o es iho ihe =>
    intro X q g cs
    have get : ∀ x, (mm Γ (.mt m o es)).e q x = true → plainT x = true ∧ PE X x (tV X.K C (.mt m o es)) := fun x h => by
      simp only [mm] at h
      split at h
      · simp only [Bool.and_eq_true, beq_iff_eq, Bool.or_eq_true] at h
        obtain ⟨⟨⟨⟨⟨h1, h3⟩, h4⟩, h5⟩, h6⟩, h7⟩ := h
        refine ⟨rfl, ?_⟩
        cases m with
        | endswith => exact pe_mt_ g h1 (.inl rfl) ((iho X q g cs).a _ h3) h4 (by simpa using h5) ((ihe X q g cs).as _ h6) h7
        | index => exact pe_mt_ g h1 (.inr rfl) ((iho X q g cs).a _ h3) h4 (by simpa using h5) ((ihe X q g cs).as _ h6) h7
        | get1 => subst h1; exact pe_get1_ g ((iho X q g cs).a _ h3) h4 (by simpa using h5) ((ihe X q g cs).as _ h6) h7
        | get2 => subst h1; exact pe_get2_ g ((iho X q g cs).a _ h3) h4 (by simpa using h5) ((ihe X q g cs).as _ h6) h7
      · cases h
    exact PX.mk' (fun x h => (get x h).2) (fun h => by cases h) (fun x h => pe_vl (get x h).2) (fun x h => pt_of (get x h).1 (get x h).2) rfl rfl
  | sl2 a lo hi iha ihl ihh =>
    intro X q g cs
    have get : ∀ x, (mm Γ (.sl2 a lo hi)).e q x = true → plainT x = true ∧ PE X x (tO X.K C (.sl2 a lo hi)) := fun x h => by
      simp only [mm] at h
      split at h
      · simp only [Bool.and_eq_true] at h
        exact ⟨rfl, pe_sl2O ((iha X q g cs).a _ h.1.1) ((ihl X q g cs).v _ h.1.2) ((ihh X q g cs).v _ h.2)⟩
      · cases h
    exact PX.mk' (fun x h => pe_frz (get x h).2) (fun _ x h => (get x h).2) (fun x h => pe_vl (pe_frz (get x h).2)) (fun x h => pt_of (get x h).1 (pe_frz (get x h).2)) rfl rfl
  | mu m i es ih =>
    intro X q g cs
    have get : ∀ x, (mm Γ (.mu m i es)).e q x = true → plainT x = true ∧ PE X x (tV X.K C (.mu m i es)) := fun x h => by
      simp only [mm] at h
      split at h
      · simp only [Bool.and_eq_true, beq_iff_eq] at h
        obtain ⟨⟨⟨⟨h1, h2⟩, h3⟩, h4⟩, h5⟩ := h
        exact ⟨rfl, pe_mu_ g h1 h2 (by simpa using h3) ((ih X q g cs).as _ h4) h5⟩
      · cases h
    exact PX.mk' (fun x h => (get x h).2) (fun h => by cases h) (fun x h => pe_vl (get x h).2) (fun x h => pt_of (get x h).1 (get x h).2) rfl rfl
  | comp e t it ifs ihe ihi ihf =>
    intro X q g cs
    have get : ∀ x, (mm Γ (.comp e t it ifs)).e q x = true → plainT x = true ∧ PE X x (tO X.K C (.comp e t it ifs)) := fun x h => by
      simp only [mm] at h
      split at h
      · rename_i elt tg iter cs' k scope pos
        simp only [Bool.and_eq_true, beq_iff_eq, decide_eq_true_eq, Bool.or_eq_true, Bool.not_eq_true'] at h
        obtain ⟨⟨⟨⟨⟨⟨⟨⟨⟨h1, h2⟩, h3⟩, h4⟩, h5⟩, h6⟩, h7⟩, h8⟩, h9⟩, h10⟩ := h
        subst h1
        refine ⟨rfl, ?_⟩
        have hit : PI X tg iter (tI X.K (sem C it).it) := (ihi X q g cs).it tg iter h4 fun hn => by
          rcases h3 with h3 | h3
          · rw [h3] at hn; cases hn
          · cases t with
            | nm i => cases h3
            | tp is =>
              unfold mTg at h5
              split at h5
              · rename_i heq; cases heq
              · exact ⟨_, _, _, rfl⟩
              · cases h5
        have ok : BlkOk X.N X.env.scope scope (t.slots.filterMap fun i => (Γ.N[i]?).map fun n => (n, i)) := by
          rw [g.N, g.sc]
          exact blkOk_by h6
        have hp := pe_lc (te := tV X.K C e) (tt := tT X.K (sem C ifs).ts) (g := gTg X.K t) (pos := pos) g.calm g.nd hit ok
          (fun s H c cl fp => pg_tg (g.blk s H scope cl c fp) h5)
          (fun s H c cl fp => (ihf _ _ (g.blk s H scope cl c fp) fun f sg hs => ⟨(cs f sg hs).ok⟩).ts _ h9 h10)
          (fun s H c cl fp => (ihe _ _ (g.blk s H scope cl c fp) fun f sg hs => ⟨(cs f sg hs).ok⟩).v _ h8)
          (folded_of h2 X.env)
        rw [h7] at hp
        exact PE.imp hp fun σ H Q hq => comp_read hq
      · cases h
    exact PX.mk' (fun x h => pe_frz (get x h).2) (fun _ x h => (get x h).2) (fun x h => pe_vl (pe_frz (get x h).2)) (fun x h => pt_of (get x h).1 (pe_frz (get x h).2)) rfl rfl
  | dcomp ke ve t it ifs ihk ihe ihi ihf =>
    intro X q g cs
    have get : ∀ x, (mm Γ (.dcomp ke ve t it ifs)).e q x = true → plainT x = true ∧ PE X x (tO X.K C (.dcomp ke ve t it ifs)) := fun x h => by
      simp only [mm] at h
      split at h
      · rename_i kx vx tg iter cs' k scope pos
        simp only [Bool.and_eq_true, beq_iff_eq, decide_eq_true_eq, Bool.or_eq_true, Bool.not_eq_true'] at h
        obtain ⟨⟨⟨⟨⟨⟨⟨⟨⟨⟨h1, h2⟩, h3⟩, h4⟩, h5⟩, h6⟩, h7⟩, h8k⟩, h8⟩, h9⟩, h10⟩ := h
        subst h1
        refine ⟨rfl, ?_⟩
        have hit : PI X tg iter (tI X.K (sem C it).it) := (ihi X q g cs).it tg iter h4 fun hn => by
          rcases h3 with h3 | h3
          · rw [h3] at hn; cases hn
          · cases t with
            | nm i => cases h3
            | tp is =>
              unfold mTg at h5
              split at h5
              · rename_i heq; cases heq
              · exact ⟨_, _, _, rfl⟩
              · cases h5
        have ok : BlkOk X.N X.env.scope scope (t.slots.filterMap fun i => (Γ.N[i]?).map fun n => (n, i)) := by
          rw [g.N, g.sc]
          exact blkOk_by h6
        have hp := pe_dc (tk := tV X.K C ke) (tv := tV X.K C ve) (tt := tT X.K (sem C ifs).ts) (g := gTg X.K t) (pos := pos) g.calm g.nd hit ok
          (fun s H c cl fp => pg_tg (g.blk s H scope cl c fp) h5)
          (fun s H c cl fp => (ihf _ _ (g.blk s H scope cl c fp) fun f sg hs => ⟨(cs f sg hs).ok⟩).ts _ h9 h10)
          (fun s H c cl fp => (ihk _ _ (g.blk s H scope cl c fp) fun f sg hs => ⟨(cs f sg hs).ok⟩).v _ h8k)
          (fun s H c cl fp => (ihe _ _ (g.blk s H scope cl c fp) fun f sg hs => ⟨(cs f sg hs).ok⟩).v _ h8)
          (folded_of h2 X.env)
        rw [h7] at hp
        exact PE.imp hp fun σ H Q hq => dcomp_read hq
      · cases h
    exact PX.mk' (fun x h => pe_frz (get x h).2) (fun _ x h => (get x h).2) (fun x h => pe_vl (pe_frz (get x h).2)) (fun x h => pt_of (get x h).1 (pe_frz (get x h).2)) rfl rfl
  | comp2 e t it ifs t1 it1 ifs1 ihe ihi ihf ihi1 ihf1 =>
    intro X q g cs
    have get : ∀ x, (mm Γ (.comp2 e t it ifs t1 it1 ifs1)).e q x = true → plainT x = true ∧ PE X x (tO X.K C (.comp2 e t it ifs t1 it1 ifs1)) := fun x h => by
      simp only [mm] at h
      split at h
      · rename_i elt tg iter cs' k tg1 iter1 cs1 k1 scope pos
        simp only [Bool.and_eq_true, beq_iff_eq, decide_eq_true_eq, Bool.or_eq_true, Bool.not_eq_true'] at h
        obtain ⟨⟨⟨⟨⟨⟨⟨⟨⟨⟨⟨⟨⟨⟨⟨⟨h1, h1'⟩, h2⟩, h2'⟩, h3⟩, h3'⟩, h4⟩, h4'⟩, h5⟩, h5'⟩, h6⟩, h7⟩, h8⟩, h9⟩, h10⟩, h9'⟩, h10'⟩ := h
        subst h1 h1'
        refine ⟨rfl, ?_⟩
        have tup : ∀ {t : Tg} {tg : Expr} {it : Ex} {q : Scp}, (needTup it = false ∨ isTup t = true) → mTg Γ q t tg = true → needTup it = true → ∃ l k p, tg = .Tuple l k p := fun {t tg it q} h3 h5 hn => by
          rcases h3 with h3 | h3
          · rw [h3] at hn; cases hn
          · cases t with
            | nm i => cases h3
            | tp is =>
              unfold mTg at h5
              split at h5
              · rename_i heq; cases heq
              · exact ⟨_, _, _, rfl⟩
              · cases h5
        have hit : PI X tg iter (tI X.K (sem C it).it) := (ihi X q g cs).it tg iter h4 (tup h3 h5)
        have ok : BlkOk X.N X.env.scope scope ((t.slots ++ t1.slots).filterMap fun i => (Γ.N[i]?).map fun n => (n, i)) := by
          rw [g.N, g.sc]
          exact blkOk_by h6
        have hp := pe_lc2 (te := tV X.K C e) (tt := tT X.K (sem C ifs).ts) (g := gTg X.K t) (tt1 := tT X.K (sem C ifs1).ts) (g1 := gTg X.K t1) (wi1 := tI X.K (sem C it1).it) (vs1 := t1.slots) (pos := pos) g.calm g.nd hit ok
          (fun i hi => by rw [h7]; exact List.mem_append_right _ hi)
          (fun s H c cl fp => pg_tg (g.blk s H scope cl c fp) h5)
          (fun s H c cl fp => (ihf _ _ (g.blk s H scope cl c fp) fun f sg hs => ⟨(cs f sg hs).ok⟩).ts _ h9 h10)
          (fun s H c cl fp => (ihi1 _ _ (g.blk s H scope cl c fp) fun f sg hs => ⟨(cs f sg hs).ok⟩).it tg1 iter1 h4' (tup h3' h5'))
          (fun s H c cl fp => pg_tg (g.blk s H scope cl c fp) h5')
          (fun s H c cl fp => (ihf1 _ _ (g.blk s H scope cl c fp) fun f sg hs => ⟨(cs f sg hs).ok⟩).ts _ h9' h10')
          (fun s H c cl fp => (ihe _ _ (g.blk s H scope cl c fp) fun f sg hs => ⟨(cs f sg hs).ok⟩).v _ h8)
          (folded_of h2 X.env) (fun env => folded_of h2' env)
        rw [h7] at hp
        exact PE.imp hp fun σ H Q hq => comp2_read hq
      · cases h
    exact PX.mk' (fun x h => pe_frz (get x h).2) (fun _ x h => (get x h).2) (fun x h => pe_vl (pe_frz (get x h).2)) (fun x h => pt_of (get x h).1 (pe_frz (get x h).2)) rfl rfl
  | nev =>
    intro X q g cs
    exact PX.mk' (fun x h => PE.fails) (fun _ x h => PE.fails) (fun x h => PE.fails) (fun x h => PT.fails) rfl rfl
  | nil =>
    intro X q g cs
    refine ⟨fun x h => (by cases h), fun _ x h => (by cases h), fun x h => (by cases h), fun x h => (by cases h), fun xs h => ?_, fun xs h _ => ?_, fun tg x h => (by cases h)⟩
    · have h : xs.isEmpty = true := h
      rw [List.isEmpty_iff.mp h]
      exact .nil
    · have h : xs.isEmpty = true := h
      rw [List.isEmpty_iff.mp h]
      refine PTs.imp pts_nil fun σ H Q hq => ?_
      obtain ⟨s, F, k, s', r, e, kk⟩ := hq
      cases e
      exact kk F H r Ext.refl fun _ z => z
  | cons e es ihe ihs =>
    intro X q g cs
    refine ⟨fun x h => (by cases h), fun _ x h => (by cases h), fun x h => (by cases h), fun x h => (by cases h), fun xs h => ?_, fun xs h hl => ?_, fun tg x h => (by cases h)⟩
    · simp only [mm] at h
      split at h
      · simp only [Bool.and_eq_true] at h
        exact .cons h.1.1 ((ihe X q g cs).a _ h.1.2) ((ihs X q g cs).as _ h.2)
      · cases h
    · simp only [mm] at h
      split at h
      · rename_i x r
        simp only [Bool.and_eq_true] at h
        have hr : r = [] := by
          cases r with
          | nil => rfl
          | cons _ _ => simp at hl
        subst hr
        have hes : es = .nil := by
          have := h.2
          cases es <;> simp only [mm] at this <;> first | (cases this; done) | rfl
        subst hes
        refine PTs.imp (pts_one ((ihe X q g cs).t _ h.1.2)) fun σ H Q hq => ?_
        obtain ⟨s, F, k, s', rr, e0, kk⟩ := hq
        have e0 : bnd (sem C e).t (fun k => if k then (sem C .nil).ts else gives false) s = some (k, s') := e0
        obtain ⟨k1, s1, e1, f1⟩ := bnd_some e0
        cases k1 with
        | true =>
          cases f1
          exact ⟨s, F, _, _, rr, e1, kk⟩
        | false =>
          cases f1
          exact ⟨s, F, _, _, rr, e1, kk⟩
      · cases h
  | itOf e ih =>
    intro X q g cs
    refine ⟨fun x h => (by cases h), fun _ x h => (by cases h), fun x h => (by cases h), fun x h => (by cases h), fun xs h => (by cases h), fun xs h => (by cases h), fun tg x h _ => ?_⟩
    exact pi_of ((ih X q g cs).v x h)
  | itRange es ih =>
    intro X q g cs
    refine ⟨fun x h => (by cases h), fun _ x h => (by cases h), fun x h => (by cases h), fun x h => (by cases h), fun xs h => (by cases h), fun xs h => (by cases h), fun tg x h _ => ?_⟩
    simp only [mm] at h
    split at h
    · simp only [Bool.and_eq_true, beq_iff_eq, Bool.or_eq_true] at h
      obtain ⟨⟨⟨h1, h2⟩, h3⟩, h4⟩ := h
      subst h1
      exact pi_range_ g h2 ((ih X q g cs).as _ h3) h4
    · cases h
  | itEnum e ih =>
    intro X q g cs
    refine ⟨fun x h => (by cases h), fun _ x h => (by cases h), fun x h => (by cases h), fun x h => (by cases h), fun xs h => (by cases h), fun xs h => (by cases h), fun tg x h hn => ?_⟩
    obtain ⟨l, k, p, rfl⟩ := hn rfl
    simp only [mm] at h
    split at h
    · simp only [Bool.and_eq_true, beq_iff_eq] at h
      obtain ⟨⟨⟨h1, h2⟩, h3⟩, h4⟩ := h
      subst h1
      exact pi_enum_ g h2 h3 ((ih X q g cs).v _ h4)
    · cases h
  | itZip es ih =>
    intro X q g cs
    refine ⟨fun x h => (by cases h), fun _ x h => (by cases h), fun x h => (by cases h), fun x h => (by cases h), fun xs h => (by cases h), fun xs h => (by cases h), fun tg x h hn => ?_⟩
    obtain ⟨l, k, p, rfl⟩ := hn rfl
    simp only [mm] at h
    split at h
    · simp only [Bool.and_eq_true, beq_iff_eq] at h
      obtain ⟨⟨h1, h2⟩, h3⟩ := h
      subst h1
      exact pi_zip_ g h2 ((ih X q g cs).as _ h3)
    · cases h
  | itVals e ih =>
    intro X q g cs
    refine ⟨fun x h => (by cases h), fun _ x h => (by cases h), fun x h => (by cases h), fun x h => (by cases h), fun xs h => (by cases h), fun xs h => (by cases h), fun tg x h _ => ?_⟩
    simp only [mm] at h
    split at h
    · simp only [Bool.and_eq_true, beq_iff_eq] at h
      obtain ⟨⟨⟨h1, h2⟩, h3⟩, h4⟩ := h
      subst h1
      exact pi_vals_ g ((ih X q g cs).v _ h4) h2 (by simpa using h3)
    · cases h
  | itItems e ih =>
    intro X q g cs
    refine ⟨fun x h => (by cases h), fun _ x h => (by cases h), fun x h => (by cases h), fun x h => (by cases h), fun xs h => (by cases h), fun xs h => (by cases h), fun tg x h hn => ?_⟩
    obtain ⟨l, k, p, rfl⟩ := hn rfl
    simp only [mm] at h
    split at h
    · simp only [Bool.and_eq_true, beq_iff_eq] at h
      obtain ⟨⟨⟨h1, h2⟩, h3⟩, h4⟩ := h
      subst h1
      exact pi_items_ g ((ih X q g cs).v _ h4) h2 (by simpa using h3)
    · cases h
end
end FC

/-! Part 18: statements: their readings. -/
namespace FC
open PySem PySem.Spec PyProof.Rows L2

/-- what a way out promises of the value -/
def FlR (K : PySem.W.Frag) (F' H' : Hp) (σ' : L2.St) (s' : S) (σ : L2.St) (s : S) (H : Hp) (v : V) : Fl → Prop
  | .rt false d => Rp K F' v d
  | .rt true d => newObj d = true ∧ ∃ a, v = V.ref a ∧ F' a = none ∧ Ob K F' H' a d ∧ ¬ Ad σ' s' a ∧ (Ad σ s a ∨ H a = none)
  | _ => True
def EndAt (D : Ends) (σ' : L2.St) (H' : Hp) (v : V) : Fl → Prop
  | .nx => D.nx σ' H'
  | .bk => D.bk σ' H'
  | .ct => D.ct σ' H'
  | .rt _ _ => D.rt v H'
structure Aft (K : PySem.W.Frag) (L : Nat → Bool) (F H : Hp) (σ : L2.St) (s : S) (F' H' : Hp) (σ' : L2.St) (s' : S) : Prop where
  rs : Rs K F' H' σ' s'
  ex : Ext (Ad σ s) F H F' H'
  ad : ∀ a, Ad σ' s' a → Ad σ s a ∨ H a = none
  lk : ∀ i, L i = true → σ'[i]? = σ[i]?
def tS (K : PySem.W.Frag) (L : Nat → Bool) (m : M Fl) : TS := fun D σ H =>
  ∃ (s : S) (F : Hp) (fl : Fl) (s' : S), Rs K F H σ s ∧ m s = some (fl, s') ∧
    ∀ (v : V) (σ' : L2.St) (F' H' : Hp), Aft K L F H σ s F' H' σ' s' → FlR K F' H' σ' s' σ s H v fl → EndAt D σ' H' v fl
section
variable {K : PySem.W.Frag} {L : Nat → Bool} {F H F' H' F1 H1 : Hp} {σ σ' σ1 : L2.St} {s s' s1 : S}
theorem none_back (x : Ext (Ad σ s) F H F1 H1) {a : Addr} (h : H1 a = none) : H a = none := by
  cases e : H a with
  | none => rfl
  | some o => exact absurd h (x.t a (by rw [e]; intro z; cases z))
theorem Aft.refl (r : Rs K F H σ s) : Aft K L F H σ s F H σ s := ⟨r, Ext.refl, fun _ z => .inl z, fun _ _ => rfl⟩
theorem Aft.of (r : Rs K F' H' σ s') (x : Ext (Ad σ s) F H F' H') (sub : ∀ a, Ad σ s' a → Ad σ s a) : Aft K L F H σ s F' H' σ s' := ⟨r, x, fun a z => .inl (sub a z), fun _ _ => rfl⟩
theorem Aft.trans (h : Aft K L F H σ s F1 H1 σ1 s1) (h' : Aft K L F1 H1 σ1 s1 F' H' σ' s') : Aft K L F H σ s F' H' σ' s' := by
  refine ⟨h'.rs, h.ex.trans h'.ex h.ad, fun a z => ?_, fun i hi => (h'.lk i hi).trans (h.lk i hi)⟩
  rcases h'.ad a z with z | z
  · exact h.ad a z
  · exact .inr (none_back h.ex z)
theorem FlR.back {v : V} {fl : Fl} (h : Aft K L F H σ s F1 H1 σ1 s1) (f : FlR K F' H' σ' s' σ1 s1 H1 v fl) : FlR K F' H' σ' s' σ s H v fl := by
  cases fl with
  | rt o d =>
    cases o with
    | false => exact f
    | true =>
      obtain ⟨hn, a, e, h1, h2, h3, h4⟩ := f
      refine ⟨hn, a, e, h1, h2, h3, ?_⟩
      rcases h4 with z | z
      · exact h.ad a z
      · exact .inr (none_back h.ex z)
  | _ => trivial
end
theorem PS.imp {X : Cx} {e : Stmt} {t t' : TS} (h : PS X e t) (i : ∀ D σ H, t' D σ H → t D σ H) : PS X e t' := ⟨fun pins s σ H D I q => h.run pins s σ H D I (i D σ H q)⟩
theorem PSs.imp {X : Cx} {e : List Stmt} {t t' : TS} (h : PSs X e t) (i : ∀ D σ H, t' D σ H → t D σ H) : PSs X e t' := ⟨fun pins s σ H D I q => h.run pins s σ H D I (i D σ H q)⟩
theorem PS.fails {X : Cx} {e : Stmt} {K : PySem.W.Frag} {L : Nat → Bool} : PS X e (tS K L fails) := ⟨fun pins s σ H Q I h => by
  obtain ⟨_, _, _, _, _, e, _⟩ := h
  cases e⟩
theorem PSs.fails {X : Cx} {e : List Stmt} {K : PySem.W.Frag} {L : Nat → Bool} : PSs X e (tS K L fails) := ⟨fun pins s σ H Q I h => by
  obtain ⟨_, _, _, _, _, e, _⟩ := h
  cases e⟩
section
variable {X : Cx} {L : Nat → Bool} {Γ : Gam} {q : Scp} {C : Calls}
theorem pss_seq {st : Stmt} {rest : List Stmt} {a b : M Fl} (h1 : PS X st (tS X.K L a)) (h2 : PSs X rest (tS X.K L b)) :
    PSs X (st :: rest) (tS X.K L (bnd a fun f => match f with
      | .nx => b
      | f => gives f)) := by
  refine PSs.imp (pss_cons h1 h2) fun D σ H hq => ?_
  obtain ⟨s, F, fl, s', r, e, k⟩ := hq
  obtain ⟨f, s1, e1, e2⟩ := bnd_some e
  cases f with
  | nx =>
    refine ⟨s, F, .nx, s1, r, e1, fun v σ1 F1 H1 a1 _ => ?_⟩
    exact ⟨s1, F1, fl, s', a1.rs, e2, fun v σ2 F2 H2 a2 f2 => k v σ2 F2 H2 (a1.trans a2) (f2.back a1)⟩
  | bk =>
    cases e2
    exact ⟨s, F, .bk, s', r, e1, fun v σ1 F1 H1 a1 f1 => k v σ1 F1 H1 a1 f1⟩
  | ct =>
    cases e2
    exact ⟨s, F, .ct, s', r, e1, fun v σ1 F1 H1 a1 f1 => k v σ1 F1 H1 a1 f1⟩
  | rt o d =>
    cases e2
    exact ⟨s, F, .rt o d, s', r, e1, fun v σ1 F1 H1 a1 f1 => k v σ1 F1 H1 a1 f1⟩
theorem ps_ife_ {c : Expr} {a b : List Stmt} {pos : Pos} {mc : M Bool} {ma mb : M Fl} (hc : PT X c (tT X.K mc)) (ha : PSs X a (tS X.K L ma)) (hb : PSs X b (tS X.K L mb)) :
    PS X (.If c a b pos) (tS X.K L (bnd mc fun k => if k then ma else mb)) := by
  refine PS.imp (ps_if hc ha hb) fun D σ H hq => ?_
  obtain ⟨s, F, fl, s', r, e, k⟩ := hq
  obtain ⟨b, s1, e1, e2⟩ := bnd_some e
  refine ⟨s, F, b, s1, r, e1, fun F1 H1 r1 x1 sub1 => ?_⟩
  have a1 : Aft X.K L F H σ s F1 H1 σ s1 := Aft.of r1 x1 sub1
  cases b with
  | true => exact ⟨s1, F1, fl, s', r1, e2, fun v σ2 F2 H2 a2 f2 => k v σ2 F2 H2 (a1.trans a2) (f2.back a1)⟩
  | false => exact ⟨s1, F1, fl, s', r1, e2, fun v σ2 F2 H2 a2 f2 => k v σ2 F2 H2 (a1.trans a2) (f2.back a1)⟩
theorem ps_expr_ {x : Expr} {pos : Pos} {m : M D} (h : PE X x (tG X.K m fun F _ _ _ v d => Rp X.K F v d)) (hs : swapsWith x none pos.line X.env = pure false) :
    PS X (.Expr x pos) (tS X.K L (bnd m fun _ => gives .nx)) := by
  refine PS.imp (ps_expr h hs) fun D σ H hq => ?_
  obtain ⟨s, F, fl, s', r, e, k⟩ := hq
  obtain ⟨d, s1, e1, e2⟩ := bnd_some e
  cases e2
  exact ⟨s, F, d, s', r, e1, fun v F1 H1 r1 x1 sub1 _ => k .non σ F1 H1 (Aft.of r1 x1 sub1) trivial⟩
theorem ps_ret_ {x : Expr} {pos : Pos} {m : M D} (h : PE X x (tG X.K m fun F _ _ _ v d => Rp X.K F v d)) :
    PS X (.Return (some x) pos) (tS X.K L (bnd m fun d => gives (.rt false d))) := by
  refine PS.imp (ps_ret h) fun D σ H hq => ?_
  obtain ⟨s, F, fl, s', r, e, k⟩ := hq
  obtain ⟨d, s1, e1, e2⟩ := bnd_some e
  cases e2
  exact ⟨s, F, d, s', r, e1, fun v F1 H1 r1 x1 sub1 w => k v σ F1 H1 (Aft.of r1 x1 sub1) w⟩
theorem ps_reto_ {x : Expr} {pos : Pos} {m : M D} (h : PE X x (tG X.K m fun F H _ H0 v d => Raw X.K F H H0 v d)) :
    PS X (.Return (some x) pos) (tS X.K L (bnd m fun d => if newObj d then gives (.rt true d) else fails)) := by
  refine PS.imp (ps_ret h) fun D σ H hq => ?_
  obtain ⟨s, F, fl, s', r, e, k⟩ := hq
  obtain ⟨d, s1, e1, e2⟩ := bnd_some e
  split at e2
  · rename_i hn
    cases e2
    refine ⟨s, F, d, s', r, e1, fun v F1 H1 r1 x1 sub1 w => k v σ F1 H1 (Aft.of r1 x1 sub1) ?_⟩
    have w : Raw X.K F1 H1 H v d := w
    unfold Raw at w
    rw [if_pos hn] at w
    obtain ⟨a, e, h0, hf, ob⟩ := w
    exact ⟨hn, a, e, hf, ob, fun z => (Ad.tracked r (sub1 a z)).1 h0, .inr h0⟩
  · cases e2
theorem ps_retn_ {pos : Pos} : PS X (.Return none pos) (tS X.K L (gives (.rt false .none))) := by
  refine PS.imp ps_retN fun D σ H hq => ?_
  obtain ⟨s, F, fl, s', r, e, k⟩ := hq
  cases e
  exact k .non σ F H (Aft.refl r) .non
theorem ps_gives {st : Stmt} {fl : Fl} {t : TS} (h : PS X st t) (ht : ∀ D σ H, EndAt D σ H .non fl → t D σ H) (hf : ∀ o d, fl ≠ .rt o d) : PS X st (tS X.K L (gives fl)) := by
  refine PS.imp h fun D σ H hq => ?_
  obtain ⟨s, F, fl', s', r, e, k⟩ := hq
  cases e
  refine ht D σ H (k .non σ F H (Aft.refl r) ?_)
  cases fl with
  | rt o d => exact absurd rfl (hf o d)
  | _ => trivial
theorem pss_nil_ : PSs X [] (tS X.K L (gives .nx)) := by
  refine PSs.imp pss_nil fun D σ H hq => ?_
  obtain ⟨s, F, fl', s', r, e, k⟩ := hq
  cases e
  exact k .non σ F H (Aft.refl r) trivial
/-- an own slot is handed out -/
theorem ps_retv_ {x : Expr} {pos : Pos} {i : Nat} (g : Gd X Γ q) (h : vis Γ q i x = true) :
    PS X (.Return (some x) pos) (tS X.K L fun s => match s[i]? with
      | some (some (.own d)) => some (.rt true d, s.set i none)
      | _ => none) := by
  refine PS.imp (ps_ret (pe_arSlot g (.inl rfl) h)) fun D σ H hq => ?_
  obtain ⟨s, F, fl, s', r, e, k⟩ := hq
  dsimp only at e
  split at e
  · rename_i d ei
    cases e
    have er : resA s (.pl i) = some d := by simp only [resA, ei]; rfl
    refine ⟨s, F, .pl i, s, r, by simp only [slotA, er], fun v F1 H1 r1 x1 sub1 w => ?_⟩
    have w : σ[i]? = some (some v) := w
    obtain ⟨v', ev, rb⟩ := r1.at_ i _ ei
    rw [w] at ev
    cases ev
    obtain ⟨a, rfl, hf, ob⟩ := rb
    have hi : i < s.length := (List.getElem?_eq_some_iff.mp ei).1
    have gone : ∀ {j : Nat} {b : B}, (s.set i none)[j]? = some (some b) → j ≠ i ∧ s[j]? = some (some b) := fun {j b} ej => by
      by_cases hj : j = i
      · subst hj; rw [List.getElem?_set_self hi] at ej; cases ej
      · rw [List.getElem?_set_ne (Ne.symm hj)] at ej; exact ⟨hj, ej⟩
    have hd : newObj d = true := by
      obtain ⟨o, eo⟩ := ob.has
      cases d <;> first | rfl | exact ob.elim
    refine k _ σ F1 H1 ⟨⟨r1.sub, by rw [List.length_set]; exact r1.len, fun j b ej => r1.at_ j b (gone ej).2, fun j k b c a e1 e2 => r1.dis j k b c a (gone e1).2 (gone e2).2⟩, x1, fun b ⟨j, c, ej, m, ev⟩ => .inl ⟨j, c, (gone ej).2, m, ev⟩, fun _ _ => rfl⟩ ⟨hd, a, rfl, hf, ob, fun ⟨j, c, ej, m, ev⟩ => ?_, .inl ⟨i, _, ei, rfl, w⟩⟩
    exact (gone ej).1 (r1.dis j i c _ a (gone ej).2 ei m rfl ev w)
  · cases e
end
end FC

/-! Part 19: statements: stores and loops. -/
namespace FC
open PySem PySem.Spec PyProof.Rows L2
section
variable {K : PySem.W.Frag} {L : Nat → Bool} {F H F' H' F1 H1 : Hp} {σ σ' σ1 : L2.St} {s s' s1 : S} {D : Ends}
theorem lk_set {i j : Nat} {o : Option V} (hi : L i = false) (hj : L j = true) : (σ.set i o)[j]? = σ[j]? :=
  List.getElem?_set_ne (fun e => by rw [e, hj] at hi; cases hi)
theorem lk_setAll : ∀ {is : List Nat} {vs : List V} {σ : L2.St} {j : Nat}, is.all (fun i => !L i) = true → L j = true → (setAll σ is vs)[j]? = σ[j]?
  | [], _, σ, j, _, _ => by unfold setAll; rfl
  | i :: is, [], σ, j, _, _ => by unfold setAll; rfl
  | i :: is, v :: vs, σ, j, h, hj => by
    rw [List.all_cons, Bool.and_eq_true] at h
    unfold setAll
    rw [lk_setAll h.2 hj]
    exact lk_set (by simpa using h.1) hj
theorem frz_read {m : M FC.D} {Q : VK} (hm : ∀ s d s', m s = some (d, s') → ∃ ys, d = .list ys) (h : tG K m (fun F _ _ _ v d => Rp K F v d) σ H Q) : tG K m (fun F H _ H0 v d => Raw K F H H0 v d) σ H Q := by
  obtain ⟨s, F, d, s', r, e, k⟩ := h
  obtain ⟨ys, rfl⟩ := hm s d s' e
  refine ⟨s, F, _, s', r, e, fun v F' H' r' x' sub w => ?_⟩
  obtain ⟨F'', r2, x2, p⟩ := raw_val r r' x' sub w
  exact k v F'' H' r2 x2 sub p
theorem set_read {m : M FC.D} {i : Nat} (hL : L i = false) (h : tS K L (bnd m fun d s => match putS i (.val d) s with
    | none => none
    | some s' => some (.nx, s')) D σ H) : tAsg (tG K m fun F _ _ _ v d => Rp K F v d) (gName i) D σ H := by
  obtain ⟨s, F, fl, s', r, e, k⟩ := h
  obtain ⟨d, s1, e1, e2⟩ := bnd_some e
  split at e2
  · cases e2
  · rename_i s2 ep
    cases e2
    refine ⟨s, F, d, s1, r, e1, fun v F1 H1 r1 x1 sub1 w => ?_⟩
    obtain ⟨r2, a2⟩ := r1.put ep w
    exact k .non _ F1 H1 ⟨r2, x1, fun a z => .inl (sub1 a (a2 a z)), fun j hj => lk_set hL hj⟩ trivial
theorem seto_read {m : M FC.D} {i : Nat} (hL : L i = false) (h : tS K L (bnd m fun d s => if newObj d then match putS i (.own d) s with
    | none => none
    | some s' => some (.nx, s') else none) D σ H) : tAsg (tG K m fun F H _ H0 v d => Raw K F H H0 v d) (gName i) D σ H := by
  obtain ⟨s, F, fl, s', r, e, k⟩ := h
  obtain ⟨d, s1, e1, e2⟩ := bnd_some e
  split at e2
  · rename_i hn
    split at e2
    · cases e2
    · rename_i s2 ep
      cases e2
      refine ⟨s, F, d, s1, r, e1, fun v F1 H1 r1 x1 sub1 w => ?_⟩
      have w : Raw K F1 H1 H v d := w
      unfold Raw at w
      rw [if_pos hn] at w
      obtain ⟨a, rfl, h0, hf, ob⟩ := w
      obtain ⟨r2, a2⟩ := r1.putO ep hf ob fun z => (Ad.tracked r (sub1 a z)).1 h0
      refine k .non _ F1 H1 ⟨r2, x1, fun c z => ?_, fun j hj => lk_set hL hj⟩ trivial
      rcases a2 c z with z | z
      · exact .inl (sub1 c z)
      · exact .inr (by rw [z]; exact h0)
  · cases e2
theorem unp_read {m : M FC.D} {is : List Nat} (hL : is.all (fun i => !L i) = true) (h : tS K L (bnd m fun d s => match bindT (.tp is) d s with
    | none => none
    | some s' => some (.nx, s')) D σ H) : tAsg (tG K m fun F _ _ _ v d => Rp K F v d) (gTg K (.tp is)) D σ H := by
  obtain ⟨s, F, fl, s', r, e, k⟩ := h
  obtain ⟨d, s1, e1, e2⟩ := bnd_some e
  split at e2
  · cases e2
  · rename_i s2 ep
    cases e2
    refine ⟨s, F, d, s1, r, e1, fun v F1 H1 r1 x1 sub1 w => ?_⟩
    refine bind_read r1 w ep fun σ' r2 a2 hw => k .non _ F1 H1 ⟨r2, x1, fun a z => .inl (sub1 a (a2 a z)), fun j hj => ?_⟩ trivial
    have hj' : j ∉ is := fun z => by
      have := List.all_eq_true.mp hL j z
      rw [hj] at this; cases this
    rw [← wipe_out (σ := σ') (vs := is) hj', show L2.wipe σ' is = L2.wipe σ is from hw, wipe_out hj']
/-- a slot gets what a display hands out -/
theorem Rs.putBs : ∀ {is : List Nat} {l : List Ar} {bs : List B} {vs : List V} {σ : L2.St} {s s1 : S}, Rs K F H σ s → bsOf l = some bs → FC.putAll (is.zip bs) s = some s1 → bs.length = is.length →
    ∀ {H0 : Hp}, ArRs K F H σ1 H0 vs l → (∀ a d, V.ref a ∈ vs → .ow d ∈ l → True) → (∀ (i : Nat) (a : Addr) (d : FC.D), vs[i]? = some (.ref a) → l[i]? = some (.ow d) → ¬ Ad σ s a) →
    Rs K F H (setAll σ is vs) s1 ∧ ∀ a, Ad (setAll σ is vs) s1 a → Ad σ s a ∨ H0 a = none
  | [], [], _, vs, σ, s, s1, r, hb, h, _, H0, ar, _, _ => by
    cases hb
    cases h
    have : vs = [] := List.length_eq_zero_iff.mp ar.len
    subst this
    exact ⟨r, fun _ z => .inl z⟩
  | i :: is, a :: l, bs, vs, σ, s, s1, r, hb, h, hl, H0, ar, ht, na => by
    simp only [bsOf] at hb
    split at hb
    · rename_i b bs' hb1 hb2
      cases hb
      simp only [List.zip_cons_cons, FC.putAll] at h
      cases vs with
      | nil => have := ar.len; simp at this
      | cons v vs =>
        have ar' : ArRs K F H σ1 H0 vs l := ⟨by have := ar.len; simpa using this, fun j w x e1 e2 => ar.at_ (j + 1) w x (by simpa using e1) (by simpa using e2), fun j k a d e h1 h2 h3 h4 => by
          have := ar.dis (j + 1) (k + 1) a d e (by simpa using h1) (by simpa using h2) (by simpa using h3) (by simpa using h4)
          omega⟩
        have a0 := ar.at_ 0 v a rfl rfl
        split at h
        · rename_i s2 e
          unfold setAll
          cases a with
          | pl _ => cases hb1
          | ln _ => cases hb1
          | vl d =>
            cases hb1
            obtain ⟨r2, a2⟩ := r.put e (show Rp K F v d from a0)
            obtain ⟨r3, a3⟩ := Rs.putBs r2 hb2 h (by simpa using hl) ar' (fun _ _ _ _ => trivial) fun j b d e1 e2 z => na (j + 1) b d (by simpa using e1) (by simpa using e2) (a2 b z)
            refine ⟨r3, fun b z => ?_⟩
            rcases a3 b z with z | z
            · exact .inl (a2 b z)
            · exact .inr z
          | ow d =>
            cases hb1
            obtain ⟨hn, p, rfl, h0, hf, ob⟩ := a0
            obtain ⟨r2, a2⟩ := r.putO e hf ob (na 0 p d rfl rfl)
            obtain ⟨r3, a3⟩ := Rs.putBs r2 hb2 h (by simpa using hl) ar' (fun _ _ _ _ => trivial) fun j b d' e1 e2 z => by
              rcases a2 b z with z | z
              · exact na (j + 1) b d' (by simpa using e1) (by simpa using e2) z
              · subst z
                have := ar.dis (j + 1) 0 b d' d (by simpa using e1) (by simpa using e2) rfl rfl
                omega
            refine ⟨r3, fun b z => ?_⟩
            rcases a3 b z with z | z
            · rcases a2 b z with z | z
              · exact .inl z
              · subst z; exact .inr h0
            · exact .inr z
        · cases h
    · cases hb
  | [], a :: l, bs, vs, σ, s, s1, r, hb, h, hl, H0, ar, ht, na => by
    simp only [bsOf] at hb
    split at hb
    · cases hb; simp at hl
    · cases hb
  | i :: is, [], bs, vs, σ, s, s1, r, hb, h, hl, H0, ar, ht, na => by
    cases hb; simp at hl
def parM (C : Calls) (is : List Nat) (es : Ex) : M Fl := bnd (sem C es).as fun l s => match bsOf l with
    | none => none
    | some bs => if bs.length = is.length then match putAll (is.zip bs) s with
      | none => none
      | some s' => some (.nx, s') else none
/-- the displays' items, then the stores -/
theorem par_read {C : Calls} {is : List Nat} {es : Ex} (hL : is.all (fun i => !L i) = true) (h : tS K L (parM C is es) D σ H) :
    tAs K C es σ H fun vs H1 => vs.length = is.length ∧ D.nx (setAll σ is vs) H1 ∧ ∀ p, H1 p = none → D.nx (setAll σ is vs) (upd H1 p (.tup vs)) := by
  obtain ⟨s, F, fl, s', r, e, k⟩ := h
  obtain ⟨l, s1, e1, e2⟩ := bnd_some e
  split at e2
  · cases e2
  · rename_i bs hb
    split at e2
    · rename_i hl
      split at e2
      · cases e2
      · rename_i s2 ep
        cases e2
        refine as_read es r e1 fun vs F1 H1 r1 x1 sub1 ar => ?_
        have nA : ∀ (i : Nat) (a : Addr) (d : FC.D), vs[i]? = some (.ref a) → l[i]? = some (.ow d) → ¬ Ad σ s1 a := fun i a d h1 h2 z => by
          obtain ⟨_, b, e, h0, _⟩ := ar.at_ i _ _ h1 h2
          cases e
          exact (Ad.tracked r (sub1 a z)).1 h0
        have hlen : ∀ {l : List Ar} {bs : List B}, bsOf l = some bs → l.length = bs.length := by
          intro l
          induction l with
          | nil => intro bs h; cases h; rfl
          | cons a l ih =>
            intro bs h
            simp only [bsOf] at h
            split at h
            · rename_i h1 h2
              cases h
              simp [ih h2]
            · cases h
        obtain ⟨r2, a2⟩ := Rs.putBs r1 hb ep hl ar (fun _ _ _ _ => trivial) nA
        have ad : ∀ a, Ad (setAll σ is vs) s' a → Ad σ s a ∨ H a = none := fun a z => by
          rcases a2 a z with z | z
          · exact .inl (sub1 a z)
          · exact .inr z
        refine ⟨by rw [ar.len, hlen hb, hl], k .non _ F1 H1 ⟨r2, x1, ad, fun j hj => lk_setAll hL hj⟩ trivial, fun p hp => ?_⟩
        refine k .non _ F1 _ ⟨r2.ext (ext_new hp) (same_new r2.sub hp), ?_, ad, fun j hj => lk_setAll hL hj⟩ trivial
        exact x1.trans (ext_new (F := F1) (o := .tup vs) hp).none_ fun b z => .inl (sub1 b z)
    · cases e2
def subM (C : Calls) (i : Nat) (k e : Ex) : M Fl := bnd (sem C e).v fun d => bnd (slotA (.ln i)) fun _ => bnd (sem C k).v fun kd s => match resA s (.ln i) with
    | none => none
    | some x => match subD x kd d with
      | none => none
      | some x' => match mutS i x' s with
        | none => none
        | some s' => some (.nx, s')
def rSetD : V → V → V → Hp → (Hp → Prop) → Prop := fun o i v H Q => rSetL o i v H Q ∨ ∃ a H4, o = .ref a ∧ DPut H a i v H4 ∧ Q H4
theorem set_any {X : Cx} (hu : X.A.units + 65 < cLine) : PSet X rSetD := by
  intro pins s σ H o i v ov iv u Q I ro ri rv h
  rcases h with h | ⟨a, H4, rfl, g, q⟩
  · exact set_list pins s σ H o i v ov iv u Q I ro ri rv h
  · cases ro
    exact d_setItem (by omega) I g ri rv fun s' I' => ⟨H4, I', q⟩
theorem slot_readD {K : PySem.W.Frag} {F H : Hp} {σ : L2.St} {s : S} {i : Nat} {xs : List (FC.D × FC.D)} (r : Rs K F H σ s) (e : resA s (.ln i) = some (.dict xs)) : ∃ b a vs, s[i]? = some (some b) ∧ b.mine = true ∧ σ[i]? = some (some (.ref a)) ∧ F a = none ∧ H a = some (.dK vs) ∧ Rpk K F vs xs := by
  obtain ⟨b, eb, m, ed⟩ := ln_some e
  obtain ⟨v, ev, rb⟩ := r.at_ i b eb
  obtain ⟨a, rfl, hf, ob⟩ := rb.mineAt m
  rw [ed] at ob
  obtain ⟨vs, e1, r1⟩ := ob
  exact ⟨b, a, vs, eb, m, ev, hf, e1, r1⟩
theorem sub_read {C : Calls} {i : Nat} {k e : Ex} (h : tS K L (subM C i k e) D σ H) : tAsg (tV K C e) (gSub (tVar i) (tV K C k) rSetD) D σ H := by
  obtain ⟨s, F, fl, s', r, e0, kk⟩ := h
  obtain ⟨d, s1, e1, f1⟩ := bnd_some e0
  obtain ⟨_, s2, e2, f2⟩ := bnd_some f1
  obtain ⟨kd, s3, e3, f3⟩ := bnd_some f2
  split at f3
  · cases f3
  · rename_i x hx
    split at f3
    · cases f3
    · rename_i x' hx'
      split at f3
      · cases f3
      · rename_i s4 hm
        cases f3
        refine ⟨s, F, d, s1, r, e1, fun v F1 H1 r1 x1 sub1 w1 => ?_⟩
        have e2' : s2 = s1 ∧ ∃ y, resA s1 (.ln i) = some y := by
          unfold slotA at e2
          split at e2
          · rename_i y hy
            cases e2
            exact ⟨rfl, y, hy⟩
          · cases e2
        obtain ⟨rfl, y, hy⟩ := e2'
        obtain ⟨b, eb, mb, ed⟩ := ln_some hy
        obtain ⟨u, eu, _⟩ := r1.at_ i b eb
        refine ⟨u, eu, ?_⟩
        refine ⟨s2, F1, kd, s3, r1, e3, fun kv F2 H2 r2 x2 sub2 w2 => ?_⟩
        -- the slot as it is now
        have fin : ∀ (b2 : B) (x2 : FC.D), s3[i]? = some (some b2) → b2.mine = true → mutS i x2 s3 = some s' → s' = s3.set i (some (b2.put x2)) := by
          intro b2 x2 eb2 m2 hm
          unfold mutS at hm
          rw [eb2] at hm
          cases b2 with
          | val _ => cases m2
          | own _ => cases hm; rfl
          | lent _ => cases hm; rfl
        have w1' : Rp K F2 v d := Rp.same x2.f w1
        cases x with
        | list xs =>
          simp only [subD] at hx'
          cases kd <;> simp only [] at hx' <;> try (cases hx'; done)
          rename_i n
          split at hx'
          · rename_i j hj
            cases hx'
            cases w2
            obtain ⟨b2, a, vs, eb2, m2, ev2, hf2, hH2, rp2⟩ := slot_read r2 hx
            have : u = .ref a := by rw [eu] at ev2; cases ev2; rfl
            subst this
            refine .inl ⟨a, vs, n, j, rfl, rfl, hH2, by rw [rp2.length]; exact hj, ?_⟩
            have hm' := fin b2 _ eb2 m2 hm
            subst hm'
            obtain ⟨r3, x3, a3⟩ := r2.mutate (o' := .lst (vs.set j v)) (x' := .list (xs.set j d)) eb2 m2 ev2 ⟨vs.set j v, upd_same, rp2.set w1' j⟩
            refine kk .non σ F2 _ ⟨r3, (x1.trans x2 fun b z => .inl (sub1 b z)).trans x3 fun b z => .inl (sub1 b (sub2 b z)), fun b z => .inl (sub1 b (sub2 b (a3 b z))), fun _ _ => rfl⟩ trivial
          · cases hx'
        | dict xs =>
          simp only [subD] at hx'
          split at hx'
          · rename_i k0 hk0
            split at hx'
            · rename_i hlt
              cases hx'
              obtain ⟨b2, a, vs, eb2, m2, ev2, hf2, hH2, rp2⟩ := slot_readD r2 hx
              have : u = .ref a := by rw [eu] at ev2; cases ev2; rfl
              subst this
              have hm' := fin b2 _ eb2 m2 hm
              subst hm'
              have ekv : kv = kV k0 := key_tr (H := H2) (.inl w2) hk0
              refine .inr ⟨a, _, rfl, by rw [ekv]; exact DPut.k hH2 (by rw [rp2.length]; exact hlt), ?_⟩
              obtain ⟨r3, x3, a3⟩ := r2.mutate (o' := .dK (putK vs k0 v)) (x' := .dict (putD xs k0 d)) eb2 m2 ev2 ⟨putK vs k0 v, upd_same, rpk_put rp2 w1'⟩
              refine kk .non σ F2 _ ⟨r3, (x1.trans x2 fun b z => .inl (sub1 b z)).trans x3 fun b z => .inl (sub1 b (sub2 b z)), fun b z => .inl (sub1 b (sub2 b (a3 b z))), fun _ _ => rfl⟩ trivial
            · cases hx'
          · cases hx'
        | _ => cases hx'
end
end FC

/-! Part 20: statements: in-place operations, loops. -/
namespace FC
open PySem PySem.Spec PyProof.Rows L2
def vOf : D → Option V
  | .int i => some (.int i)
  | .str x => some (.str x)
  | _ => none
def augR (o : Op) : TIp := fun x y H Q => ∃ dx dy d, vOf dx = some x ∧ vOf dy = some y ∧ augD o dx dy = some d ∧ ∀ v, vOf d = some v → Q v H
def augOp : Op → Option Operator
  | .add => some .Add
  | .sub => some .Sub
  | .mul => some .Mult
  | .fdiv => some .FloorDiv
  | .mod => some .Mod
  | _ => none
theorem PIp.imp {X : Cx} {o : Operator} {t t' : TIp} (h : PIp X o t) (i : ∀ x y H Q, t' x y H Q → t x y H Q) : PIp X o t' := fun pins s σ H x y v u Q I r1 r2 q => h pins s σ H x y v u Q I r1 r2 (i x y H Q q)
theorem PIp.or {X : Cx} {o : Operator} {t t' : TIp} (h : PIp X o t) (h' : PIp X o t') : PIp X o (fun x y H Q => t x y H Q ∨ t' x y H Q) := fun pins s σ H x y v u Q I r1 r2 q => q.elim (h pins s σ H x y v u Q I r1 r2) (h' pins s σ H x y v u Q I r1 r2)
theorem pip_aug {X : Cx} {o : Op} {p : Operator} (h : augOp o = some p) : PIp X p (augR o) := by
  have ii : ∀ {o : Op} {dx dy d : D} {x y : V}, vOf dx = some x → vOf dy = some y → augD o dx dy = some d → (∃ i j, dx = .int i ∧ dy = .int j ∧ x = .int i ∧ y = .int j ∧ augD o (.int i) (.int j) = some d) ∨ (∃ i j, o = .add ∧ dx = .str i ∧ dy = .str j ∧ x = .str i ∧ y = .str j ∧ opAdd (.str i) (.str j) = some d) := by
    intro o dx dy d x y h1 h2 h3
    cases dx <;> simp only [vOf] at h1 <;> cases h1 <;> cases dy <;> simp only [vOf] at h2 <;> cases h2
    · exact .inl ⟨_, _, rfl, rfl, rfl, rfl, h3⟩
    · cases o <;> cases h3
    · cases o <;> cases h3
    · cases o <;> first | (cases h3; done) | exact .inr ⟨_, _, rfl, rfl, rfl, rfl, rfl, h3⟩
  cases o <;> simp only [augOp] at h <;> cases h
  · refine PIp.imp (PIp.or (show PIp X .Add _ from iop_add) (show PIp X .Add _ from iop_add_str)) fun x y H Q hq => ?_
    obtain ⟨dx, dy, d, h1, h2, h3, hk⟩ := hq
    rcases ii h1 h2 h3 with ⟨i, j, rfl, rfl, rfl, rfl, h4⟩ | ⟨i, j, _, rfl, rfl, rfl, rfl, h4⟩
    · cases h4
      exact .inl ⟨i, j, rfl, rfl, hk _ rfl⟩
    · simp only [opAdd] at h4
      split at h4
      · rename_i hz
        cases h4
        exact .inr ⟨i, j, rfl, rfl, hz, hk _ rfl⟩
      · cases h4
  · refine PIp.imp (show PIp X .Sub _ from iop_sub) fun x y H Q hq => ?_
    obtain ⟨dx, dy, d, h1, h2, h3, hk⟩ := hq
    rcases ii h1 h2 h3 with ⟨i, j, rfl, rfl, rfl, rfl, h4⟩ | ⟨i, j, z, _⟩
    · cases h4
      exact ⟨i, j, rfl, rfl, hk _ rfl⟩
    · cases z
  · refine PIp.imp (show PIp X .Mult _ from iop_mul) fun x y H Q hq => ?_
    obtain ⟨dx, dy, d, h1, h2, h3, hk⟩ := hq
    rcases ii h1 h2 h3 with ⟨i, j, rfl, rfl, rfl, rfl, h4⟩ | ⟨i, j, z, _⟩
    · simp only [augD] at h3
      split at h3
      · rename_i hz
        cases h3
        refine ⟨i, j, rfl, rfl, ?_, hk _ rfl⟩
        simpa [CMul, or_assoc] using hz
      · cases h3
    · cases z
  · refine PIp.imp (show PIp X .FloorDiv _ from iop_fdiv) fun x y H Q hq => ?_
    obtain ⟨dx, dy, d, h1, h2, h3, hk⟩ := hq
    rcases ii h1 h2 h3 with ⟨i, j, rfl, rfl, rfl, rfl, h4⟩ | ⟨i, j, z, _⟩
    · simp only [augD] at h3
      split at h3
      · rename_i hz
        cases h3
        refine ⟨i, j, rfl, rfl, ?_, hk _ rfl⟩
        simpa [CDiv] using hz
      · cases h3
    · cases z
  · refine PIp.imp (show PIp X .Mod _ from iop_mod) fun x y H Q hq => ?_
    obtain ⟨dx, dy, d, h1, h2, h3, hk⟩ := hq
    rcases ii h1 h2 h3 with ⟨i, j, rfl, rfl, rfl, rfl, h4⟩ | ⟨i, j, z, _⟩
    · simp only [augD] at h3
      split at h3
      · rename_i hz
        cases h3
        exact ⟨i, j, rfl, rfl, by simpa using hz, hk _ rfl⟩
      · cases h3
    · cases z
theorem vOf_rp {K : PySem.W.Frag} {F : Hp} {v : V} {d : D} (h : vOf d = some v) : Rp K F v d := by
  cases d <;> simp only [vOf] at h <;> cases h
  · exact .int _
  · exact .str _
theorem rp_vOf {K : PySem.W.Frag} {F : Hp} {v : V} {d : D} (h : Rp K F v d) (o : ∃ u, vOf d = some u) : vOf d = some v := by
  obtain ⟨u, hu⟩ := o
  cases d <;> simp only [vOf] at hu <;> cases hu <;> cases h <;> rfl
theorem aug_ty {o : Op} {x y z : D} (h : augD o x y = some z) : (∃ u, vOf x = some u) ∧ (∃ u, vOf y = some u) ∧ newObj x = false := by
  unfold augD at h
  split at h <;> first | exact ⟨⟨_, rfl⟩, ⟨_, rfl⟩, rfl⟩ | cases h
theorem aug_out {o : Op} {x y z : D} (h : augD o x y = some z) : ∃ u, vOf z = some u := by
  unfold augD at h
  split at h <;> (try simp only [opAdd] at h) <;> (try split at h) <;> first | (cases h; exact ⟨_, rfl⟩) | (cases h; done)
section
variable {K : PySem.W.Frag} {L : Nat → Bool} {F H F' H' F1 H1 : Hp} {σ σ' σ1 : L2.St} {s s' s1 : S} {D : Ends}
def augM (C : Calls) (i : Nat) (o : Op) (e : Ex) : M Fl := bnd (rdV i) fun x => bnd (sem C e).v fun y => bnd (lift (augD o x y)) fun z s => match putS i (.val z) s with
    | none => none
    | some s' => some (.nx, s')
theorem aug_read {C : Calls} {i : Nat} {o : Op} {p : Operator} {e : Ex} (ho : augOp o = some p) (hL : L i = false) (h : tS K L (augM C i o e) D σ H) : tAug i (tV K C e) (augR o) D σ H := by
  obtain ⟨s, F, fl, s', r, e0, kk⟩ := h
  obtain ⟨x, s1, e1, f1⟩ := bnd_some e0
  obtain ⟨y, s2, e2, f2⟩ := bnd_some f1
  obtain ⟨z, s3, e3, f3⟩ := bnd_some f2
  obtain ⟨e4, e5⟩ := lift_some e3
  change s3 = s2 at e5
  subst e5
  change augD o x y = some z at e4
  split at f3
  · cases f3
  · rename_i s4 ep
    cases f3
    obtain ⟨t1, t2, t3⟩ := aug_ty e4
    -- the slot holds a plain value
    unfold rdV at e1
    split at e1
    · rename_i d ed
      cases e1
      obtain ⟨v, ev, rb⟩ := r.at_ i _ ed
      refine ⟨v, ev, s, F, y, s3, r, e2, fun w F1 H1 r1 x1 sub1 wy => ?_⟩
      refine ⟨x, y, z, rp_vOf rb t1, rp_vOf wy t2, e4, fun u hu => ?_⟩
      obtain ⟨r2, a2⟩ := r1.put ep (vOf_rp (K := K) (F := F1) hu)
      exact kk .non _ F1 H1 ⟨r2, x1, fun a z => .inl (sub1 a (a2 a z)), fun j hj => lk_set hL hj⟩ trivial
    · rename_i d ed
      cases e1
      obtain ⟨v, ev, a, _, _, ob⟩ := r.at_ i _ ed
      cases x <;> first | exact ob.elim | cases t3
    · cases e1
theorem while_read {mc : M Bool} {mb : M Fl} {w : Nat} (h : tS K L (whileLoop mc mb w) D σ H) : tWhile (tT K mc) (tS K L mb) D σ H := by
  obtain ⟨s, F, fl, s', r, e, k⟩ := h
  refine ⟨fun m σ2 H2 => ∃ (F2 : Hp) (si : S), whileLoop mc mb m si = some (fl, s') ∧ Aft K L F H σ s F2 H2 σ2 si, ⟨w, F, s, e, Aft.refl r⟩, ?_⟩
  rintro m σ2 H2 ⟨F2, si, ew, a2⟩
  cases m with
  | zero => cases ew
  | succ m =>
    simp only [whileLoop] at ew
    split at ew
    · cases ew
    · rename_i s1 ec
      cases ew
      refine ⟨si, F2, false, _, a2.rs, ec, fun F3 H3 r3 x3 sub3 => ?_⟩
      show D.nx σ2 H3
      exact k .non σ2 F3 H3 (a2.trans (Aft.of r3 x3 sub3)) trivial
    · rename_i s1 ec
      refine ⟨si, F2, true, s1, a2.rs, ec, fun F3 H3 r3 x3 sub3 => ?_⟩
      dsimp only
      rw [if_pos rfl]
      have a3 := a2.trans (Aft.of (L := L) r3 x3 sub3)
      refine ⟨fun σ' H' => ∃ (F' : Hp) (si : S), whileLoop mc mb m si = some (fl, s') ∧ Aft K L F H σ s F' H' σ' si, fun σ' H' hN => ⟨m, Nat.lt_succ_self _, hN⟩, ?_⟩
      split at ew
      · cases ew
      · rename_i s2 eb
        exact ⟨s1, F3, _, s2, r3, eb, fun v σ4 F4 H4 a4 _ => ⟨F4, s2, ew, a3.trans a4⟩⟩
      · rename_i s2 eb
        exact ⟨s1, F3, _, s2, r3, eb, fun v σ4 F4 H4 a4 _ => ⟨F4, s2, ew, a3.trans a4⟩⟩
      · rename_i s2 eb
        cases ew
        exact ⟨s1, F3, _, _, r3, eb, fun v σ4 F4 H4 a4 _ => k v σ4 F4 H4 (a3.trans a4) trivial⟩
      · rename_i o d s2 eb
        cases ew
        exact ⟨s1, F3, _, _, r3, eb, fun v σ4 F4 H4 a4 f4 => k v σ4 F4 H4 (a3.trans a4) (f4.back a3)⟩
theorem Aft.grow (r : Rs K F H σ s) (x : Ext (fun _ => False) F H F' H') (q : Same F' H') : Aft K L F H σ s F' H' σ s := ⟨r.ext x q, x.none_, fun _ z => .inl z, fun _ _ => rfl⟩
theorem for_read {t : Tg} {it : M (List FC.D)} {mb : M Fl} (hL : t.slots.all (fun i => !L i) = true) (h : tS K L (bnd it fun ds => forLoop t mb ds) D σ H) : tFor (tI K it) (gTg K t) (tS K L mb) D σ H := by
  obtain ⟨s, F, fl, s', r, e, k⟩ := h
  obtain ⟨ds, s1, e1, e2⟩ := bnd_some e
  refine ⟨s, F, ds, s1, r, e1, fun J F1 H1 r1 x1 sub1 ok => ?_⟩
  have a1 : Aft K L F H σ s F1 H1 σ s1 := Aft.of r1 x1 sub1
  refine ⟨fun i m σ2 H2 => ∃ (F2 : Hp) (si : S), m = ds.length - i ∧ i ≤ ds.length ∧ forLoop t mb (ds.drop i) si = some (fl, s') ∧ Same F1 F2 ∧ Aft K L F H σ s F2 H2 σ2 si, ⟨ds.length, F1, s1, by simp, Nat.zero_le _, e2, Same.refl, a1⟩, ?_⟩
  rintro i m σ2 H2 ⟨F2, si, rfl, hi, ew, sm, a2⟩
  obtain ⟨okg, oks⟩ := ok F2 H2 sm a2.rs.sub
  by_cases hlt : i < ds.length
  · have hdi : ds[i]? = some ds[i] := List.getElem?_eq_getElem hlt
    obtain ⟨hgo, hy⟩ := okg i _ hdi
    rw [List.drop_eq_getElem_cons hlt] at ew
    simp only [forLoop] at ew
    refine .inr ⟨hgo, fun σ' H' => ∃ (F' : Hp) (si : S), forLoop t mb (ds.drop (i + 1)) si = some (fl, s') ∧ Same F1 F' ∧ Aft K L F H σ s F' H' σ' si, fun σ' H' ⟨F', si, h1, h2, h3⟩ => ⟨ds.length - (i + 1), by omega, F', si, rfl, hlt, h1, h2, h3⟩, fun x H3 yl => ?_⟩
    obtain ⟨F3, x3, sm3, rx⟩ := hy x H3 yl
    have a3 : Aft K L F H σ s F3 H3 σ2 si := a2.trans (Aft.grow a2.rs x3 sm3)
    split at ew
    · cases ew
    · rename_i sb eb
      refine bind_read a3.rs rx eb fun σ4 r4 sub4 w4 => ?_
      have a4 : Aft K L F H σ s F3 H3 σ4 sb := a3.trans ⟨r4, Ext.refl, fun a z => .inl (sub4 a z), fun j hj => by
        have hj' : j ∉ t.slots := fun z => by
          have := List.all_eq_true.mp hL j z
          rw [hj] at this; cases this
        rw [← wipe_out (σ := σ4) hj', w4, wipe_out hj']⟩
      have sm4 : Same F1 F3 := fun b u e => x3.f b u (sm b u e)
      split at ew
      · cases ew
      · rename_i s2 e5
        exact ⟨sb, F3, _, s2, r4, e5, fun v σ5 F5 H5 a5 _ => ⟨F5, s2, ew, fun b u e => a5.ex.f b u (sm4 b u e), a4.trans a5⟩⟩
      · rename_i s2 e5
        exact ⟨sb, F3, _, s2, r4, e5, fun v σ5 F5 H5 a5 _ => ⟨F5, s2, ew, fun b u e => a5.ex.f b u (sm4 b u e), a4.trans a5⟩⟩
      · rename_i s2 e5
        cases ew
        exact ⟨sb, F3, _, _, r4, e5, fun v σ5 F5 H5 a5 _ => k v σ5 F5 H5 (a4.trans a5) trivial⟩
      · rename_i o d s2 e5
        cases ew
        exact ⟨sb, F3, _, _, r4, e5, fun v σ5 F5 H5 a5 f5 => k v σ5 F5 H5 (a4.trans a5) (f5.back a4)⟩
  · have ei : i = ds.length := by omega
    subst ei
    rw [List.drop_length] at ew
    cases ew
    exact .inl ⟨oks _ (Nat.le_refl _), k .non σ2 F2 H2 a2 trivial⟩
end
end FC

/-! Part 21: statements against the program's text. -/
namespace FC
open PySem PySem.Spec PyProof.Rows L2

def isComp : Expr → Bool
  | .ListComp .. => true
  | .SetComp .. => true
  | .DictComp .. => true
  | _ => false
def isLComp : Expr → Bool
  | .ListComp .. => true
  | _ => false
def isTupE : Expr → Bool
  | .Tuple .. => true
  | _ => false
def swNames (sc : Scope) (ts vs : List Expr) : Option (Option (List Str)) :=
  if (!(ts.length == 2 || ts.length == 3) || vs.length != ts.length) = true then some none
  else if (vs.any fun | .Starred .. => true | _ => false) = true then some none
  else
    let line := (ts.head?.map (·.pos.line)).getD 0
    let names := ts.filterMap fun
      | .Name id pos => if sc.names.lookup id == some .local && pos.line == line then some id else none
      | _ => none
    if (names.length != ts.length || names.eraseDups.length != names.length) = true then some none
    else if vs.all (foldedForSure 8) = true then some none
    else if vs.all (constantsAlone 8) = true then none
    else some (some names)
theorem sw_names {env : Env} {ts vs : List Expr} {k k2 : Nat} {p p2 : Pos} {r : Option (List Str)} (hk : env.scope.kind = .function) (h : swNames env.scope ts vs = some r) : swappedStores [.Tuple ts k p] (.Tuple vs k2 p2) env = pure r := by
  have hb : env.blockKind = .function := by unfold Env.blockKind; rw [hk]; rfl
  unfold swNames at h
  unfold swappedStores
  simp only [hb, Env.kindOf, bne_self_eq_false, Bool.or_false]
  split at h
  · rename_i c
    cases h
    exact (if_pos c).trans rfl
  · rename_i c
    refine (if_neg c).trans ?_
    split at h
    · rename_i c2
      cases h
      exact (if_pos c2).trans rfl
    · rename_i c2
      refine (if_neg c2).trans ?_
      dsimp only at h
      split at h
      · rename_i c3
        cases h
        exact (if_pos c3).trans rfl
      · rename_i c3
        refine (if_neg c3).trans ?_
        split at h
        · rename_i c4
          cases h
          exact (if_pos c4).trans rfl
        · rename_i c4
          refine (if_neg c4).trans ?_
          split at h
          · cases h
          · rename_i c5
            cases h
            exact (if_neg c5).trans rfl
theorem sw_comp {env : Env} {elt : Expr} {gs : List Comprehension} {scope : Scope} {pos py : Pos} {y : Str} {l : Nat} (hk : env.scope.kind = .function) :
    swapsWith (.ListComp elt gs scope pos) (some (.Name y py)) l env = pure (env.kindOf y == some .local && py.line == pos.line && !(scope.names.any fun (n, k) => n == y && (k == .local || k == .cell))) := by
  have hb : env.blockKind = .function := by unfold Env.blockKind; rw [hk]; rfl
  unfold swapsWith
  simp only [hb]
  rfl
theorem sw_no {env : Env} {e : Expr} {t : Option Expr} {l : Nat} (h : isComp e = false) : swapsWith e t l env = pure false := by
  cases e <;> first | rfl | (cases h; done)
theorem sw_tup {env : Env} {e : Expr} {ts : List Expr} {k : Nat} {p : Pos} {l : Nat} : swapsWithSole [.Tuple ts k p] e l env = pure false := by
  cases e <;> rfl
theorem sw_sub {env : Env} {e a b : Expr} {p : Pos} {l : Nat} : swapsWithSole [.Subscript a b p] e l env = pure false := by
  cases e <;> rfl
theorem st_sub {env : Env} {e a b : Expr} {p : Pos} : swappedStores [.Subscript a b p] e env = pure none := by
  cases e <;> rfl
theorem st_tup {env : Env} {e : Expr} {ts : List Expr} {k : Nat} {p : Pos} (h : isTupE e = false) : swappedStores [.Tuple ts k p] e env = pure none := by
  cases e <;> first | rfl | (cases h; done)
section
variable {X : Cx} {L : Nat → Bool} {Γ : Gam} {q : Scp} {C : Calls}
theorem comp_parts (g : Gd X Γ q) (cs : ∀ f sg, Γ.sigs[f]? = some sg → CallOk X C f sg) {e it ifs : Ex} {t : Tg} {x : Expr} (h : (mm Γ (.comp e t it ifs)).e q x = true) :
    ∃ (elt tg iter : Expr) (cs' : List Expr) (scope : Scope) (pos : Pos) (own : List (Str × Nat)), x = .ListComp elt [⟨tg, iter, cs', 0⟩] scope pos ∧ PI X tg iter (tI X.K (sem C it).it) ∧ BlkOk X.N X.env.scope scope own ∧
      (∀ (s : Shared) (H : Hp) (c : Addr) (cl : List (Str × Addr)) (fp : List Addr), PG (X.blk s H scope (compEnvC scope cl c X.env) fp) tg (gTg X.K t)) ∧
      (∀ (s : Shared) (H : Hp) (c : Addr) (cl : List (Str × Addr)) (fp : List Addr), PTs (X.blk s H scope (compEnvC scope cl c X.env) fp) cs' (tT X.K (sem C ifs).ts)) ∧
      (∀ (s : Shared) (H : Hp) (c : Addr) (cl : List (Str × Addr)) (fp : List Addr), PE (X.blk s H scope (compEnvC scope cl c X.env) fp) elt (tV X.K C e)) ∧ (∀ v, foldedSetIterable iter X.env v = pure v) ∧ own.map (·.2) = t.slots := by
  simp only [mm] at h
  split at h
  · rename_i elt tg iter cs' k scope pos
    simp only [Bool.and_eq_true, beq_iff_eq, decide_eq_true_eq, Bool.or_eq_true, Bool.not_eq_true'] at h
    obtain ⟨⟨⟨⟨⟨⟨⟨⟨⟨h1, h2⟩, h3⟩, h4⟩, h5⟩, h6⟩, h7⟩, h8⟩, h9⟩, h10⟩ := h
    subst h1
    have hit : PI X tg iter (tI X.K (sem C it).it) := (ex_ok it X q g cs).it tg iter h4 fun hn => by
      rcases h3 with h3 | h3
      · rw [h3] at hn; cases hn
      · cases t with
        | nm i => cases h3
        | tp is =>
          unfold mTg at h5
          split at h5
          · rename_i heq; cases heq
          · exact ⟨_, _, _, rfl⟩
          · cases h5
    have ok : BlkOk X.N X.env.scope scope (t.slots.filterMap fun i => (Γ.N[i]?).map fun n => (n, i)) := by
      rw [g.N, g.sc]
      exact blkOk_by h6
    exact ⟨elt, tg, iter, cs', scope, pos, _, rfl, hit, ok, fun s H c cl fp => pg_tg (g.blk s H scope cl c fp) h5,
      fun s H c cl fp => (ex_ok ifs _ _ (g.blk s H scope cl c fp) fun f sg hs => ⟨(cs f sg hs).ok⟩).ts _ h9 h10,
      fun s H c cl fp => (ex_ok e _ _ (g.blk s H scope cl c fp) fun f sg hs => ⟨(cs f sg hs).ok⟩).v _ h8, folded_of h2 X.env, h7⟩
  · cases h
theorem dcomp_parts (g : Gd X Γ q) (cs : ∀ f sg, Γ.sigs[f]? = some sg → CallOk X C f sg) {ke ve it ifs : Ex} {t : Tg} {x : Expr} (h : (mm Γ (.dcomp ke ve t it ifs)).e q x = true) :
    ∃ (kx vx tg iter : Expr) (cs' : List Expr) (scope : Scope) (pos : Pos) (own : List (Str × Nat)), x = .DictComp kx vx [⟨tg, iter, cs', 0⟩] scope pos ∧ PI X tg iter (tI X.K (sem C it).it) ∧ BlkOk X.N X.env.scope scope own ∧
      (∀ (s : Shared) (H : Hp) (c : Addr) (cl : List (Str × Addr)) (fp : List Addr), PG (X.blk s H scope (compEnvC scope cl c X.env) fp) tg (gTg X.K t)) ∧
      (∀ (s : Shared) (H : Hp) (c : Addr) (cl : List (Str × Addr)) (fp : List Addr), PTs (X.blk s H scope (compEnvC scope cl c X.env) fp) cs' (tT X.K (sem C ifs).ts)) ∧
      (∀ (s : Shared) (H : Hp) (c : Addr) (cl : List (Str × Addr)) (fp : List Addr), PE (X.blk s H scope (compEnvC scope cl c X.env) fp) kx (tV X.K C ke)) ∧
      (∀ (s : Shared) (H : Hp) (c : Addr) (cl : List (Str × Addr)) (fp : List Addr), PE (X.blk s H scope (compEnvC scope cl c X.env) fp) vx (tV X.K C ve)) ∧ (∀ v, foldedSetIterable iter X.env v = pure v) ∧ own.map (·.2) = t.slots := by
  simp only [mm] at h
  split at h
  · rename_i kx vx tg iter cs' k scope pos
    simp only [Bool.and_eq_true, beq_iff_eq, decide_eq_true_eq, Bool.or_eq_true, Bool.not_eq_true'] at h
    obtain ⟨⟨⟨⟨⟨⟨⟨⟨⟨⟨h1, h2⟩, h3⟩, h4⟩, h5⟩, h6⟩, h7⟩, h8k⟩, h8⟩, h9⟩, h10⟩ := h
    subst h1
    have hit : PI X tg iter (tI X.K (sem C it).it) := (ex_ok it X q g cs).it tg iter h4 fun hn => by
      rcases h3 with h3 | h3
      · rw [h3] at hn; cases hn
      · cases t with
        | nm i => cases h3
        | tp is =>
          unfold mTg at h5
          split at h5
          · rename_i heq; cases heq
          · exact ⟨_, _, _, rfl⟩
          · cases h5
    have ok : BlkOk X.N X.env.scope scope (t.slots.filterMap fun i => (Γ.N[i]?).map fun n => (n, i)) := by
      rw [g.N, g.sc]
      exact blkOk_by h6
    exact ⟨kx, vx, tg, iter, cs', scope, pos, _, rfl, hit, ok, fun s H c cl fp => pg_tg (g.blk s H scope cl c fp) h5,
      fun s H c cl fp => (ex_ok ifs _ _ (g.blk s H scope cl c fp) fun f sg hs => ⟨(cs f sg hs).ok⟩).ts _ h9 h10,
      fun s H c cl fp => (ex_ok ke _ _ (g.blk s H scope cl c fp) fun f sg hs => ⟨(cs f sg hs).ok⟩).v _ h8k,
      fun s H c cl fp => (ex_ok ve _ _ (g.blk s H scope cl c fp) fun f sg hs => ⟨(cs f sg hs).ok⟩).v _ h8, folded_of h2 X.env, h7⟩
  · cases h
theorem tgn_name (g : Gd X Γ q) {i : Nat} {y : Str} {p : Pos} (h : tgn Γ q i (.Name y p) = true) : X.N[i]? = some y ∧ Loc X.env.scope y ∧ (X.fn y = true ∨ X.env.scope.names.lookup y = some .local) := by
  unfold tgn at h
  simp only [Bool.and_eq_true, beq_iff_eq] at h
  obtain ⟨h1, h2⟩ := h
  refine ⟨by rw [g.N]; exact h1, ?_⟩
  unfold locB at h2
  split at h2
  · rename_i e
    have e' : X.env.scope.names.lookup y = some .local := by rw [g.sc]; exact e
    exact ⟨.inl e', .inr e'⟩
  · rename_i e
    have e' : X.env.scope.names.lookup y = some .cell := by rw [g.sc]; exact e
    exact ⟨.inr e', .inl (by rw [g.fn]; exact h2)⟩
  · cases h2
/-- a value that is stored under a name -/
def valOk (q : Scp) (e : Ex) (x : Expr) : Bool := !isComp x || (isLComp x && (match e with | .comp .. => true | _ => false))
def isDc : Ex → Bool
  | .dcomp .. => true
  | _ => false
/-- an object of its own that is stored under a name -/
def valOkO (q : Scp) (e : Ex) (x : Expr) : Bool := valOk q e x || isDc e
theorem sw_dcomp {env : Env} {kx vx : Expr} {gs : List Comprehension} {scope : Scope} {pos py : Pos} {y : Str} {l : Nat} (hk : env.scope.kind = .function) :
    swapsWith (.DictComp kx vx gs scope pos) (some (.Name y py)) l env = pure (env.kindOf y == some .local && py.line == pos.line && !(scope.names.any fun (n, k) => n == y && (k == .local || k == .cell))) := by
  have hb : env.blockKind = .function := by unfold Env.blockKind; rw [hk]; rfl
  unfold swapsWith
  simp only [hb]
  rfl
theorem tAsg_imp {te te' : TE} {gg : TG} (i : ∀ σ H Q, te' σ H Q → te σ H Q) : ∀ D σ H, tAsg te' gg D σ H → tAsg te gg D σ H := fun D σ H h => i σ H _ h
theorem asg_o1 (g : Gd X Γ q) (cs : ∀ f sg, Γ.sigs[f]? = some sg → CallOk X C f sg) (hk : q.sc.kind = .function) {i : Nat} {e : Ex} {y : Str} {p : Pos} {x : Expr} {pos : Pos} (ht : tgn Γ q i (.Name y p) = true) (hv : valOk q e x = true) (h : (mm Γ e).e q x = true) (hf : fresh Γ.sigs e = true) :
    PS X (.Assign [.Name y p] x pos) (tAsg (tO X.K C e) (gName i)) := by
  obtain ⟨t1, t2, t3⟩ := tgn_name g ht
  have hk' : X.env.scope.kind = .function := by rw [g.sc]; exact hk
  unfold valOk at hv
  rw [Bool.or_eq_true] at hv
  rcases hv with hv | hv
  · exact ps_set g.nd t1 t2 ((ex_ok e X q g cs).o hf x h) (sw_no (by simpa using hv)) t3
  · rw [Bool.and_eq_true] at hv
    cases e <;> first | (cases hv.2; done) | skip
    rename_i e t it ifs
    obtain ⟨elt, tg, iter, cs', scope, cpos, own, rfl, a1, a2, a3, a4, a5, a6, a7⟩ := comp_parts g cs h
    have sw := sw_comp (env := X.env) (elt := elt) (gs := [⟨tg, iter, cs', 0⟩]) (scope := scope) (pos := cpos) (py := p) (y := y) (l := pos.line) hk'
    cases hb : (X.env.kindOf y == some .local && p.line == cpos.line && !(scope.names.any fun (n, k) => n == y && (k == .local || k == .cell))) with
    | false =>
      rw [hb] at sw
      exact ps_set g.nd t1 t2 ((ex_ok _ X q g cs).o hf _ h) sw t3
    | true =>
      rw [hb] at sw
      have hl : X.env.scope.names.lookup y = some .local := by
        simp only [Bool.and_eq_true, beq_iff_eq] at hb
        exact hb.1.1
      have := ps_setLc (i := i) g.calm g.nd t1 hl sw a1 a2 a3 a4 a5 a6
      rw [a7] at this
      exact PS.imp this fun D σ H hq => comp_read hq
theorem asg_o (g : Gd X Γ q) (cs : ∀ f sg, Γ.sigs[f]? = some sg → CallOk X C f sg) (hk : q.sc.kind = .function) {i : Nat} {e : Ex} {y : Str} {p : Pos} {x : Expr} {pos : Pos} (ht : tgn Γ q i (.Name y p) = true) (hv : valOkO q e x = true) (h : (mm Γ e).e q x = true) (hf : fresh Γ.sigs e = true) :
    PS X (.Assign [.Name y p] x pos) (tAsg (tO X.K C e) (gName i)) := by
  unfold valOkO at hv
  rw [Bool.or_eq_true] at hv
  rcases hv with hv | hv
  · exact asg_o1 g cs hk ht hv h hf
  · cases e <;> first | (cases hv; done) | skip
    rename_i ke ve t it ifs
    obtain ⟨t1, t2, t3⟩ := tgn_name g ht
    have hk' : X.env.scope.kind = .function := by rw [g.sc]; exact hk
    obtain ⟨kx, vx, tg, iter, cs', scope, cpos, own, rfl, a1, a2, a3, a4, a5, a6, a7, a8⟩ := dcomp_parts g cs h
    have sw := sw_dcomp (env := X.env) (kx := kx) (vx := vx) (gs := [⟨tg, iter, cs', 0⟩]) (scope := scope) (pos := cpos) (py := p) (y := y) (l := pos.line) hk'
    cases hb : (X.env.kindOf y == some .local && p.line == cpos.line && !(scope.names.any fun (n, k) => n == y && (k == .local || k == .cell))) with
    | false =>
      rw [hb] at sw
      exact ps_set g.nd t1 t2 ((ex_ok _ X q g cs).o hf _ h) sw t3
    | true =>
      rw [hb] at sw
      have hl : X.env.scope.names.lookup y = some .local := by
        simp only [Bool.and_eq_true, beq_iff_eq] at hb
        exact hb.1.1
      have := ps_setD (i := i) g.calm g.nd t1 hl sw a1 a2 a3 a4 a5 a6 a7
      rw [a8] at this
      exact PS.imp this fun D σ H hq => dcomp_read hq
theorem asg_v (g : Gd X Γ q) (cs : ∀ f sg, Γ.sigs[f]? = some sg → CallOk X C f sg) (hk : q.sc.kind = .function) {i : Nat} {e : Ex} {y : Str} {p : Pos} {x : Expr} {pos : Pos} (ht : tgn Γ q i (.Name y p) = true) (hv : valOk q e x = true) (h : (mm Γ e).e q x = true) :
    PS X (.Assign [.Name y p] x pos) (tAsg (tV X.K C e) (gName i)) := by
  cases hc : isComp x with
  | false =>
    obtain ⟨t1, t2, t3⟩ := tgn_name g ht
    exact ps_set g.nd t1 t2 ((ex_ok e X q g cs).v x h) (sw_no hc) t3
  | true =>
    have hf : fresh Γ.sigs e = true ∧ ∀ s d s', (sem C e).v s = some (d, s') → ∃ ys, d = .list ys := by
      unfold valOk at hv
      rw [hc, Bool.not_true, Bool.false_or, Bool.and_eq_true] at hv
      cases e <;> first | (cases hv.2; done) | skip
      refine ⟨rfl, fun s d s' e => ?_⟩
      have e : compM _ _ _ _ s = some (d, s') := e
      unfold compM at e
      split at e
      · cases e
      · split at e
        · split at e
          · cases e
          · cases e; exact ⟨_, rfl⟩
        · cases e
    exact PS.imp (asg_o1 g cs hk ht hv h hf.1) (tAsg_imp fun σ H Q hq => frz_read hf.2 hq)
/-- parallel stores -/
def parOk (Γ : Gam) (q : Scp) (is : List Nat) (ts vs : List Expr) : Bool :=
  tgns Γ q is ts && (match swNames q.sc ts vs with
    | some none => decide (is.length ≤ 100)
    | some (some ns) => decide is.Nodup && (match ts with
      | [.Name x _, .Name y _] => decide (ns = [x, y]) && (q.sc.names.lookup x == some .local) && (q.sc.names.lookup y == some .local)
      | [.Name x _, .Name y _, .Name z _] => decide (ns = [x, y, z]) && (q.sc.names.lookup x == some .local) && (q.sc.names.lookup y == some .local) && (q.sc.names.lookup z == some .local)
      | _ => false)
    | none => false)
theorem par_ok (g : Gd X Γ q) (hk : q.sc.kind = .function) {is : List Nat} {es : Ex} {ts vs : List Expr} {k k2 : Nat} {p p2 pos : Pos} (hL : is.all (fun i => !L i) = true) (hp : parOk Γ q is ts vs = true) (ha : PAx X C vs es) :
    PS X (.Assign [.Tuple ts k p] (.Tuple vs k2 p2) pos) (tS X.K L (parM C is es)) := by
  have hk' : X.env.scope.kind = .function := by rw [g.sc]; exact hk
  unfold parOk at hp
  rw [Bool.and_eq_true] at hp
  obtain ⟨hp1, hp⟩ := hp
  split at hp
  · rename_i hs
    have sw := sw_names (k := k) (p := p) (k2 := k2) (p2 := p2) hk' (by rw [g.sc]; exact hs)
    obtain ⟨pg, l1, f1⟩ := tgns_of g hp1
    refine PS.imp (ps_asg (pe_tup ha.pa) (pg_tup g.calm pg l1 f1) sw_tup sw) fun D σ H hq => ?_
    refine tAs_mono (par_read hL hq) fun vs H1 ⟨hl, _, h2⟩ => ?_
    refine ⟨?_, fun a hH => ⟨a, vs, rfl, .inl (.inl upd_same), hl, gIs_of hl (h2 a hH)⟩⟩
    rw [hl]
    exact Nat.le_trans (by simpa using hp) (by decide)
  · rename_i ns hs
    have sw := sw_names (k := k) (p := p) (k2 := k2) (p2 := p2) hk' (by rw [g.sc]; exact hs)
    rw [Bool.and_eq_true, decide_eq_true_eq] at hp
    obtain ⟨hnd, hp⟩ := hp
    split at hp
    · rename_i x px y py
      simp only [Bool.and_eq_true, decide_eq_true_eq, beq_iff_eq] at hp
      obtain ⟨⟨rfl, lx⟩, ly⟩ := hp
      match is, hp1, hnd, hL with
      | [i, j], hp1, hnd, hL =>
        simp only [tgns, Bool.and_eq_true] at hp1
        match vs, ha with
        | [a, b], ha =>
          refine PS.imp (ps_par g.calm g.nd (tgn_name g hp1.1).1 (tgn_name g hp1.2.1).1 (by simpa using hnd) (by rw [g.sc]; exact lx) (by rw [g.sc]; exact ly) ha.pa sw sw_tup) fun D σ H hq => ?_
          refine tAs_mono (par_read hL hq) fun vs H1 ⟨hl, h1, _⟩ => ?_
          match vs, hl with
          | [v, w], _ => exact ⟨v, w, rfl, h1⟩
        | [], _ => simp [swNames] at hs
        | [_], _ => simp [swNames] at hs
        | _ :: _ :: _ :: _, _ => simp [swNames] at hs
      | [], hp1, _, _ => simp [tgns] at hp1
      | [_], hp1, _, _ => simp [tgns] at hp1
      | _ :: _ :: _ :: _, hp1, _, _ => simp [tgns] at hp1
    · rename_i x px y py z pz
      simp only [Bool.and_eq_true, decide_eq_true_eq, beq_iff_eq] at hp
      obtain ⟨⟨⟨rfl, lx⟩, ly⟩, lz⟩ := hp
      match is, hp1, hnd, hL with
      | [i, j, l], hp1, hnd, hL =>
        simp only [tgns, Bool.and_eq_true] at hp1
        match vs, ha with
        | [a, b, c], ha =>
          have hn : i ≠ j ∧ i ≠ l ∧ j ≠ l := by
            simp only [List.nodup_cons, List.mem_cons, List.not_mem_nil, or_false, not_or] at hnd
            exact ⟨hnd.1.1, hnd.1.2, hnd.2.1⟩
          refine PS.imp (ps_par3 g.calm g.nd (tgn_name g hp1.1).1 (tgn_name g hp1.2.1).1 (tgn_name g hp1.2.2.1).1 hn.1 hn.2.1 hn.2.2 (by rw [g.sc]; exact lx) (by rw [g.sc]; exact ly) (by rw [g.sc]; exact lz) ha.pa sw sw_tup) fun D σ H hq => ?_
          refine tAs_mono (par_read hL hq) fun vs H1 ⟨hl, h1, _⟩ => ?_
          match vs, hl with
          | [u, v, w], _ => exact ⟨u, v, w, rfl, h1⟩
        | [], _ => simp [swNames] at hs
        | [_], _ => simp [swNames] at hs
        | [_, _], _ => simp [swNames] at hs
        | _ :: _ :: _ :: _ :: _, _ => simp [swNames] at hs
      | [], hp1, _, _ => simp [tgns] at hp1
      | [_], hp1, _, _ => simp [tgns] at hp1
      | [_, _], hp1, _, _ => simp [tgns] at hp1
      | _ :: _ :: _ :: _ :: _, hp1, _, _ => simp [tgns] at hp1
    · cases hp
  · cases hp
end
end FC

/-! Part 22: every statement does what the evaluator says. -/
namespace FC
open PySem PySem.Spec PyProof.Rows L2
structure Ms where
  s : Stmt → Bool := fun _ => false
  ss : List Stmt → Bool := fun _ => false
def one (f : Stmt → Bool) : Ms := { s := f }
def ms (Γ : Gam) (q : Scp) (L : Nat → Bool) : Sx → Ms
  | .set i e => one fun st => match st with
    | .Assign [.Name y p] x _ => tgn Γ q i (.Name y p) && !L i && valOk q e x && (mm Γ e).e q x
    | _ => false
  | .seto i e => one fun st => match st with
    | .Assign [.Name y p] x _ => tgn Γ q i (.Name y p) && !L i && valOkO q e x && fresh Γ.sigs e && (mm Γ e).e q x
    | _ => false
  | .par is es => one fun st => match st with
    | .Assign [.Tuple ts _ _] (.Tuple vs _ _) _ => (is.all fun i => !L i) && parOk Γ q is ts vs && (mm Γ es).es q vs
    | _ => false
  | .unp is e => one fun st => match st with
    | .Assign [.Tuple ts k p] x _ => (is.all fun i => !L i) && mTg Γ q (.tp is) (.Tuple ts k p) && !isTupE x && (mm Γ e).e q x
    | _ => false
  | .sub i k e => one fun st => match st with
    | .Assign [.Subscript o j _] x _ => vis Γ q i o && noSlice j && (mm Γ k).e q j && (mm Γ e).e q x
    | _ => false
  | .aug i o e => one fun st => match st with
    | .AugAssign (.Name y p) op x _ => tgn Γ q i (.Name y p) && !L i && (augOp o == some op) && (mm Γ e).e q x
    | _ => false
  | .expr e => one fun st => match st with
    | .Expr x _ => !isComp x && (mm Γ e).e q x
    | _ => false
  | .ret e => one fun st => match st with
    | .Return (some x) _ => (mm Γ e).e q x
    | _ => false
  | .reto e => one fun st => match st with
    | .Return (some x) _ => fresh Γ.sigs e && (mm Γ e).e q x
    | _ => false
  | .retv i => one fun st => match st with
    | .Return (some x) _ => vis Γ q i x
    | _ => false
  | .retn => one fun st => match st with
    | .Return none _ => true
    | _ => false
  | .ife c a b => one fun st => match st with
    | .If x y z _ => (mm Γ c).e q x && (ms Γ q L a).ss y && (ms Γ q L b).ss z
    | _ => false
  | .for_ t it b => one fun st => match st with
    | .For tg iter body [] _ => (t.slots.all fun i => !L i) && noSet iter && (!needTup it || isTup t) && mTg Γ q t tg && (mm Γ it).it q iter && (ms Γ q L b).ss body
    | _ => false
  | .while_ c b => one fun st => match st with
    | .While x body [] _ => (mm Γ c).e q x && (ms Γ q L b).ss body
    | _ => false
  | .pass => one fun st => match st with
    | .Pass _ => true
    | .Expr (.Constant (.str _) _ _) _ => true
    | _ => false
  | .brk => one fun st => match st with
    | .Break _ => true
    | _ => false
  | .cont => one fun st => match st with
    | .Continue _ => true
    | _ => false
  | .nev => { s := fun _ => true, ss := fun _ => true }
  | .nil => { ss := fun l => l.isEmpty }
  | .cons a b => { ss := fun l => match l with
    | st :: r => (ms Γ q L a).s st && (ms Γ q L b).ss r
    | [] => false }
theorem asg_noSlice {env : Env} {o j : Expr} {pos : Pos} (h : noSlice j = true) : ∀ v, assign (.Subscript o j pos) env v = (do
      let ov ← holding [v] (eval o env)
      let iv ← holding [v, ov] (eval j env)
      standAt pos
      holding [v, ov, iv] (setItem ov iv v)
      release [v, ov, iv] []) := by
  intro v
  cases j <;> first | rfl | (cases h; done)
structure PSx (Γ : Gam) (w : Nat) (C : Calls) (X : Cx) (q : Scp) (L : Nat → Bool) (x : Sx) : Prop where
  s : ∀ st, (ms Γ q L x).s st = true → PS X st (tS X.K L (stm w C x))
  ss : ∀ st, (ms Γ q L x).ss st = true → PSs X st (tS X.K L (stm w C x))
theorem PSx.one {Γ : Gam} {w : Nat} {C : Calls} {X : Cx} {q : Scp} {L : Nat → Bool} {x : Sx} {f : Stmt → Bool} (hm : ms Γ q L x = FC.one f) (h : ∀ st, f st = true → PS X st (tS X.K L (stm w C x))) : PSx Γ w C X q L x :=
  ⟨fun st hs => h st (by rw [hm] at hs; exact hs), fun st hs => by rw [hm] at hs; cases hs⟩
theorem sx_ok {Γ : Gam} {w : Nat} {C : Calls} {X : Cx} {q : Scp} {L : Nat → Bool} (g : Gd X Γ q) (cs : ∀ f sg, Γ.sigs[f]? = some sg → CallOk X C f sg) (hk : q.sc.kind = .function) (hp : PassesOwn (model X.prog X.w) X.A X.env X.xe) :
    ∀ x : Sx, PSx Γ w C X q L x := by
  intro x
  induction x with
  | set i e =>
    refine PSx.one rfl fun st h => ?_
    split at h
    · simp only [Bool.and_eq_true, Bool.not_eq_true'] at h
      obtain ⟨⟨⟨h1, h2⟩, h3⟩, h4⟩ := h
      exact PS.imp (asg_v g cs hk h1 h3 h4) fun D σ H hq => set_read h2 hq
    · cases h
  | seto i e =>
    refine PSx.one rfl fun st h => ?_
    split at h
    · simp only [Bool.and_eq_true, Bool.not_eq_true'] at h
      obtain ⟨⟨⟨⟨h1, h2⟩, h3⟩, h4⟩, h5⟩ := h
      exact PS.imp (asg_o g cs hk h1 h3 h5 h4) fun D σ H hq => seto_read h2 hq
    · cases h
  | par is es =>
    refine PSx.one rfl fun st h => ?_
    split at h
    · simp only [Bool.and_eq_true] at h
      obtain ⟨⟨h1, h2⟩, h3⟩ := h
      exact par_ok g hk h1 h2 ((ex_ok es X q g cs).as _ h3)
    · cases h
  | unp is e =>
    refine PSx.one rfl fun st h => ?_
    split at h
    · simp only [Bool.and_eq_true, Bool.not_eq_true'] at h
      obtain ⟨⟨⟨h1, h2⟩, h3⟩, h4⟩ := h
      exact PS.imp (ps_asg ((ex_ok e X q g cs).v _ h4) (pg_tg g h2) sw_tup (st_tup h3)) fun D σ H hq => unp_read h1 hq
    · cases h
  | sub i k e =>
    refine PSx.one rfl fun st h => ?_
    split at h
    · simp only [Bool.and_eq_true] at h
      obtain ⟨⟨⟨h1, h2⟩, h3⟩, h4⟩ := h
      exact PS.imp (ps_asg ((ex_ok e X q g cs).v _ h4) (pg_sub (vis_of g h1).2 ((ex_ok k X q g cs).v _ h3) (set_any g.u65) (asg_noSlice h2)) sw_sub st_sub) fun D σ H hq => sub_read hq
    · cases h
  | aug i o e =>
    refine PSx.one rfl fun st h => ?_
    split at h
    · simp only [Bool.and_eq_true, Bool.not_eq_true', beq_iff_eq] at h
      obtain ⟨⟨⟨h1, h2⟩, h3⟩, h4⟩ := h
      obtain ⟨t1, t2, t3⟩ := tgn_name g h1
      exact PS.imp (ps_aug g.nd t1 t2 ((ex_ok e X q g cs).v _ h4) (pip_aug h3) t3) fun D σ H hq => aug_read h3 h2 hq
    · cases h
  | expr e =>
    refine PSx.one rfl fun st h => ?_
    split at h
    · simp only [Bool.and_eq_true, Bool.not_eq_true'] at h
      exact ps_expr_ ((ex_ok e X q g cs).v _ h.2) (sw_no h.1)
    · cases h
  | ret e =>
    refine PSx.one rfl fun st h => ?_
    split at h
    · exact ps_ret_ ((ex_ok e X q g cs).v _ h)
    · cases h
  | reto e =>
    refine PSx.one rfl fun st h => ?_
    split at h
    · rw [Bool.and_eq_true] at h
      exact ps_reto_ ((ex_ok e X q g cs).o h.1 _ h.2)
    · cases h
  | retv i =>
    refine PSx.one rfl fun st h => ?_
    split at h
    · exact ps_retv_ g h
    · cases h
  | retn =>
    refine PSx.one rfl fun st h => ?_
    split at h
    · exact ps_retn_
    · cases h
  | ife c a b iha ihb =>
    refine PSx.one rfl fun st h => ?_
    split at h
    · simp only [Bool.and_eq_true] at h
      exact ps_ife_ ((ex_ok c X q g cs).t _ h.1.1) (iha.ss _ h.1.2) (ihb.ss _ h.2)
    · cases h
  | for_ t it b ih =>
    refine PSx.one rfl fun st h => ?_
    split at h
    · rename_i tg iter body pos
      simp only [Bool.and_eq_true, Bool.or_eq_true, Bool.not_eq_true'] at h
      obtain ⟨⟨⟨⟨⟨h1, h2⟩, h3⟩, h4⟩, h5⟩, h6⟩ := h
      have hit : PI X tg iter (tI X.K (sem C it).it) := (ex_ok it X q g cs).it tg iter h5 fun hn => by
        rcases h3 with h3 | h3
        · rw [h3] at hn; cases hn
        · cases t with
          | nm i => cases h3
          | tp is =>
            unfold mTg at h4
            split at h4
            · rename_i heq; cases heq
            · exact ⟨_, _, _, rfl⟩
            · cases h4
      exact PS.imp (ps_for hp g.calm hit (pg_tg g h4) (ih.ss _ h6) (folded_of h2 X.env)) fun D σ H hq => for_read h1 hq
    · cases h
  | while_ c b ih =>
    refine PSx.one rfl fun st h => ?_
    split at h
    · simp only [Bool.and_eq_true] at h
      exact PS.imp (ps_while hp ((ex_ok c X q g cs).t _ h.1) (ih.ss _ h.2)) fun D σ H hq => while_read hq
    · cases h
  | pass =>
    refine PSx.one rfl fun st h => ?_
    split at h
    · exact ps_gives ps_pass (fun D σ H hq => hq) (fun o d z => by cases z)
    · exact ps_gives ps_doc (fun D σ H hq => hq) (fun o d z => by cases z)
    · cases h
  | brk =>
    refine PSx.one rfl fun st h => ?_
    split at h
    · exact ps_gives ps_break (fun D σ H hq => hq) (fun o d z => by cases z)
    · cases h
  | cont =>
    refine PSx.one rfl fun st h => ?_
    split at h
    · exact ps_gives ps_continue (fun D σ H hq => hq) (fun o d z => by cases z)
    · cases h
  | nev => exact ⟨fun st _ => PS.fails, fun st _ => PSs.fails⟩
  | nil =>
    refine ⟨fun st h => (by cases h), fun st h => ?_⟩
    have h : st.isEmpty = true := h
    rw [List.isEmpty_iff.mp h]
    exact pss_nil_
  | cons a b iha ihb =>
    refine ⟨fun st h => (by cases h), fun st h => ?_⟩
    simp only [ms] at h
    split at h
    · rw [Bool.and_eq_true] at h
      exact pss_seq (iha.s _ h.1) (ihb.ss _ h.2)
    · cases h
end FC

/-! Part 23: defs. -/
namespace FC
open PySem PySem.Spec PyProof.Rows L2
structure FnT where
  sg : Sig
  fi : FnI
  N : List Str
  sc : Scope
  body : List Stmt
def FnT.L (t : FnT) : Nat → Bool := fun i => t.fi.modes[i]? == some true
def FnT.q (t : FnT) : Scp := { sc := t.sc, fn := fun _ => true }
def FnT.Γ (t : FnT) (sigs : List Sig) (globs : List (Str × D)) : Gam := { N := t.N, sigs := sigs, globs := globs }
def okSc (t : FnT) : Bool := (t.fi.n == t.N.length) && decide (t.sg.modes = t.fi.modes) && (t.sg.own == t.fi.own) && (t.sg.ps.length == t.sg.modes.length) && decide (t.sc.kind = .function) && !t.sc.isCoroutine && !t.sc.isGenerator
  && decide t.N.Nodup && decide (t.N.take t.sg.ps.length = t.sg.ps) && (t.sg.ps.all fun x => t.sc.names.lookup x == some .local || t.sc.names.lookup x == some .cell) && (t.sc.names.all fun y => !(y.2 == .free))
def okFn (sigs : List Sig) (globs : List (Str × D)) (t : FnT) : Bool := okSc t && (ms (t.Γ sigs globs) t.q t.L t.fi.body).ss t.body

section
variable {K : PySem.W.Frag} {F H F' H' : Hp} {σ σ' : L2.St} {s s' : S}
theorem inR_at : ∀ {vs : List V} {ms : List Bool} {ds : List D}, InR K F H vs ms ds → vs.length = ms.length ∧ ds.length = ms.length ∧ ∀ (i : Nat) (b : B), (List.zipWith inB ms ds)[i]? = some b → ∃ v, vs[i]? = some v ∧ RB K F H v b ∧ (b.mine = true → ms[i]? = some true)
  | [], [], [], _ => ⟨rfl, rfl, fun i b h => by simp at h⟩
  | v :: vs, false :: ms, d :: ds, h => by
    obtain ⟨h1, h2⟩ := h
    obtain ⟨l1, l2, h3⟩ := inR_at h2
    refine ⟨by simp [l1], by simp [l2], fun i b e => ?_⟩
    cases i with
    | zero => simp [inB] at e; subst e; exact ⟨v, rfl, h1, fun z => by cases z⟩
    | succ i =>
      simp only [List.zipWith_cons_cons, List.getElem?_cons_succ] at e ⊢
      exact h3 i b e
  | v :: vs, true :: ms, d :: ds, h => by
    obtain ⟨h1, h2⟩ := h
    obtain ⟨l1, l2, h3⟩ := inR_at h2
    refine ⟨by simp [l1], by simp [l2], fun i b e => ?_⟩
    cases i with
    | zero => simp [inB] at e; subst e; exact ⟨v, rfl, h1, fun _ => rfl⟩
    | succ i =>
      simp only [List.zipWith_cons_cons, List.getElem?_cons_succ] at e ⊢
      exact h3 i b e
  | [], [], _ :: _, h => h.elim
  | [], _ :: _, _, h => h.elim
  | _ :: _, [], _, h => h.elim
  | _ :: _, true :: _, [], h => h.elim
  | _ :: _, false :: _, [], h => h.elim
theorem startS_at {fi : FnI} {ds : List D} {i : Nat} {b : B} (h : (startS fi ds)[i]? = some (some b)) : (List.zipWith inB fi.modes ds)[i]? = some b := by
  unfold startS at h
  rw [List.getElem?_append] at h
  split at h
  · rw [List.getElem?_map, Option.map_eq_some_iff] at h
    obtain ⟨c, h1, h2⟩ := h
    cases h2
    exact h1
  · rw [List.getElem?_replicate] at h
    split at h <;> cases h
theorem start_at {N : List Str} {vs : List V} {i : Nat} {v : V} (h : vs[i]? = some v) : (start N vs)[i]? = some (some v) := by
  unfold L2.start
  have hi : i < vs.length := (List.getElem?_eq_some_iff.mp h).1
  rw [List.getElem?_append_left (by simpa using hi), List.getElem?_map, h]
  rfl
theorem start_ref {N : List Str} {vs : List V} {i : Nat} {v w : V} (h : vs[i]? = some v) (e : (start N vs)[i]? = some (some w)) : v = w := by
  rw [start_at h] at e
  cases e
  rfl
theorem rs_start {fi : FnI} {N : List Str} {vs : List V} {ds : List D} (hn : fi.n = N.length) (hm : fi.modes.length ≤ N.length) (sub : Same F H) (h : InR K F H vs fi.modes ds) (dis : DisV vs fi.modes) :
    Rs K F H (start N vs) (startS fi ds) ∧ ∀ a, Ad (start N vs) (startS fi ds) a → AdV vs fi.modes a := by
  obtain ⟨l1, l2, h3⟩ := inR_at h
  have mine : ∀ {i : Nat} {b : B} {a : Addr}, (startS fi ds)[i]? = some (some b) → b.mine = true → (start N vs)[i]? = some (some (.ref a)) → fi.modes[i]? = some true ∧ vs[i]? = some (.ref a) := fun {i b a} e m ea => by
    obtain ⟨v, hv, _, hm⟩ := h3 i b (startS_at e)
    rw [start_ref hv ea] at hv
    exact ⟨hm m, hv⟩
  refine ⟨⟨sub, ?_, fun i b e => ?_, fun i j b c a e1 e2 m1 m2 a1 a2 => ?_⟩, fun a ⟨i, b, e, m, ea⟩ => ⟨i, mine e m ea⟩⟩
  · unfold L2.start startS
    simp only [List.length_append, List.length_map, List.length_replicate, List.length_zipWith, hn, l1, l2]
    omega
  · obtain ⟨v, hv, rb, _⟩ := h3 i b (startS_at e)
    exact ⟨v, start_at hv, rb⟩
  · obtain ⟨x1, x2⟩ := mine e1 m1 a1
    obtain ⟨y1, y2⟩ := mine e2 m2 a2
    exact dis i j a x1 y1 x2 y2
theorem lents_at : ∀ {ms : List Bool} {s : S} {ls : List D}, lentsOf ms s = some ls → ∀ i : Nat, ms[i]? = some true → ∃ d, s[i]? = some (some (B.lent d))
  | [], s, ls, _, i, h => by simp at h
  | false :: ms, s, ls, h, i, hi => by
    cases i with
    | zero => simp at hi
    | succ i =>
      obtain ⟨d, hd⟩ := lents_at (s := s.tail) h i (by simpa using hi)
      refine ⟨d, ?_⟩
      cases s with
      | nil => simp at hd
      | cons x s => simpa using hd
  | true :: ms, s, ls, h, i, hi => by
    simp only [lentsOf] at h
    split at h
    · rename_i d hd
      split at h
      · rename_i ds h2
        cases h
        cases s with
        | nil => simp at hd
        | cons x s =>
          cases i with
          | zero => exact ⟨d, by simpa using hd⟩
          | succ i =>
            obtain ⟨d', hd'⟩ := lents_at (s := s) h2 i (by simpa using hi)
            exact ⟨d', by simpa using hd'⟩
      · cases h
    · cases h
/-- what was lent lies behind the call where it lay -/
theorem back_of : ∀ {ms : List Bool} {vs : List V} {s : S} {σ : L2.St} {ls : List D}, vs.length = ms.length → lentsOf ms s = some ls →
    (∀ (i : Nat) (v : V), ms[i]? = some true → vs[i]? = some v → σ[i]? = some (some v)) → (∀ (i : Nat) (b : B), s[i]? = some (some b) → ∃ v, σ[i]? = some (some v) ∧ RB K F H v b) → BackR K F H vs ms ls
  | [], [], s, σ, ls, _, h, _, _ => by cases h; trivial
  | false :: ms, v :: vs, s, σ, ls, hl, h, h1, h2 => by
    refine back_of (ms := ms) (vs := vs) (s := s.tail) (σ := σ.tail) (by simpa using hl) h (fun i v e1 e2 => ?_) (fun i b e => ?_)
    · have := h1 (i + 1) v (by simpa using e1) (by simpa using e2)
      cases σ with
      | nil => simp at this
      | cons x σ => simpa using this
    · obtain ⟨v, hv, rb⟩ := h2 (i + 1) b (by cases s with
        | nil => simp at e
        | cons x s => simpa using e)
      refine ⟨v, ?_, rb⟩
      cases σ with
      | nil => simp at hv
      | cons x σ => simpa using hv
  | true :: ms, v :: vs, s, σ, ls, hl, h, h1, h2 => by
    simp only [lentsOf] at h
    split at h
    · rename_i d hd
      split at h
      · rename_i ds h3
        cases h
        have e0 : s[0]? = some (some (.lent d)) := by
          cases s with
          | nil => simp at hd
          | cons x s => simpa using hd
        obtain ⟨v', hv', rb⟩ := h2 0 _ e0
        have := h1 0 v rfl rfl
        rw [this] at hv'
        cases hv'
        refine ⟨rb, back_of (ms := ms) (vs := vs) (s := s.tail) (σ := σ.tail) (by simpa using hl) h3 (fun i v e1 e2 => ?_) (fun i b e => ?_)⟩
        · have := h1 (i + 1) v (by simpa using e1) (by simpa using e2)
          cases σ with
          | nil => simp at this
          | cons x σ => simpa using this
        · obtain ⟨v, hv, rb⟩ := h2 (i + 1) b (by cases s with
            | nil => simp at e
            | cons x s => simpa using e)
          refine ⟨v, ?_, rb⟩
          cases σ with
          | nil => simp at hv
          | cons x σ => simpa using hv
      · cases h
    · cases h
  | [], _ :: _, _, _, _, hl, _, _, _ => by simp at hl
  | _ :: _, [], _, _, _, hl, _, _, _ => by simp at hl
end

/-- a def as the head leaves it -/
structure HdF (K : PySem.W.Frag) (mg : Str → Option Value) (t : FnT) (ad : Addr) (fd : FuncData) : Prop where
  fn : ∃ (x qual : Str) (params : Arguments) (dvs : List V) (kws : List (Str × V)), FunD K x qual params t.body t.sc dvs kws ad fd
  mg : mg t.sg.name = some (.ref ad)
  bd : Binds K fd t.sg.ps []
  kb : ∀ x ∈ t.sg.kws, KBn K fd t.sg.ps x.1 x.2.1 (fun us ws => pick x.2.2 (us ++ ws)) (fun vs zs => pick x.2.2 (vs ++ zs))
structure HdG (K : PySem.W.Frag) (mg : Str → Option Value) (globs : List (Str × D)) : Prop where
  mgb : ∀ x ∈ blts, mg x = none
  gv : ∀ p ∈ globs, ∃ u, mg p.1 = some u ∧ (match p.2 with
    | .int i => RelV (.int i) u
    | .str t => RelV (.str t) u
    | _ => False)
theorem fns_ok {P : Program} {w : World} {K : PySem.W.Frag} {mg : Str → Option Value} {base : Heap} {Fs : List FnT} {globs : List (Str × D)} {wf : Nat} (hg : HdG K mg globs) (hf : ∀ t ∈ Fs, ∃ ad fd, HdF K mg t ad fd)
    (ok : Fs.all (okFn (Fs.map (·.sg)) globs) = true) : ∀ (n f : Nat) (t : FnT) (ad : Addr) (fd : FuncData), Fs[f]? = some t → HdF K mg t ad fd → FnOk P w K mg base CX0 n ad fd t.sg.ps (spF K (run (Fs.map (·.fi)) wf n) f t.sg) := by
  intro n
  induction n with
  | zero =>
    intro f t ad fd ht hd
    refine ⟨fun vs H Q E h => ?_, fun A outer s H args us vs Q E _ _ _ _ h => ?_⟩
    · obtain ⟨F, ds, r, ls, _, hl, _⟩ := h
      exact hl
    · obtain ⟨F, ds, r, ls, _, _, _, _, e, _⟩ := h
      cases e
  | succ n ih =>
    intro f t ad fd ht hd
    have okt := List.all_eq_true.mp ok t (List.mem_of_getElem? ht)
    unfold okFn okSc at okt
    simp only [Bool.and_eq_true, beq_iff_eq, decide_eq_true_eq, Bool.not_eq_true', List.all_eq_true, Bool.or_eq_true] at okt
    obtain ⟨⟨⟨⟨⟨⟨⟨⟨⟨⟨⟨o1, o2⟩, o3⟩, o4⟩, o5⟩, o6⟩, o7⟩, o8⟩, o9⟩, o10⟩, o11⟩, o12⟩ := okt
    obtain ⟨x, qual, params, dvs, kws, FD⟩ := hd.fn
    have hpl : t.sg.ps.length ≤ t.N.length := by
      have := congrArg List.length o9
      rw [List.length_take] at this
      omega
    refine FD.ok (N := t.N) ⟨o5, o6, o7, o8, o9, o10, fun y hy z => by have := o11 y hy; rw [z] at this; cases this⟩ (fun vs H Q E h => ?_) fun cdv A outer s H vs Q E hr h => ?_
    · obtain ⟨F, ds, r, ls, _, hl, _⟩ := h
      exact hl
    · obtain ⟨F, ds, r, ls, sub, hl, hin, dis, e, k⟩ := h
      -- the body
      have gd : Gd (cxOf CX0 P w K mg base t.N qual t.sc ad cdv A outer s H E).nox (t.Γ (Fs.map (·.sg)) globs) t.q :=
        ⟨rfl, o8, rfl, by have := hr.un; show (A.deeper _).units + 70 < cLine; omega, hg.mgb, rfl, rfl, rfl, hg.gv⟩
      have cs : ∀ f sg, (t.Γ (Fs.map (·.sg)) globs).sigs[f]? = some sg → CallOk (cxOf CX0 P w K mg base t.N qual t.sc ad cdv A outer s H E).nox (run (Fs.map (·.fi)) wf n) f sg := fun f' sg' e' => by
        have e' : (Fs.map (·.sg))[f']? = some sg' := e'
        rw [List.getElem?_map, Option.map_eq_some_iff] at e'
        obtain ⟨t', ht', rfl⟩ := e'
        obtain ⟨ad', fd', hd'⟩ := hf t' (List.mem_of_getElem? ht')
        obtain ⟨_, _, _, _, _, FD'⟩ := hd'.fn
        exact ⟨n, ad', fd', ih f' t' ad' fd' ht' hd', hr, hd'.mg, FD'.kp, hd'.bd, hd'.kb⟩
      have body := (sx_ok (w := wf) (L := t.L) gd cs o5 PassesOwn.never t.fi.body).ss t.body o12
      refine ⟨_, PSs.nox body, ?_⟩
      -- its reading
      simp only [run, List.getElem?_map, ht, Option.map_some] at e
      split at e
      · rename_i hds
        rw [o2] at hin dis k
        obtain ⟨rs0, ad0⟩ := rs_start (N := t.N) o1 (by rw [← o2, ← o4]; exact hpl) sub hin dis
        obtain ⟨lv, ld, _⟩ := inR_at hin
        cases hb : stm wf (run (Fs.map (·.fi)) wf n) t.fi.body (startS t.fi ds) with
        | none => rw [hb] at e; cases e
        | some r0 =>
          obtain ⟨fl, s'⟩ := r0
          rw [hb] at e
          -- behind the body
          have fin : ∀ {v : V} {σ' : L2.St} {F' H' : Hp} {ls : List D}, Aft K t.L F H (start t.N vs) (startS t.fi ds) F' H' σ' s' → lentsOf t.fi.modes s' = some ls →
              Same F' H' ∧ Ext (AdV vs t.fi.modes) F H F' H' ∧ BackR K F' H' vs t.fi.modes ls ∧ ∀ a, Ad (start t.N vs) (startS t.fi ds) a → Ad σ' s' a := fun {v σ' F' H' ls} a hls => by
            have keep : ∀ (i : Nat) (v : V), t.fi.modes[i]? = some true → vs[i]? = some v → σ'[i]? = some (some v) := fun i v e1 e2 => by
              rw [a.lk i (by unfold FnT.L; rw [e1]; rfl)]
              exact start_at e2
            refine ⟨a.rs.sub, a.ex.mono ad0, back_of lv hls keep a.rs.at_, fun b z => ?_⟩
            obtain ⟨i, e1, e2⟩ := ad0 b z
            obtain ⟨d, hd⟩ := lents_at hls i e1
            exact ⟨i, _, hd, rfl, keep i _ e1 e2⟩
          refine ⟨startS t.fi ds, F, fl, s', rs0, hb, fun v σ' F' H' a ff => ?_⟩
          cases fl with
          | nx =>
            simp only [endD] at e
            split at e
            · rename_i ho
              split at e
              · rename_i ls' hls
                cases e
                obtain ⟨f1, f2, f3, _⟩ := fin (v := v) a hls
                refine k .non F' H' f1 f2 f3 ?_
                rw [o3, ho, if_neg Bool.false_ne_true]
                exact .non
              · cases e
            · cases e
          | bk => cases e
          | ct => cases e
          | rt o d =>
            simp only [endD] at e
            split at e
            · rename_i ho
              split at e
              · rename_i ls' hls
                cases e
                obtain ⟨f1, f2, f3, f4⟩ := fin (v := v) a hls
                refine k v F' H' f1 f2 f3 ?_
                rw [o3, ← ho]
                cases o with
                | false =>
                  rw [if_neg Bool.false_ne_true]
                  exact ff
                | true =>
                  rw [if_pos rfl]
                  obtain ⟨hn, b, eb, hF, ob, nA, hor⟩ := ff
                  refine ⟨hn, b, eb, ?_, hF, ob⟩
                  rcases hor with z | z
                  · exact absurd (f4 b z) nA
                  · exact z
              · cases e
            · cases e
      · cases e
end FC

/-! Part 24: the head. -/
namespace FC
open PySem PySem.Spec PyProof.Rows L2

/-! ### a written part without lists -/
def isLst (o : Obj) : Bool := match o.cls with
  | .type c => decide (c = "list")
  | _ => false
def noLs (K : PySem.W.Frag) : PySem.W.Frag := K.filter fun p => !isLst p.2
theorem lookup_mem {K : PySem.W.Frag} {a : Addr} {o : Obj} (h : K.lookup a = some o) : (a, o) ∈ K := by
  induction K with
  | nil => cases h
  | cons p K ih =>
    obtain ⟨b, u⟩ := p
    rw [List.lookup_cons] at h
    split at h
    · rename_i e
      cases h
      rw [show a = b from by simpa using e]
      exact List.mem_cons_self
    · exact List.mem_cons_of_mem _ (ih h)
theorem frG_mem {g : Addr → Option Obj} {as : List Addr} {a : Addr} {o : Obj} (h : (a, o) ∈ He.frG g as) : g a = some o := by
  unfold He.frG at h
  obtain ⟨b, _, e⟩ := List.mem_filterMap.mp h
  cases q : g b with
  | none => rw [q] at e; cases e
  | some u =>
    rw [q] at e
    cases e
    exact q
theorem noLs_in {g : Addr → Option Obj} {as : List Addr} {a : Addr} {o : Obj} (h : (noLs (He.frG g as)).lookup a = some o) : g a = some o :=
  frG_mem (List.mem_filter.mp (lookup_mem h)).1
def NoL (K : PySem.W.Frag) : Prop := ∀ a o, K.lookup a = some o → isLst o = false
theorem noLs_no {K : PySem.W.Frag} : NoL (noLs K) := fun a o h => by
  have := (List.mem_filter.mp (lookup_mem h)).2
  simpa using this
theorem NoL.sq {K : PySem.W.Frag} (n : NoL K) {H : Hp} {a : Addr} {xs : List V} (h : SqL K H a xs) : Rd H a (.lst xs) := by
  rcases h with h | ⟨o, its, m, hk, hc, _⟩
  · exact h
  · have := n a o hk
    unfold isLst at this
    rw [hc] at this
    cases this
def obsN (n : Nat) (fa : List He.Fa) (fn : List He.DefD) (g : Addr → Option Obj) : He.AlD := He.obsD fa fn (noLs (He.frG g (He.asD g n)))
def hookN (n : Nat) (fa : List He.Fa) (fn : List He.DefD) : PySem.W.Hook where
  α := He.AlD
  obs := fun s => obsN n fa fn s.heap.get?
  val := fun _ => He.valD fn
  says := fun _ h => ∃ K : PySem.W.Frag, K.In h ∧ He.SaysD fa fn K ∧ NoL K
  of := fun _ _ e => ⟨_, fun a o h => noLs_in h, e, noLs_no⟩
  keeps := fun _ _ _ ⟨K, hK, c⟩ k => ⟨K, PySem.W.Frag.In.keeps hK k, c⟩
theorem obsN_eq {n : Nat} {fa : List He.Fa} {fn : List He.DefD} {g : Addr → Option Obj} {s : Shared} (h : ∀ a, g a = s.heap.get? a) : obsN n fa fn g = (hookN n fa fn).obs s := by
  have e : g = s.heap.get? := funext h
  rw [e] <;> rfl

/-! ### how a def binds -/
theorem pick_vals {vs : List V} {us : List Value} (h : Vals vs us) : ∀ {perm : List Nat}, Vals (pick perm vs) (pick perm us) := by
  intro perm
  induction perm with
  | nil => exact .nil
  | cons i perm ih =>
    unfold pick at ih ⊢
    rw [List.filterMap_cons, List.filterMap_cons]
    have : (∃ v u, vs[i]? = some v ∧ us[i]? = some u ∧ RelV v u) ∨ (vs[i]? = none ∧ us[i]? = none) := by
      clear ih
      induction h generalizing i with
      | nil => exact .inr ⟨rfl, rfl⟩
      | cons r _ ih =>
        cases i with
        | zero => exact .inl ⟨_, _, rfl, rfl, r⟩
        | succ i => simpa using ih i
    rcases this with ⟨v, u, e1, e2, r⟩ | ⟨e1, e2⟩
    · rw [e1, e2]
      exact .cons r ih
    · rw [e1, e2]
      exact ih
section
variable {K : PySem.W.Frag} {x qual : Str} {params : Arguments} {body : List Stmt} {scope : Scope} {kws : List (Str × V)} {f : Addr} {fd : FuncData} {ps : List Str}
theorem kbn_of (F : FunD K x qual params body scope [] kws f fd) {n : Nat} {ks : List Str} {perm : List Nat}
    (h : ∀ (kV doc pm : Value) (an : Option Addr) (cdv ct : Value) (us ws : List Value), us.length = n → ws.length = ks.length → bindArgs (PySem.W.fnOf x qual params body scope .none kV doc pm an cdv ct) ⟨us, ks.zip ws⟩ = pure (ps.zip (pick perm (us ++ ws)))) :
    KBn K fd ps n ks (fun us ws => pick perm (us ++ ws)) (fun vs zs => pick perm (vs ++ zs)) := by
  obtain ⟨oc, od, dV, kV, doc, pm, an, cdv, ct, osl, rfl, lk, hcd, hD, hK⟩ := F.ex
  rcases hD with ⟨_, rfl⟩ | ⟨e, _⟩
  · exact ⟨fun s us ws _ h1 h2 => .of_eq (h kV doc pm an cdv ct us ws h1 h2), fun r1 r2 => pick_vals (r1.append r2)⟩
  · exact absurd rfl e
end

/-! ### the facts of all defs -/
structure Df where
  t : FnT
  ps : Arguments
def Df.d (x : Df) : He.DefD := ⟨(x.t.sg.name, none), x.t.sg.name, x.t.sg.name, x.ps, x.t.body, x.t.sc, [], []⟩
/-- how the defs bind: told by computing -/
structure BindOk (x : Df) : Prop where
  all : ∀ (kV doc pm : Value) (an : Option Addr) (cdv ct : Value) (us : List Value), us.length = x.t.sg.ps.length → bindArgs (PySem.W.fnOf x.t.sg.name x.t.sg.name x.ps x.t.body x.t.sc .none kV doc pm an cdv ct) ⟨us, []⟩ = pure (x.t.sg.ps.zip us)
  kw : ∀ t ∈ x.t.sg.kws, ∀ (kV doc pm : Value) (an : Option Addr) (cdv ct : Value) (us ws : List Value), us.length = t.1 → ws.length = t.2.1.length → bindArgs (PySem.W.fnOf x.t.sg.name x.t.sg.name x.ps x.t.body x.t.sc .none kV doc pm an cdv ct) ⟨us, t.2.1.zip ws⟩ = pure (x.t.sg.ps.zip (pick t.2.2 (us ++ ws)))
def globFa : Str × D → Option He.Fa
  | (x, .int i) => some (.int x i)
  | (x, .str z) => some (.str x z)
  | _ => none
def allFa (ds : List Df) (globs : List (Str × D)) : List He.Fa := ds.map (fun x => .glo x.t.sg.name) ++ blts.map .free ++ globs.filterMap globFa
theorem facts_of {ds : List Df} {globs : List (Str × D)} {K : PySem.W.Frag} {h : Heap} {mg : Str → Option Value} (X : K.In h) (G : h.Ns mainGlobals mg) (c : He.SaysD (allFa ds globs) (ds.map Df.d) K)
    (hb : ∀ x ∈ ds, BindOk x) (hgl : globs.all (fun p => (globFa p).isSome) = true) : HdG K mg globs ∧ ∀ x ∈ ds, ∃ fd, HdF K mg x.t (He.ga K x.t.sg.name) fd := by
  have fa : ∀ f ∈ allFa ds globs, f.ok K = true := fun f hf => by
    obtain ⟨i, hi⟩ := List.getElem?_of_mem hf
    exact c.fact i hi
  refine ⟨⟨fun x hx => He.free_ok X G (fa _ ?_), fun p hp => ?_⟩, fun x hx => ?_⟩
  · exact List.mem_append_left _ (List.mem_append_right _ (List.mem_map.mpr ⟨x, hx, rfl⟩))
  · have hs := List.all_eq_true.mp hgl p hp
    obtain ⟨x, d⟩ := p
    cases d with
    | int i =>
      obtain ⟨t, e⟩ := He.int_ok X G (fa (.int x i) (List.mem_append_right _ (List.mem_filterMap.mpr ⟨(x, .int i), hp, rfl⟩)))
      exact ⟨_, e, t, rfl⟩
    | str z =>
      obtain ⟨t, e⟩ := He.str_ok X G (fa (.str x z) (List.mem_append_right _ (List.mem_filterMap.mpr ⟨(x, .str z), hp, rfl⟩)))
      exact ⟨_, e, t, rfl⟩
    | _ => cases hs
  · obtain ⟨i, hi⟩ := List.getElem?_of_mem hx
    have hi' : (ds.map Df.d)[i]? = some x.d := by rw [List.getElem?_map, hi]; rfl
    obtain ⟨fd, F⟩ := c.def_ i (d := x.d) hi'
    have F' : FunD K x.t.sg.name x.t.sg.name x.ps x.t.body x.t.sc [] [] (He.ga K x.t.sg.name) fd := F
    refine ⟨fd, ⟨⟨_, _, _, _, _, F'⟩, He.glo_ok X G (fa (.glo x.t.sg.name) (List.mem_append_left _ (List.mem_append_left _ (List.mem_map.mpr ⟨x, hx, rfl⟩)))), F'.bindsN (hb x hx).all, fun t ht => kbn_of F' ((hb x hx).kw t ht)⟩⟩
/-- the law itself -/
theorem law_of {ds : List Df} {globs : List (Str × D)} {P : Program} {w : World} {K : PySem.W.Frag} {h : Heap} {mg : Str → Option Value} {fa : Addr} {i : Nat} {x : Df} {v : Str} {n wf k : Nat} (X : K.In h) (G : h.Ns mainGlobals mg) (hfa : mg x.t.sg.name = some (.ref fa)) (c : He.SaysD (allFa ds globs) (ds.map Df.d) K) (nl : NoL K)
    (hb : ∀ x ∈ ds, BindOk x) (hgl : globs.all (fun p => (globFa p).isSome) = true) (ok : (ds.map (·.t)).all (okFn ((ds.map (·.t)).map (·.sg)) globs) = true) (hx : ds[i]? = some x) (hps : x.t.sg.ps = [v]) (hmo : x.t.sg.modes = [false]) (how : x.t.sg.own = false)
    (hrun : ∀ ns : List Int, ns.length ≤ n → run ((ds.map (·.t)).map (·.fi)) wf k i [.list (ns.map .int)] = some (.bool true, [])) :
    ∃ (K : PySem.W.Frag) (fd : FuncData) (sp : Sp), K.In h ∧ (∀ (s : Shared) (u : Value), BindsTo s fd ⟨[u], []⟩ [(v, u)]) ∧
      (∀ (H : Hp) (a : Addr) (ns : List Int), ns.length ≤ n → Only H → SqL K H a (ns.map V.int) → sp [.ref a] H (fun v _ => v = .bl true) fun _ _ _ => False) ∧
      ∀ base : Heap, K.In base → base.Ns mainGlobals mg → FnOk P w K mg base CX0 k fa fd [v] sp := by
  obtain ⟨hG, hF⟩ := facts_of X G c hb hgl
  obtain ⟨fd, F⟩ := hF x (List.mem_of_getElem? hx)
  have e := hfa.symm.trans F.mg
  cases e
  have hmem := List.mem_of_getElem? hx
  have hxi : (ds.map (·.t))[i]? = some x.t := by rw [List.getElem?_map, hx]; rfl
  refine ⟨K, fd, spF K (run ((ds.map (·.t)).map (·.fi)) wf k) i x.t.sg, X, fun s u => ?_, fun H a ns hl _ hS => ?_, fun base _ _ => ?_⟩
  · obtain ⟨j, hj⟩ := List.getElem?_of_mem hmem
    have hj' : (ds.map Df.d)[i]? = some x.d := by rw [List.getElem?_map, hx]; rfl
    obtain ⟨fd', F'⟩ := c.def_ i (d := x.d) hj'
    have F' : FunD K x.t.sg.name x.t.sg.name x.ps x.t.body x.t.sc [] [] (He.ga K x.t.sg.name) fd' := F'
    obtain ⟨_, _, _, _, _, F2⟩ := F.fn
    have same : fd' = fd := by
      obtain ⟨_, _, _, _, _, _, _, _, _, _, _, l1, _⟩ := F'.ex
      obtain ⟨_, _, _, _, _, _, _, _, _, _, _, l2, _⟩ := F2.ex
      rw [l1] at l2
      cases l2
      rfl
    subst same
    have b := FunD.bindsA (ps := x.t.sg.ps) F' (hb x hmem).all s [u] (by rw [hps]; rfl)
    rw [hps] at b
    exact b
  · refine ⟨H, [.list (ns.map .int)], .bool true, [], Same.refl, by rw [hps]; rfl, ?_, ?_, hrun ns hl, fun v F' H' _ _ _ hr => ?_⟩
    · rw [hmo]
      exact ⟨.lst (nl.sq hS) (rps_ints ns), trivial⟩
    · rw [hmo]
      intro i j a h1 h2
      cases i with
      | zero => cases h1
      | succ i => simp at h1
    · rw [how, if_neg Bool.false_ne_true] at hr
      cases hr
      rfl
  · have := fns_ok (P := P) (w := w) (base := base) (wf := wf) hG (fun t ht => by
      obtain ⟨y, hy, rfl⟩ := List.mem_map.mp ht
      obtain ⟨fd, F⟩ := hF y hy
      exact ⟨_, fd, F⟩) ok k i x.t _ fd hxi F
    rw [hps] at this
    exact this
end FC

/-! Part 25: how the evaluator is worked out. -/
namespace FC
open PySem
section
variable {α β : Type} {s s' : S} {C : Calls} {w : Nat}
@[simp] theorem bnd_run {m : M α} {f : α → M β} : bnd m f s = (match m s with
  | none => none
  | some (a, s') => f a s') := rfl
@[simp] theorem gives_run {a : α} : gives a s = some (a, s) := rfl
@[simp] theorem fails_run : (fails : M α) s = none := rfl
@[simp] theorem lift_run {a : α} : lift (some a) s = some (a, s) := rfl
@[simp] theorem lift_no : lift (none : Option α) s = none := rfl
@[simp] theorem mk_v {m : M D} : (mk m).v = m := rfl
@[simp] theorem mk_t {m : M D} : (mk m).t = bnd m fun d => lift (truD d) := rfl
@[simp] theorem mk_a {m : M D} : (mk m).a = bnd m fun d => gives (.vl d) := rfl
@[simp] theorem opD1 {o : Op} {a : D} : opD o [a] = op1 o a := rfl
@[simp] theorem opD2 {o : Op} {a b : D} : opD o [a, b] = op2 o a b := rfl
@[simp] theorem resA_pl {i : Nat} : resA s (.pl i) = (match s[i]? with
    | some (some b) => some b.d
    | _ => none) := rfl
@[simp] theorem resA_ln {i : Nat} : resA s (.ln i) = (match s[i]? with
    | some (some (.own d)) => some d
    | some (some (.lent d)) => some d
    | _ => none) := rfl
@[simp] theorem resA_vl {d : D} : resA s (.vl d) = some d := rfl
@[simp] theorem resA_ow {d : D} : resA s (.ow d) = some d := rfl
@[simp] theorem resAs_nil : resAs s [] = some [] := rfl
@[simp] theorem resAs_cons {a : Ar} {r : List Ar} : resAs s (a :: r) = (match resA s a, resAs s r with
    | some d, some ds => some (d :: ds)
    | _, _ => none) := rfl
@[simp] theorem valsA_nil : valsA [] = some [] := rfl
@[simp] theorem valsA_cons {d : D} {r : List Ar} : valsA (.vl d :: r) = (match valsA r with
    | some ds => some (d :: ds)
    | none => none) := rfl
@[simp] theorem B_val {d : D} : (B.val d).d = d := rfl
@[simp] theorem B_own {d : D} : (B.own d).d = d := rfl
@[simp] theorem B_lent {d : D} : (B.lent d).d = d := rfl
end
theorem run_at {T : List FnI} {w n f : Nat} {fi : FnI} {ds : List D} (h : T[f]? = some fi) (hl : ds.length = fi.modes.length) : run T w (n + 1) f ds = endD fi (stm w (run T w n) fi.body (startS fi ds)) := by
  simp only [run, h, hl, if_true]

/-! ### comprehensions -/
theorem wipeS_len' (s : S) : ∀ vs : List Nat, (wipeS s vs).length = s.length
  | [] => rfl
  | v :: vs => by unfold wipeS; rw [List.length_set, wipeS_len' s vs]
theorem wipeS_eq {s s' : S} {vs : List Nat} (hl : s'.length = s.length) (h : ∀ i, i ∉ vs → s'[i]? = s[i]?) : wipeS s' vs = wipeS s vs := by
  have key : ∀ (vs : List Nat) (s : S) (i : Nat), (wipeS s vs)[i]? = if i ∈ vs then (if i < s.length then some none else none) else s[i]? := by
    intro vs
    induction vs with
    | nil => intro s i; simp [wipeS]
    | cons v vs ih =>
      intro s i
      unfold wipeS
      by_cases hv : v = i
      · subst hv
        by_cases hi : v < s.length
        · rw [List.getElem?_set_self (by rw [wipeS_len']; exact hi)]; simp [hi]
        · rw [List.getElem?_eq_none (by rw [List.length_set, wipeS_len']; omega)]; simp [hi]
      · rw [List.getElem?_set_ne hv, ih]
        simp [Ne.symm hv]
  apply List.ext_getElem?
  intro i
  rw [key, key, hl]
  split
  · rfl
  · rename_i hi; exact h i hi
theorem restS_self (s : S) : ∀ vs : List Nat, restS s s vs = s
  | [] => rfl
  | v :: vs => by
    unfold restS
    rw [restS_self s vs]
    apply List.ext_getElem?
    intro i
    by_cases hv : v = i
    · subst hv
      by_cases hi : v < s.length
      · rw [List.getElem?_set_self hi, List.getElem?_eq_getElem hi]; rfl
      · rw [List.getElem?_eq_none (by simpa using hi), List.getElem?_eq_none (by simpa using hi)]
    · rw [List.getElem?_set_ne hv]
/-- a comprehension's loop, with a law of what is found and of the slots -/
theorem compLoop_inv {t : Tg} {ifs : M Bool} {e : M D} (P : List D → S → Prop) : ∀ (ds acc : List D) (s : S), P acc s → acc.length + ds.length ≤ sizeLine →
    (∀ d ∈ ds, ∀ acc s, P acc s → ∃ s1 b s2, bindT t d (wipeS s t.slots) = some s1 ∧ ifs s1 = some (b, s2) ∧ (if b then ∃ y s3, e s2 = some (y, s3) ∧ P (acc ++ [y]) s3 else P acc s2)) →
    ∃ ys s', compLoop t ifs e ds acc s = some (ys, s') ∧ P ys s'
  | [], acc, s, p, _, _ => ⟨acc, s, rfl, p⟩
  | d :: ds, acc, s, p, hl, h => by
    obtain ⟨s1, b, s2, e1, e2, e3⟩ := h d List.mem_cons_self acc s p
    rw [List.length_cons] at hl
    simp only [compLoop, e1, e2]
    cases b with
    | false =>
      exact compLoop_inv P ds acc s2 e3 (by omega) fun d hd => h d (List.mem_cons_of_mem _ hd)
    | true =>
      obtain ⟨y, s3, e4, e5⟩ := e3
      simp only [e4]
      rw [if_pos (by omega)]
      exact compLoop_inv P ds (acc ++ [y]) s3 e5 (by rw [List.length_append, List.length_singleton]; omega) fun d hd => h d (List.mem_cons_of_mem _ hd)
/-- the slots stay, each item is worked out by itself -/
theorem compLoop_map {t : Tg} {ifs : M Bool} {e : M D} {s0 : S} (f : D → D) : ∀ (ds acc : List D) (s : S), wipeS s t.slots = wipeS s0 t.slots → acc.length + ds.length ≤ sizeLine →
    (∀ d ∈ ds, ∃ s1 s2 s3, bindT t d (wipeS s0 t.slots) = some s1 ∧ ifs s1 = some (true, s2) ∧ e s2 = some (f d, s3) ∧ wipeS s3 t.slots = wipeS s0 t.slots) →
    ∃ s', compLoop t ifs e ds acc s = some (acc ++ ds.map f, s') ∧ wipeS s' t.slots = wipeS s0 t.slots
  | [], acc, s, p, _, _ => ⟨s, by simp [compLoop], p⟩
  | d :: ds, acc, s, p, hl, h => by
    obtain ⟨s1, s2, s3, e1, e2, e3, e4⟩ := h d List.mem_cons_self
    rw [List.length_cons] at hl
    simp only [compLoop, p, e1, e2, e3]
    rw [if_pos (by omega)]
    obtain ⟨s', h1, h2⟩ := compLoop_map f ds (acc ++ [f d]) s3 e4 (by rw [List.length_append, List.length_singleton]; omega) fun d hd => h d (List.mem_cons_of_mem _ hd)
    exact ⟨s', by rw [h1]; simp, h2⟩
theorem restS_wipe {s0 s s' : S} : ∀ {vs : List Nat}, wipeS s' vs = wipeS s vs → s.length = s0.length → (∀ i, i ∉ vs → s[i]? = s0[i]?) → restS s0 s' vs = s0 := by
  intro vs h hl ho
  have len : ∀ (vs : List Nat) (s' : S), (restS s0 s' vs).length = s'.length := by
    intro vs
    induction vs with
    | nil => intro s'; rfl
    | cons v vs ih => intro s'; unfold restS; rw [List.length_set, ih]
  have key : ∀ (vs : List Nat) (s' : S) (i : Nat), (restS s0 s' vs)[i]? = if i ∈ vs then (if i < s'.length then some ((s0[i]?).getD none) else none) else s'[i]? := by
    intro vs
    induction vs with
    | nil => intro s i; simp [restS]
    | cons v vs ih =>
      intro s' i
      unfold restS
      by_cases hv : v = i
      · subst hv
        by_cases hi : v < s'.length
        · rw [List.getElem?_set_self (by rw [len]; exact hi)]; simp [hi]
        · rw [List.getElem?_eq_none (by rw [List.length_set, len]; omega)]; simp [hi]
      · rw [List.getElem?_set_ne hv, ih]
        simp [Ne.symm hv]
  have hl' : s'.length = s.length := by
    have := congrArg List.length h
    rwa [wipeS_len', wipeS_len'] at this
  apply List.ext_getElem?
  intro i
  rw [key]
  split
  · split
    · rw [List.getElem?_eq_getElem (by omega)]; rfl
    · rw [List.getElem?_eq_none (by omega)]
  · rename_i hi
    have e1 : ∀ (vs : List Nat) (s : S), i ∉ vs → (wipeS s vs)[i]? = s[i]? := by
      intro vs
      induction vs with
      | nil => intro s _; rfl
      | cons v vs ih =>
        intro s hn
        unfold wipeS
        rw [List.getElem?_set_ne (show v ≠ i from fun z => hn (by rw [z]; exact List.mem_cons_self)), ih s fun z => hn (List.mem_cons_of_mem _ z)]
    rw [← e1 vs s' hi, h, e1 vs s hi, ho i hi]
theorem compM_map {t : Tg} {it : M (List D)} {ifs : M Bool} {e : M D} {s s0 : S} {ds : List D} (f : D → D) (h0 : it s = some (ds, s0)) (hp : t.slots.all (plainS s0) = true) (hl : ds.length ≤ sizeLine)
    (h : ∀ d ∈ ds, ∃ s1 s2 s3, bindT t d (wipeS s0 t.slots) = some s1 ∧ ifs s1 = some (true, s2) ∧ e s2 = some (f d, s3) ∧ wipeS s3 t.slots = wipeS s0 t.slots) :
    compM t it ifs e s = some (.list (ds.map f), s0) := by
  obtain ⟨s', h1, h2⟩ := compLoop_map (s0 := s0) f ds [] s0 rfl (by simpa using hl) h
  simp only [compM, h0, hp, if_true, h1, List.nil_append]
  rw [restS_wipe h2 rfl fun _ _ => rfl]
/-- a loop with a law by the turn -/
theorem forLoop_inv {t : Tg} {b : M Fl} (P : Nat → S → Prop) (ds : List D) (hs : ∀ i d s, ds[i]? = some d → P i s → ∃ s1 s2, bindT t d s = some s1 ∧ (b s1 = some (.nx, s2) ∨ b s1 = some (.ct, s2)) ∧ P (i + 1) s2) (s : S) (h0 : P 0 s) :
    ∃ s', forLoop t b ds s = some (.nx, s') ∧ P ds.length s' := by
  have go : ∀ (k i : Nat) (s : S), k = ds.length - i → i ≤ ds.length → P i s → ∃ s', forLoop t b (ds.drop i) s = some (.nx, s') ∧ P ds.length s' := by
    intro k
    induction k with
    | zero =>
      intro i s hk hi p
      have : i = ds.length := by omega
      subst this
      exact ⟨s, by rw [List.drop_length]; rfl, p⟩
    | succ k ih =>
      intro i s hk hi p
      have hlt : i < ds.length := by omega
      obtain ⟨s1, s2, e1, e2, p2⟩ := hs i ds[i] s (List.getElem?_eq_getElem hlt) p
      obtain ⟨s', e3, p3⟩ := ih (i + 1) s2 (by omega) hlt p2
      refine ⟨s', ?_, p3⟩
      rw [List.drop_eq_getElem_cons hlt]
      simp only [forLoop, e1]
      rcases e2 with e2 | e2
      · simp only [e2, e3]
      · simp only [e2, e3]
  obtain ⟨s', h1, h2⟩ := go ds.length 0 s (by simp) (Nat.zero_le _) h0
  exact ⟨s', by simpa using h1, h2⟩
end FC

/-! Part 26: the evaluator's equations. -/
namespace FC
open PySem
def isLent : Option B → Bool
  | some (.lent _) => true
  | _ => false
def isPlain : Option B → Bool
  | none => true
  | some (.val _) => true
  | _ => false
/-- a slot with a value, or with none -/
def pv (x : Option D) : Option B := x.map .val
@[simp] theorem lent_lent {d : D} : isLent (some (.lent d)) = true := rfl
@[simp] theorem lent_val {d : D} : isLent (some (.val d)) = false := rfl
@[simp] theorem lent_own {d : D} : isLent (some (.own d)) = false := rfl
@[simp] theorem lent_none : isLent none = false := rfl
@[simp] theorem lent_pv {x : Option D} : isLent (pv x) = false := by cases x <;> rfl
@[simp] theorem lent_map {x : Option D} : isLent (x.map .val) = false := by cases x <;> rfl
@[simp] theorem isPl_val {d : D} : isPlain (some (.val d)) = true := rfl
@[simp] theorem isPl_none : isPlain none = true := rfl
@[simp] theorem isPl_own {d : D} : isPlain (some (.own d)) = false := rfl
@[simp] theorem isPl_lent {d : D} : isPlain (some (.lent d)) = false := rfl
@[simp] theorem isPl_pv {x : Option D} : isPlain (pv x) = true := by cases x <;> rfl
@[simp] theorem isPl_map {x : Option D} : isPlain (x.map .val) = true := by cases x <;> rfl
section
variable {C : Calls} {w : Nat} {s : S} {d : D} {x : Str} {i j : Nat} {e es a b c o : Ex} {t t1 : Tg} {it ifs it1 ifs1 lo hi : Ex} {p q : Sx}
@[simp] theorem sem_con : sem C (.con d) = mk (gives d) := rfl
@[simp] theorem sem_glob : sem C (.glob x d) = mk (gives d) := rfl
@[simp] theorem sem_var : sem C (.var i) = mk (rdV i) := rfl
@[simp] theorem sem_pk_a : (sem C (.pk i)).a = slotA (.pl i) := rfl
@[simp] theorem sem_pk_t : (sem C (.pk i)).t s = (match resA s (.pl i) with
      | none => none
      | some d => match truD d with
        | none => none
        | some k => some (k, s)) := rfl
@[simp] theorem sem_lend_a : (sem C (.lend i)).a = slotA (.ln i) := rfl
@[simp] theorem sem_give_a : (sem C (.give e)).a = bnd (sem C e).v fun d => if newObj d then gives (.ow d) else fails := rfl
@[simp] theorem sem_op_v {k : Op} : (sem C (.op k es)).v = opM k (sem C es).as := rfl
@[simp] theorem sem_op_t {k : Op} : (sem C (.op k es)).t = bnd (opM k (sem C es).as) fun d => lift (truD d) := rfl
@[simp] theorem sem_op_a {k : Op} : (sem C (.op k es)).a = bnd (opM k (sem C es).as) fun d => gives (.vl d) := rfl
@[simp] theorem sem_not_v : (sem C (.not a)).v = bnd (sem C a).v fun x => bnd (lift (truD x)) fun k => gives (.bool (!k)) := rfl
@[simp] theorem sem_not_a : (sem C (.not a)).a = bnd (sem C (.not a)).v fun d => gives (.vl d) := rfl
@[simp] theorem sem_not_t : (sem C (.not a)).t = bnd (sem C a).t fun k => gives (!k) := rfl
@[simp] theorem sem_and_v : (sem C (.and a b)).v = bnd (sem C a).v fun x => bnd (lift (truD x)) fun k => if k then (sem C b).v else gives x := rfl
@[simp] theorem sem_and_a : (sem C (.and a b)).a = bnd (sem C (.and a b)).v fun d => gives (.vl d) := rfl
@[simp] theorem sem_and_t : (sem C (.and a b)).t = bnd (sem C a).t fun k => if k then (sem C b).t else gives false := rfl
@[simp] theorem sem_or_v : (sem C (.or a b)).v = bnd (sem C a).v fun x => bnd (lift (truD x)) fun k => if k then gives x else (sem C b).v := rfl
@[simp] theorem sem_or_a : (sem C (.or a b)).a = bnd (sem C (.or a b)).v fun d => gives (.vl d) := rfl
@[simp] theorem sem_or_t : (sem C (.or a b)).t = bnd (sem C a).t fun k => if k then gives true else (sem C b).t := rfl
@[simp] theorem sem_chain {k l : Op} : sem C (.chain k l a b c) = mk (bnd (sem C a).v fun x => bnd (sem C b).v fun y => bnd (lift (opD k [x, y])) fun r => match r with
      | .bool true => bnd (sem C c).v fun z => lift (opD l [y, z])
      | .bool false => gives (.bool false)
      | _ => fails) := rfl
@[simp] theorem sem_ife_v : (sem C (.ife c a b)).v = bnd (sem C c).t fun k => if k then (sem C a).v else (sem C b).v := rfl
@[simp] theorem sem_ife_a : (sem C (.ife c a b)).a = bnd (sem C (.ife c a b)).v fun d => gives (.vl d) := rfl
@[simp] theorem sem_tup : sem C (.tup es) = mk (bnd (sem C es).as fun l => bnd (lift (valsA l)) fun ds => if ds.length ≤ sizeLine then gives (.tuple ds) else fails) := rfl
@[simp] theorem sem_lst : sem C (.lst es) = mk (bnd (sem C es).as fun l => bnd (lift (valsA l)) fun ds => if ds.length ≤ sizeLine then gives (.list ds) else fails) := rfl
@[simp] theorem sem_dct0 : sem C .dct0 = mk (gives (.dict [])) := rfl
@[simp] theorem sem_dct1 : sem C (.dct1 a b) = mk (bnd (sem C a).v fun kd => bnd (sem C b).v fun vd => match keyOf kd with
      | some _ => gives (.dict [(kd, vd)])
      | none => fails) := rfl
@[simp] theorem sem_call {f : Nat} {pm : List Nat} : sem C (.call f pm es) = mk (callM C f pm (sem C es).as) := rfl
@[simp] theorem sem_mu {m : Mu} : sem C (.mu m i es) = mk (muM m i (sem C es).as) := rfl
@[simp] theorem sem_mt {m : Mt} : sem C (.mt m o es) = mk (mtM m (sem C o).a (sem C es).as) := rfl
@[simp] theorem sem_sl2 : sem C (.sl2 a lo hi) = mk (bnd (sem C a).a fun x => bnd (sem C lo).v fun l => bnd (lift (intD l)) fun i => bnd (sem C hi).v fun h => bnd (lift (intD h)) fun j s => match resA s x with
      | none => none
      | some d => match opSl (some i) (some j) d with
        | none => none
        | some r => some (r, s)) := rfl
theorem sem_comp : sem C (.comp e t it ifs) = mk (compM t (sem C it).it (sem C ifs).ts (sem C e).v) := rfl
theorem sem_comp2 : sem C (.comp2 e t it ifs t1 it1 ifs1) = mk (compM2 t (sem C it).it (sem C ifs).ts t1 (sem C it1).it (sem C ifs1).ts (sem C e).v) := rfl
@[simp] theorem sem_comp_a : (sem C (.comp e t it ifs)).a = bnd (sem C (.comp e t it ifs)).v fun d => gives (.vl d) := rfl
@[simp] theorem sem_comp_t : (sem C (.comp e t it ifs)).t = bnd (sem C (.comp e t it ifs)).v fun d => lift (truD d) := rfl
@[simp] theorem sem_comp2_a : (sem C (.comp2 e t it ifs t1 it1 ifs1)).a = bnd (sem C (.comp2 e t it ifs t1 it1 ifs1)).v fun d => gives (.vl d) := rfl
theorem comp_map {s0 : S} {ds : List D} (f : D → D) (h0 : (sem C it).it s = some (ds, s0)) (hp : t.slots.all (plainS s0) = true) (hl : ds.length ≤ sizeLine)
    (h : ∀ d ∈ ds, ∃ s1 s2 s3, bindT t d (wipeS s0 t.slots) = some s1 ∧ (sem C ifs).ts s1 = some (true, s2) ∧ (sem C e).v s2 = some (f d, s3) ∧ wipeS s3 t.slots = wipeS s0 t.slots) :
    (sem C (.comp e t it ifs)).v s = some (.list (ds.map f), s0) := compM_map f h0 hp hl h
@[simp] theorem sem_nil_as : (sem C .nil).as = gives [] := rfl
@[simp] theorem sem_nil_ts : (sem C .nil).ts = gives true := rfl
@[simp] theorem sem_cons_as : (sem C (.cons e es)).as = bnd (sem C e).a fun x => bnd (sem C es).as fun l => gives (x :: l) := rfl
@[simp] theorem sem_cons_ts : (sem C (.cons e es)).ts = bnd (sem C e).t fun k => if k then (sem C es).ts else gives false := rfl
@[simp] theorem sem_itOf : (sem C (.itOf e)).it = bnd (sem C e).v fun d => lift (walkOf d) := rfl
@[simp] theorem sem_itRange : (sem C (.itRange es)).it = bnd (sem C es).as fun l => bnd (lift (valsA l)) fun ds => match ds with
      | [.int n] => if smallI n then gives (rgD n) else fails
      | [.int a, .int b] => if smallI a && smallI b then gives (rgD2 a b) else fails
      | _ => fails := rfl
@[simp] theorem sem_itEnum : (sem C (.itEnum e)).it = bnd (sem C e).v fun d => match d with
      | .list xs => gives (enumD 0 xs)
      | _ => fails := rfl
@[simp] theorem sem_itZip : (sem C (.itZip es)).it = bnd (sem C es).as fun l => bnd (lift (valsA l)) fun ds => match ds with
      | [.list xs, .list ys] => gives (zipD xs ys)
      | [.tuple xs, .tuple ys] => gives (zipD xs ys)
      | _ => fails := rfl
@[simp] theorem opM_run {k : Op} {as : M (List Ar)} : opM k as = bnd as fun l s => match resAs s l with
    | none => none
    | some ds => match opD k ds with
      | none => none
      | some d => some (d, s) := rfl
@[simp] theorem callM_run {f : Nat} {pm : List Nat} {as : M (List Ar)} : callM C f pm as = bnd as fun l s => match permL pm l with
    | none => none
    | some l' => match resAs s l' with
      | none => none
      | some ds => match C f ds with
        | none => none
        | some (r, ls) => match backS l' ls s with
          | none => none
          | some s' => some (r, s') := rfl
@[simp] theorem slotA_run {k : Ar} : slotA k s = (match resA s k with
  | some _ => some (k, s)
  | none => none) := rfl
@[simp] theorem rdV_run : rdV i s = (match s[i]? with
  | some (some (.val d)) => some (d, s)
  | some (some (.own d)) => some (d, s.set i (some (.val d)))
  | _ => none) := rfl
@[simp] theorem permL_nil {α : Type} {l : List α} : permL [] l = some [] := rfl
@[simp] theorem permL_cons {α : Type} {l : List α} {pm : List Nat} : permL (i :: pm) l = (l[i]?).bind fun a => (permL pm l).bind fun r => some (a :: r) := by
  unfold permL
  rw [List.mapM_cons]
  rfl
@[simp] theorem backS_nil : backS [] [] s = some s := rfl
@[simp] theorem backS_ln {r : List Ar} {ds : List D} : backS (.ln i :: r) (d :: ds) s = (match mutS i d s with
    | some s' => backS r ds s'
    | none => none) := rfl
@[simp] theorem backS_ow {r : List Ar} {d' : D} {ds : List D} : backS (.ow d' :: r) (d :: ds) s = backS r ds s := rfl
@[simp] theorem backS_vl {r : List Ar} {ds : List D} : backS (.vl d :: r) ds s = backS r ds s := rfl
@[simp] theorem mutS_run : mutS i d s = (match s[i]? with
  | some (some (.own _)) => some (s.set i (some (.own d)))
  | some (some (.lent _)) => some (s.set i (some (.lent d)))
  | _ => none) := rfl
@[simp] theorem putS_run {bb : B} : putS i bb s = (match s[i]? with
  | some o => if isLent o then none else some (s.set i (some bb))
  | none => none) := by
  unfold putS
  cases h : s[i]? with
  | none => rfl
  | some o => cases o with
    | none => rfl
    | some b => cases b <;> rfl
@[simp] theorem stm_set : stm w C (.set i e) = bnd (sem C e).v fun d s => match putS i (.val d) s with
    | none => none
    | some s' => some (.nx, s') := rfl
@[simp] theorem stm_seto : stm w C (.seto i e) = bnd (sem C e).v fun d s => if newObj d then match putS i (.own d) s with
    | none => none
    | some s' => some (.nx, s') else none := rfl
@[simp] theorem stm_par {is : List Nat} : stm w C (.par is es) = bnd (sem C es).as fun l s => match bsOf l with
    | none => none
    | some bs => if bs.length = is.length then match putAll (is.zip bs) s with
      | none => none
      | some s' => some (.nx, s') else none := rfl
@[simp] theorem stm_unp {is : List Nat} : stm w C (.unp is e) = bnd (sem C e).v fun d s => match bindT (.tp is) d s with
    | none => none
    | some s' => some (.nx, s') := rfl
@[simp] theorem stm_sub : stm w C (.sub i a e) = bnd (sem C e).v fun d => bnd (slotA (.ln i)) fun _ => bnd (sem C a).v fun kd s => match resA s (.ln i) with
    | none => none
    | some x => match subD x kd d with
      | none => none
      | some x' => match mutS i x' s with
        | none => none
        | some s' => some (.nx, s') := rfl
@[simp] theorem stm_aug {k : Op} : stm w C (.aug i k e) = bnd (rdV i) fun x => bnd (sem C e).v fun y => bnd (lift (augD k x y)) fun z s => match putS i (.val z) s with
    | none => none
    | some s' => some (.nx, s') := rfl
@[simp] theorem stm_expr : stm w C (.expr e) = bnd (sem C e).v fun _ => gives .nx := rfl
@[simp] theorem stm_ret : stm w C (.ret e) = bnd (sem C e).v fun d => gives (.rt false d) := rfl
@[simp] theorem stm_reto : stm w C (.reto e) = bnd (sem C e).v fun d => if newObj d then gives (.rt true d) else fails := rfl
@[simp] theorem stm_retv : stm w C (.retv i) s = (match s[i]? with
    | some (some (.own d)) => some (.rt true d, s.set i none)
    | _ => none) := rfl
@[simp] theorem stm_retn : stm w C .retn = gives (.rt false .none) := rfl
@[simp] theorem stm_ife : stm w C (.ife c p q) = bnd (sem C c).t fun k => if k then stm w C p else stm w C q := rfl
theorem stm_for : stm w C (.for_ t it p) = bnd (sem C it).it fun ds => forLoop t (stm w C p) ds := rfl
theorem stm_while : stm w C (.while_ c p) = whileLoop (sem C c).t (stm w C p) w := rfl
@[simp] theorem stm_pass : stm w C .pass = gives .nx := rfl
@[simp] theorem stm_brk : stm w C .brk = gives .bk := rfl
@[simp] theorem stm_cont : stm w C .cont = gives .ct := rfl
@[simp] theorem stm_nil : stm w C .nil = gives .nx := rfl
@[simp] theorem stm_cons : stm w C (.cons p q) = bnd (stm w C p) fun f => match f with
    | .nx => stm w C q
    | f => gives f := rfl
end
def absI (x : Int) : Int := if x < 0 then -x else x
section
variable {a b c : D} {k l : Int} {xs ys : List D} {z z' : Str} {u v : Bool}
@[simp] theorem e_add : op2 .add a b = opAdd a b := rfl
@[simp] theorem e_sub : op2 .sub a b = opSub a b := rfl
@[simp] theorem e_mul : op2 .mul a b = opMul a b := rfl
@[simp] theorem e_fdiv : op2 .fdiv a b = opFdiv a b := rfl
@[simp] theorem e_mod : op2 .mod a b = opMod a b := rfl
@[simp] theorem e_pow : op2 .pow a b = opPow a b := rfl
@[simp] theorem e_lt : op2 .lt a b = opLt a b := rfl
@[simp] theorem e_le : op2 .le a b = opLe a b := rfl
@[simp] theorem e_gt : op2 .gt (.int k) (.int l) = some (.bool (decide (l < k))) := rfl
@[simp] theorem e_ge : op2 .ge (.int k) (.int l) = some (.bool (decide (l ≤ k))) := rfl
@[simp] theorem e_eq : op2 .eq a b = if sh a && sh b then some (.bool (PyData.eqv a b)) else none := rfl
@[simp] theorem e_ne : op2 .ne a b = if sh a && sh b then some (.bool (!PyData.eqv a b)) else none := rfl
@[simp] theorem e_ix : op2 .ix a b = opIx a b := rfl
@[simp] theorem e_sl1 : op2 (.sl true false) a b = opSl1 false a b := rfl
@[simp] theorem e_sl2 : op2 (.sl false true) a b = opSl1 true a b := rfl
@[simp] theorem e_inn : op2 .inn a b = (match opIn a b with
    | some k => some (.bool k)
    | none => none) := rfl
@[simp] theorem e_notin : op2 .notin a b = (match opIn a b with
    | some k => some (.bool (!k))
    | none => none) := rfl
@[simp] theorem e_listZ : op2 .listZ a b = opListZ a b := rfl
@[simp] theorem e_listR2 : op2 .listR2 a b = opListR2 a b := rfl
@[simp] theorem n_dict {kvs : List (D × D)} : newObj (.dict kvs) = true := rfl
@[simp] theorem e_neg : op1 .neg a = opNeg a := rfl
@[simp] theorem e_isN : op1 .isN a = some (.bool (isNone a)) := rfl
@[simp] theorem e_notN : op1 .notN a = some (.bool (!isNone a)) := rfl
@[simp] theorem e_sl0 : op1 (.sl false false) a = opSl none none a := rfl
@[simp] theorem e_rev : op1 .rev a = opRev a := rfl
@[simp] theorem e_len : op1 .len a = opLen a := rfl
@[simp] theorem e_abs : op1 .abs a = opAbs a := rfl
@[simp] theorem e_int : op1 .int a = opInt a := rfl
@[simp] theorem e_list : op1 .list a = opList a := rfl
@[simp] theorem e_tuple : op1 .tuple a = opTuple a := rfl
@[simp] theorem e_listR : op1 .listR a = opListR a := rfl
@[simp] theorem e_tupleR : op1 .tupleR a = opTupleR a := rfl
@[simp] theorem e_sorted : op1 .sorted a = opSorted a := rfl
@[simp] theorem e_sum : op1 .sum a = opSum a := rfl
@[simp] theorem e_max1 : op1 .max1 a = opMax1 a := rfl
@[simp] theorem e_min1 : op1 .min1 a = opMin1 a := rfl
@[simp] theorem e_all : op1 .all a = opAll a := rfl
@[simp] theorem e_any : op1 .any a = opAny a := rfl
@[simp] theorem e_isi {t : Ty} : op1 (.isi t) a = some (.bool (isTy t a)) := rfl
@[simp] theorem e_isis {ts : List Ty} : op1 (.isis ts) a = some (.bool (ts.any fun t => isTy t a)) := rfl
@[simp] theorem f_add : opAdd (.int k) (.int l) = some (.int (k + l)) := rfl
@[simp] theorem f_sub : opSub (.int k) (.int l) = some (.int (k - l)) := rfl
@[simp] theorem f_mul : opMul (.int k) (.int l) = if mulOk k l then some (.int (k * l)) else none := rfl
@[simp] theorem f_fdiv : opFdiv (.int k) (.int l) = if decide (0 < l) && decide (l.natAbs.log2 < 9000) then some (.int (k / l)) else none := rfl
@[simp] theorem f_mod : opMod (.int k) (.int l) = if decide (0 < l) then some (.int (k % l)) else none := rfl
@[simp] theorem f_lt : opLt (.int k) (.int l) = some (.bool (decide (k < l))) := rfl
@[simp] theorem f_le : opLe (.int k) (.int l) = some (.bool (decide (k ≤ l))) := rfl
@[simp] theorem f_neg : opNeg (.int k) = some (.int (-k)) := rfl
@[simp] theorem f_ixL : opIx (.list xs) (.int k) = L2.atI xs k := rfl
@[simp] theorem f_ixT : opIx (.tuple xs) (.int k) = L2.atI xs k := rfl
@[simp] theorem f_abs : opAbs (.int k) = some (.int (absI k)) := rfl
@[simp] theorem f_int : opInt (.int k) = some (.int k) := rfl
@[simp] theorem f_intB : opInt (.bool u) = some (.int (if u then 1 else 0)) := rfl
@[simp] theorem f_listL : opList (.list xs) = some (.list xs) := rfl
@[simp] theorem f_listT : opList (.tuple xs) = some (.list xs) := rfl
@[simp] theorem f_tupL : opTuple (.list xs) = some (.tuple xs) := rfl
@[simp] theorem f_tupT : opTuple (.tuple xs) = some (.tuple xs) := rfl
@[simp] theorem f_lenL : opLen (.list xs) = some (.int xs.length) := rfl
@[simp] theorem f_lenT : opLen (.tuple xs) = some (.int xs.length) := rfl
@[simp] theorem f_revL : opRev (.list xs) = some (.list xs.reverse) := rfl
@[simp] theorem f_revT : opRev (.tuple xs) = some (.tuple xs.reverse) := rfl
@[simp] theorem f_sl1a : opSl1 false a (.int k) = opSl (some k) none a := rfl
@[simp] theorem f_sl1b : opSl1 true a (.int k) = opSl none (some k) a := rfl
@[simp] theorem f_slL {lo hi : Option Int} : opSl lo hi (.list xs) = some (.list (cutD xs lo hi)) := rfl
@[simp] theorem f_slT {lo hi : Option Int} : opSl lo hi (.tuple xs) = some (.tuple (cutD xs lo hi)) := rfl
@[simp] theorem t_none : truD .none = some false := rfl
@[simp] theorem t_bool : truD (.bool u) = some u := rfl
@[simp] theorem t_int : truD (.int k) = some (k != 0) := rfl
@[simp] theorem t_list : truD (.list xs) = some (!xs.isEmpty) := rfl
@[simp] theorem t_tuple : truD (.tuple xs) = some (!xs.isEmpty) := rfl
@[simp] theorem n_list : newObj (.list xs) = true := rfl
@[simp] theorem w_list : walkOf (.list xs) = some xs := rfl
@[simp] theorem w_tuple : walkOf (.tuple xs) = some xs := rfl
@[simp] theorem i_int : intD (.int k) = some k := rfl
@[simp] theorem bindT_nm {i : Nat} {s : S} : bindT (.nm i) a s = putS i (.val a) s := rfl
@[simp] theorem slots_nm {i : Nat} : (Tg.nm i).slots = [i] := rfl
@[simp] theorem slots_tp {is : List Nat} : (Tg.tp is).slots = is := rfl
@[simp] theorem wipe_nil {s : S} : wipeS s [] = s := rfl
@[simp] theorem wipe_cons {s : S} {i : Nat} {is : List Nat} : wipeS s (i :: is) = (wipeS s is).set i none := rfl
@[simp] theorem plain_run {s : S} {i : Nat} : plainS s i = (match s[i]? with
  | some o => isPlain o
  | none => false) := by
  unfold plainS
  cases h : s[i]? with
  | none => rfl
  | some o => cases o with
    | none => rfl
    | some b => cases b <;> rfl
@[simp] theorem ix0 {x : D} : L2.atI (x :: xs) 0 = some x := by
  unfold L2.atI L2.ixN
  simp
end
end FC

/-! neighbours that undo one another, taken out -/
namespace FC
section
variable {α : Type} [DecidableEq α] (inv : α → α)
/-- a letter upon a stack -/
def push (st : List α) (x : α) : List α :=
  match st with
  | [] => [x]
  | y :: r => if y = inv x then r else x :: y :: r
def red (st : List α) : List α → List α
  | [] => st
  | x :: r => red (push inv st x) r
/-- no two neighbours of a stack undo one another -/
def Rd : List α → Prop
  | [] => True
  | [_] => True
  | x :: y :: r => y ≠ inv x ∧ Rd (y :: r)
theorem Rd_tail {x : α} {r : List α} (h : Rd inv (x :: r)) : Rd inv r := by
  cases r with
  | nil => trivial
  | cons y r => exact h.2
theorem push_rd {st : List α} {x : α} (h : Rd inv st) : Rd inv (push inv st x) := by
  cases st with
  | nil => trivial
  | cons y r =>
    show Rd inv (if y = inv x then r else x :: y :: r)
    split
    · exact Rd_tail inv h
    · rename_i hn; exact ⟨hn, h⟩
variable (hi : ∀ x, inv (inv x) = x)
include hi in
theorem push_push {st : List α} {x : α} (h : Rd inv st) : push inv (push inv st x) (inv x) = st := by
  cases st with
  | nil =>
    show (if x = inv (inv x) then [] else _) = _
    rw [hi, if_pos rfl]
  | cons y r =>
    show push inv (if y = inv x then r else x :: y :: r) (inv x) = y :: r
    by_cases hy : y = inv x
    · rw [if_pos hy]
      cases r with
      | nil => show [inv x] = _; rw [hy]
      | cons z q =>
        have hz : z ≠ inv (inv x) := by rw [← hy]; exact h.1
        show (if z = inv (inv x) then q else inv x :: z :: q) = _
        rw [if_neg hz, hy]
    · rw [if_neg hy]
      show (if x = inv (inv x) then y :: r else _) = _
      rw [hi, if_pos rfl]
theorem red_append (u v : List α) : ∀ st : List α, red inv st (u ++ v) = red inv (red inv st u) v := by
  induction u with
  | nil => intro st; rfl
  | cons x u ih => intro st; exact ih _
theorem red_rd (u : List α) : ∀ st : List α, Rd inv st → Rd inv (red inv st u) := by
  induction u with
  | nil => intro st h; exact h
  | cons x u ih => intro st h; exact ih _ (push_rd inv h)
include hi in
theorem red_out (u v : List α) (x : α) : red inv [] (u ++ x :: inv x :: v) = red inv [] (u ++ v) := by
  rw [red_append, red_append]
  show red inv (push inv (push inv _ x) (inv x)) v = _
  rw [push_push inv hi (red_rd inv u [] trivial)]
/-- no two neighbours of a word undo one another -/
def Fr : List α → Prop
  | [] => True
  | [_] => True
  | x :: y :: r => inv x ≠ y ∧ Fr (y :: r)
include hi in
theorem red_fr (w : List α) : ∀ (x : α) (st : List α), Fr inv (x :: w) → red inv (x :: st) w = w.reverse ++ (x :: st) := by
  induction w with
  | nil => intro x st _; rfl
  | cons y w ih =>
    intro x st h
    have hy : x ≠ inv y := fun e => h.1 (by rw [e, hi])
    show red inv (if x = inv y then st else y :: x :: st) w = _
    rw [if_neg hy, ih y (x :: st) h.2]
    simp
include hi in
theorem red_free (w : List α) (h : Fr inv w) : red inv [] w = w.reverse := by
  cases w with
  | nil => rfl
  | cons x w =>
    show red inv [x] w = _
    rw [red_fr inv hi w x [] h]
    simp
/-- the tidy word -/
def tidyW (w : List α) : List α := (red inv [] w).reverse
include hi in
theorem tidy_out (u v : List α) (x : α) : tidyW inv (u ++ x :: inv x :: v) = tidyW inv (u ++ v) := by
  unfold tidyW
  rw [red_out inv hi]
include hi in
theorem tidy_free (w : List α) (h : Fr inv w) : tidyW inv w = w := by
  unfold tidyW
  rw [red_free inv hi w h, List.reverse_reverse]
theorem fr_of_spots (w : List α) : (∀ k (h : k + 1 < w.length), inv w[k] ≠ w[k + 1]) → Fr inv w := by
  induction w with
  | nil => intro _; trivial
  | cons x w ih =>
    intro h
    cases w with
    | nil => trivial
    | cons y w =>
      refine ⟨h 0 (by simp), ih fun k hk => ?_⟩
      have := h (k + 1) (by simp at hk ⊢; omega)
      simpa using this
end
end FC

/-! Part 27: data that recur. -/
namespace FC
open PySem
theorem run_at' {T : List FnI} {w n f : Nat} {fi : FnI} {ds : List D} (h : T[f]? = some fi) (hn : 1 ≤ n) (hl : ds.length = fi.modes.length) : run T w n f ds = endD fi (stm w (run T w (n - 1)) fi.body (startS fi ds)) := by
  obtain ⟨m, rfl⟩ : ∃ m, n = m + 1 := ⟨n - 1, by omega⟩
  exact run_at h hl
theorem compM_inv {t : Tg} {it : M (List D)} {ifs : M Bool} {e : M D} {s s0 : S} {ds : List D} (P : List D → S → Prop) (h0 : it s = some (ds, s0)) (hp : t.slots.all (plainS s0) = true) (hl : ds.length ≤ sizeLine) (p0 : P [] s0)
    (h : ∀ d ∈ ds, ∀ acc s, P acc s → ∃ s1 b s2, bindT t d (wipeS s t.slots) = some s1 ∧ ifs s1 = some (b, s2) ∧ (if b then ∃ y s3, e s2 = some (y, s3) ∧ P (acc ++ [y]) s3 else P acc s2)) :
    ∃ ys s', compM t it ifs e s = some (.list ys, restS s0 s' t.slots) ∧ P ys s' := by
  obtain ⟨ys, s', h1, h2⟩ := compLoop_inv P ds [] s0 p0 (by simpa using hl) h
  refine ⟨ys, s', ?_, h2⟩
  simp only [compM, h0, hp, if_true, h1]
theorem comp_inv {C : Calls} {e it ifs : Ex} {t : Tg} {s s0 : S} {ds : List D} (P : List D → S → Prop) (h0 : (sem C it).it s = some (ds, s0)) (hp : t.slots.all (plainS s0) = true) (hl : ds.length ≤ sizeLine) (p0 : P [] s0)
    (h : ∀ d ∈ ds, ∀ acc s, P acc s → ∃ s1 b s2, bindT t d (wipeS s t.slots) = some s1 ∧ (sem C ifs).ts s1 = some (b, s2) ∧ (if b then ∃ y s3, (sem C e).v s2 = some (y, s3) ∧ P (acc ++ [y]) s3 else P acc s2)) :
    ∃ ys s', (sem C (.comp e t it ifs)).v s = some (.list ys, restS s0 s' t.slots) ∧ P ys s' := compM_inv P h0 hp hl p0 h
@[simp] theorem rest_nil {s0 s : S} : restS s0 s [] = s := rfl
@[simp] theorem rest_cons {s0 s : S} {i : Nat} {is : List Nat} : restS s0 s (i :: is) = (restS s0 s is).set i ((s0[i]?).getD none) := rfl
/-- an urn: what is left of a great number, a seed, how often it was asked -/
def urn (a b c : Int) : D := .list [.int a, .int b, .int c]
theorem ixN_nat {n k : Nat} (h : k < n) : L2.ixN n (k : Int) = some k := by
  unfold L2.ixN
  simp [h]
theorem atI_nat {α : Type} {xs : List α} (k : Nat) : L2.atI xs (k : Int) = xs[k]? := by
  by_cases h : k < xs.length
  · unfold L2.atI
    rw [ixN_nat h]
    rfl
  · unfold L2.atI L2.ixN
    rw [List.getElem?_eq_none (by omega)]
    simp
    omega
@[simp] theorem atI1 {x y : D} {r : List D} : L2.atI (x :: y :: r) 1 = some y := atI_nat 1
@[simp] theorem atI2 {x y z : D} {r : List D} : L2.atI (x :: y :: z :: r) 2 = some z := atI_nat 2
theorem atI_last {α : Type} {xs : List α} {x : α} : L2.atI (xs ++ [x]) (-1) = some x := by
  unfold L2.atI L2.ixN
  simp
  have : ((-1 : Int) + ((xs.length : Int) + 1)).toNat = xs.length := by omega
  rw [if_pos (by omega)]
  show (xs ++ [x])[((-1 : Int) + ((xs.length : Int) + 1)).toNat]? = some x
  rw [this]
  simp
theorem sub_nat {xs : List D} {k : Nat} {d : D} (h : k < xs.length) : subD (.list xs) (.int (k : Int)) d = some (.list (xs.set k d)) := by
  simp only [subD, ixN_nat h]
@[simp] theorem sub0 {x d : D} {r : List D} : subD (.list (x :: r)) (.int 0) d = some (.list (d :: r)) := sub_nat (k := 0) (by simp)
@[simp] theorem sub2 {x y z d : D} {r : List D} : subD (.list (x :: y :: z :: r)) (.int 2) d = some (.list (x :: y :: d :: r)) := sub_nat (k := 2) (by simp)
theorem mul_ok {i j : Int} (h : -(2 ^ 64) < j ∧ j < 2 ^ 64) : mulOk i j = true := by
  unfold mulOk
  simp only [Bool.or_eq_true, Bool.and_eq_true, decide_eq_true_eq]
  exact .inl (.inr (by omega))
theorem mul_ok' {i j : Int} (h : -(2 ^ 64) < i ∧ i < 2 ^ 64) : mulOk i j = true := by
  unfold mulOk
  simp only [Bool.or_eq_true, Bool.and_eq_true, decide_eq_true_eq]
  exact .inl (.inl (by omega))
def once (b c : Int) : Int := (b + 48271 * c) * (39373 + c) % 2147483647
def twice (b c : Int) : Int := (once b c + c + b / 1000003) * (once b c % 40009 + 7) % 2147483629
def drawn (b c m : Int) : Int := (twice b c * 48271 + once b c) % 2147483587 / 64 % m
/-- an urn that was asked at most so often -/
def Urn (N : Nat) (u : D) : Prop := ∃ a b c : Int, u = urn a b c ∧ 0 ≤ a ∧ 0 ≤ c ∧ c ≤ N
theorem Urn.mono {N M : Nat} {u : D} (h : Urn N u) (hn : N ≤ M) : Urn M u := by
  obtain ⟨a, b, c, e, h1, h2, h3⟩ := h
  exact ⟨a, b, c, e, h1, h2, by omega⟩
theorem log_lt {m : Int} (h : m.natAbs < 2 ^ 8999) : m.natAbs.log2 < 9000 := by
  by_cases h0 : m.natAbs = 0
  · rw [h0]
    decide +kernel
  · exact Nat.lt_of_lt_of_le ((Nat.log2_lt h0).mpr h) (by omega)
theorem log_lt' {m : Int} (h0 : 0 ≤ m) (h : m < 2 ^ 200) : m.natAbs.log2 < 9000 := log_lt (by
  have h1 : (m.natAbs : Int) < 2 ^ 200 := by omega
  have h2 : m.natAbs < 2 ^ 200 := by exact_mod_cast h1
  exact Nat.lt_of_lt_of_le h2 (Nat.pow_le_pow_right (by decide) (by decide)))
theorem mul_b {y : Int} {p : Prop} [Decidable p] : mulOk y (if p then 1 else 0) = true := mul_ok (by split <;> decide)
theorem abs_nn (x : Int) : 0 ≤ absI x := by unfold absI; split <;> omega
theorem ite_nn {p : Prop} [Decidable p] : (0 : Int) ≤ (if p then 1 else 0) := by split <;> omega
theorem sIx_nat {n d k : Nat} : HT.sIx n d (some (k : Int)) = min k n := by
  unfold HT.sIx
  simp
  omega
theorem cut_take {α : Type} {xs : List α} {k : Nat} : cutD xs none (some (k : Int)) = xs.take k := by
  unfold cutD
  rw [sIx_nat]
  show (xs.drop 0).take (min k xs.length - 0) = xs.take k
  rw [List.drop_zero, Nat.sub_zero]
  by_cases h : k ≤ xs.length
  · rw [Nat.min_eq_left h]
  · rw [Nat.min_eq_right (by omega), List.take_of_length_le (Nat.le_refl _), List.take_of_length_le (by omega)]
theorem cut_mid {α : Type} {xs : List α} {k l : Nat} : cutD xs (some (k : Int)) (some (l : Int)) = (xs.drop k).take (l - k) := by
  unfold cutD
  rw [sIx_nat, sIx_nat]
  by_cases h : k ≤ xs.length
  · rw [Nat.min_eq_left h]
    by_cases h2 : l ≤ xs.length
    · rw [Nat.min_eq_left h2]
    · rw [Nat.min_eq_right (by omega), List.take_of_length_le (by rw [List.length_drop]; omega), List.take_of_length_le (by rw [List.length_drop]; omega)]
  · have e : min k xs.length = xs.length := by omega
    rw [e, List.drop_eq_nil_of_le (Nat.le_refl _), List.drop_eq_nil_of_le (by omega), List.take_nil, List.take_nil]
theorem cut_drop {α : Type} {xs : List α} {k : Nat} : cutD xs (some (k : Int)) none = xs.drop k := by
  unfold cutD
  rw [sIx_nat]
  show (xs.drop (min k xs.length)).take (xs.length - min k xs.length) = xs.drop k
  by_cases h : k ≤ xs.length
  · rw [Nat.min_eq_left h, List.take_of_length_le (by rw [List.length_drop]; omega)]
  · rw [Nat.min_eq_right (by omega), List.drop_eq_nil_of_le (Nat.le_refl _), List.drop_eq_nil_of_le (by omega), List.take_nil]
/-! ### data of a bounded depth, without dicts -/
def flat : Nat → D → Prop
  | 0, .list _ => False
  | 0, .tuple _ => False
  | n + 1, .list xs => xs.length ≤ sizeLine ∧ ∀ x ∈ xs, flat n x
  | n + 1, .tuple xs => xs.length ≤ sizeLine ∧ ∀ x ∈ xs, flat n x
  | _, .dict _ => False
  | _, .str z => PyData.strOk z = true
  | _, _ => True
def plainD : Nat → D → D
  | n + 1, .list xs => .tuple (xs.map (plainD n))
  | n + 1, .tuple xs => .tuple (xs.map (plainD n))
  | _, d => d
def listsD : Nat → D → D
  | n + 1, .list xs => .list (xs.map (listsD n))
  | n + 1, .tuple xs => .list (xs.map (listsD n))
  | _, d => d
theorem flat_mono : ∀ {n : Nat} {d : D}, flat n d → flat (n + 1) d := by
  intro n
  induction n with
  | zero => intro d h; cases d <;> first | exact h | exact h.elim
  | succ n ih =>
    intro d h
    cases d with
    | list xs => exact ⟨h.1, fun x hx => ih (h.2 x hx)⟩
    | tuple xs => exact ⟨h.1, fun x hx => ih (h.2 x hx)⟩
    | _ => exact h
theorem flat_le {n m : Nat} {d : D} (h : flat n d) (hm : n ≤ m) : flat m d := by
  induction hm with
  | refl => exact h
  | step _ ih => exact flat_mono ih
theorem depthAll_le {k : Nat} : ∀ xs : List D, (∀ x ∈ xs, PyData.depth x ≤ k) → PyData.depthAll xs ≤ k
  | [], _ => Nat.zero_le _
  | x :: xs, h => by
    unfold PyData.depthAll
    exact Nat.max_le.mpr ⟨h x List.mem_cons_self, depthAll_le xs fun y hy => h y (List.mem_cons_of_mem _ hy)⟩
theorem layAll {p : D → Prop} : ∀ xs : List D, (∀ x ∈ xs, PyData.canLay0 x = true) → PyData.canLayAll0 xs = true
  | [], _ => rfl
  | x :: xs, h => by
    unfold PyData.canLayAll0
    rw [h x List.mem_cons_self, layAll (p := p) xs fun y hy => h y (List.mem_cons_of_mem _ hy)]
    rfl
theorem flat_depth : ∀ {n : Nat} {d : D}, flat n d → PyData.depth d ≤ n ∧ PyData.canLay0 d = true := by
  intro n
  induction n with
  | zero => intro d h; cases d <;> first | exact h.elim | exact ⟨Nat.le_refl _, by first | rfl | exact h⟩
  | succ n ih =>
    intro d h
    cases d with
    | list xs =>
      refine ⟨?_, ?_⟩
      · unfold PyData.depth; exact Nat.succ_le_succ (depthAll_le xs fun x hx => (ih (h.2 x hx)).1)
      · unfold PyData.canLay0; exact layAll (p := fun _ => True) xs fun x hx => (ih (h.2 x hx)).2
    | tuple xs =>
      refine ⟨?_, ?_⟩
      · unfold PyData.depth; exact Nat.succ_le_succ (depthAll_le xs fun x hx => (ih (h.2 x hx)).1)
      · unfold PyData.canLay0; exact layAll (p := fun _ => True) xs fun x hx => (ih (h.2 x hx)).2
    | dict _ => exact h.elim
    | str z => exact ⟨Nat.zero_le _, h⟩
    | _ => exact ⟨Nat.zero_le _, rfl⟩
theorem flat_sh {n : Nat} {d : D} (h : flat n d) (hn : n ≤ 64) : sh d = true := by
  have h2 := flat_depth h
  unfold sh SeqAt.shaped
  rw [h2.2]
  simp
  omega
theorem eqvAll_self : ∀ xs : List D, (∀ x ∈ xs, PyData.eqv x x = true) → PyData.eqvAll xs xs = true
  | [], _ => rfl
  | x :: xs, h => by
    unfold PyData.eqvAll
    rw [h x List.mem_cons_self, eqvAll_self xs fun y hy => h y (List.mem_cons_of_mem _ hy)]
    rfl
theorem flat_eqv : ∀ {n : Nat} {d : D}, flat n d → PyData.eqv d d = true := by
  intro n
  induction n with
  | zero => intro d h; cases d <;> first | exact h.elim | simp [PyData.eqv]
  | succ n ih =>
    intro d h
    cases d with
    | list xs => unfold PyData.eqv; exact eqvAll_self xs fun x hx => ih (h.2 x hx)
    | tuple xs => unfold PyData.eqv; exact eqvAll_self xs fun x hx => ih (h.2 x hx)
    | dict _ => exact h.elim
    | _ => simp [PyData.eqv]
@[simp] theorem sh_bool (b : Bool) : sh (.bool b) = true := by cases b <;> rfl
@[simp] theorem sh_int (i : Int) : sh (.int i) = true := rfl
@[simp] theorem sh_none : sh .none = true := rfl
@[simp] theorem sh_nil : sh (.list []) = true := rfl
@[simp] theorem eqv_bool (a b : Bool) : PyData.eqv (.bool a) (.bool b) = (a == b) := by unfold PyData.eqv; rfl
@[simp] theorem eqv_int (a b : Int) : PyData.eqv (.int a) (.int b) = (a == b) := by unfold PyData.eqv; rfl
@[simp] theorem eqv_str (a b : Str) : PyData.eqv (.str a) (.str b) = (a == b) := by unfold PyData.eqv; rfl
/-! ### DEEDs -/
abbrev Dd := Str × Bool
def dash : Str := "-"
def dS (p : Dd) : Str := if p.2 then p.1 ++ dash else p.1
def dD (p : Dd) : D := .str (dS p)
def dInv (p : Dd) : Dd := (p.1, !p.2)
theorem dInv2 (p : Dd) : dInv (dInv p) = p := by unfold dInv; simp
/-- a NOTE: signs, the last one no dash -/
def okN (z : Str) : Prop := (∃ l c, z.cps.toList = l ++ [c] ∧ c ≠ 45) ∧ z.length ≤ 1000 ∧ PyData.strOk z = true
theorem dash_list : dash.cps.toList = [45] := by decide +kernel
theorem str_ext {a b : Str} (h : a.cps.toList = b.cps.toList) : a = b := by
  cases a; cases b
  simp at h
  rw [h]
theorem app_list (a b : Str) : (a ++ b).cps.toList = a.cps.toList ++ b.cps.toList := by
  show (a.cps ++ b.cps).toList = _
  simp
theorem len_list (a : Str) : a.length = a.cps.toList.length := by simp [Str.length]
theorem subAt_end (z y : Str) (hl : y.length ≤ z.length) : Builtin.Str.subAt z y (z.length - y.length) = decide (z.cps.toList.drop (z.length - y.length) = y.cps.toList) := by
  unfold Builtin.Str.subAt
  have e : z.length - y.length + y.length = z.length := by omega
  rw [e, Bool.eq_iff_iff]
  simp only [beq_iff_eq, decide_eq_true_eq]
  constructor
  · intro h
    rw [← h, Array.toList_extract]
    rw [List.extract_eq_take_drop]
    rw [List.take_of_length_le (by simp [Str.length])]
  · intro h
    apply Array.ext'
    rw [← h, Array.toList_extract, List.extract_eq_take_drop, List.take_of_length_le (by simp [Str.length])]
theorem ends_dash (p : Dd) (h : okN p.1) : Txt.endswith (dS p) dash = p.2 := by
  obtain ⟨⟨l, c, e, hc⟩, _, _⟩ := h
  have dl : dash.length = 1 := by rw [len_list, dash_list]; rfl
  have key : ∀ (l : List Nat) (c : Nat) (z : Str), z.cps.toList = l ++ [c] → Txt.endswith z dash = decide (c = 45) := by
    intro l c z e
    have hz : z.length = l.length + 1 := by rw [len_list, e]; simp
    unfold Txt.endswith
    rw [subAt_end z dash (by omega), dl, hz, e, dash_list]
    simp
  unfold dS
  cases hb : p.2 with
  | false =>
    simp only [Bool.false_eq_true, if_false]
    rw [key l c _ e]
    simp [hc]
  | true =>
    simp only [if_true]
    rw [key p.1.cps.toList 45 _ (by rw [app_list, dash_list])]
    rfl
theorem cut_dash (z : Str) : L2.cutS (z ++ dash) none (some (-1)) = z := by
  apply str_ext
  unfold L2.cutS
  have hz : (z ++ dash).length = z.length + 1 := by rw [len_list, app_list, dash_list, len_list]; simp
  rw [hz]
  show ((List.drop 0 (z ++ dash).cps.toList).take (HT.sIx (z.length + 1) (z.length + 1) (some (-1)) - 0)) = z.cps.toList
  have : HT.sIx (z.length + 1) (z.length + 1) (some (-1)) = z.length := by
    unfold HT.sIx
    simp
    omega
  rw [this, app_list, dash_list, len_list]
  simp
theorem last_dS (p : Dd) (h : okN p.1) : ∃ c, L2.atI (dS p).cps.toList (-1) = some c ∧ (decide (c = 45)) = p.2 := by
  obtain ⟨⟨l, c, e, hc⟩, _, _⟩ := h
  unfold dS
  cases hb : p.2 with
  | false =>
    simp only [Bool.false_eq_true, if_false]
    exact ⟨c, by rw [e, atI_last], by simp [hc]⟩
  | true =>
    simp only [if_true]
    exact ⟨45, by rw [app_list, dash_list, atI_last], by simp⟩
theorem dS_len (p : Dd) (h : okN p.1) : (dS p).length ≤ 1001 := by
  have := h.2.1
  unfold dS
  split
  · rw [len_list, app_list, dash_list]
    rw [len_list] at this
    simp at this ⊢
    omega
  · omega
theorem dS_ok (p : Dd) (h : okN p.1) : PyData.strOk (dS p) = true := by
  have := h.2.2
  unfold dS
  split
  · unfold PyData.strOk at this ⊢
    show (p.1.cps ++ dash.cps).all _ = true
    rw [Array.all_append, this]
    decide +kernel
  · exact this
theorem dS_inj (p q : Dd) (hp : okN p.1) (hq : okN q.1) (h : dS p = dS q) : p = q := by
  have e : p.2 = q.2 := by rw [← ends_dash p hp, ← ends_dash q hq, h]
  obtain ⟨a, b⟩ := p
  obtain ⟨c, d⟩ := q
  simp only at e
  subst e
  unfold dS at h
  cases b with
  | false => simp at h; rw [h]
  | true =>
    simp at h
    have : a = c := by rw [← cut_dash a, h, cut_dash]
    rw [this]
def okW (w : List Dd) : Prop := ∀ p ∈ w, okN p.1
def eW (w : List Dd) : D := .tuple (w.map dD)
def lW (w : List Dd) : D := .list (w.map dD)
def eP (p : List (List Dd × Int)) : D := .tuple (p.map fun x => .tuple [eW x.1, .int x.2])
def lP (p : List (List Dd × Int)) : D := .list (p.map fun x => .list [lW x.1, .int x.2])
theorem dD_flat {p : Dd} (h : okN p.1) (k : Nat) : flat k (dD p) := by
  cases k <;> exact dS_ok p h
theorem eW_flat {w : List Dd} (h : okW w) (hl : w.length ≤ sizeLine) (k : Nat) : flat (k + 1) (eW w) := by
  refine ⟨by simpa using hl, fun x hx => ?_⟩
  obtain ⟨p, hp, rfl⟩ := List.mem_map.mp hx
  exact dD_flat (h p hp) k
theorem lW_flat {w : List Dd} (h : okW w) (hl : w.length ≤ sizeLine) (k : Nat) : flat (k + 1) (lW w) := by
  refine ⟨by simpa using hl, fun x hx => ?_⟩
  obtain ⟨p, hp, rfl⟩ := List.mem_map.mp hx
  exact dD_flat (h p hp) k
def okP (p : List (List Dd × Int)) : Prop := ∀ x ∈ p, okW x.1 ∧ x.1.length ≤ sizeLine
theorem eP_flat {p : List (List Dd × Int)} (h : okP p) (hl : p.length ≤ sizeLine) (k : Nat) : flat (k + 3) (eP p) := by
  refine ⟨by simpa using hl, fun x hx => ?_⟩
  obtain ⟨q, hq, rfl⟩ := List.mem_map.mp hx
  refine ⟨by show 2 ≤ sizeLine; decide, fun y hy => ?_⟩
  simp only [List.mem_cons, List.not_mem_nil, or_false] at hy
  rcases hy with rfl | rfl
  · exact eW_flat (h q hq).1 (h q hq).2 k
  · trivial
theorem lP_flat {p : List (List Dd × Int)} (h : okP p) (hl : p.length ≤ sizeLine) (k : Nat) : flat (k + 3) (lP p) := by
  refine ⟨by simpa using hl, fun x hx => ?_⟩
  obtain ⟨q, hq, rfl⟩ := List.mem_map.mp hx
  refine ⟨by show 2 ≤ sizeLine; decide, fun y hy => ?_⟩
  simp only [List.mem_cons, List.not_mem_nil, or_false] at hy
  rcases hy with rfl | rfl
  · exact lW_flat (h q hq).1 (h q hq).2 k
  · trivial
@[simp] theorem plain_dD (k : Nat) (p : Dd) : plainD k (dD p) = dD p := by cases k <;> rfl
@[simp] theorem lists_dD (k : Nat) (p : Dd) : listsD k (dD p) = dD p := by cases k <;> rfl
@[simp] theorem plain_int (k : Nat) (i : Int) : plainD k (.int i) = .int i := by cases k <;> rfl
@[simp] theorem lists_int (k : Nat) (i : Int) : listsD k (.int i) = .int i := by cases k <;> rfl
@[simp] theorem plain_eW (k : Nat) (w : List Dd) : plainD (k + 1) (eW w) = eW w := by simp [eW, plainD, Function.comp_def]
@[simp] theorem plain_lW (k : Nat) (w : List Dd) : plainD (k + 1) (lW w) = eW w := by simp [eW, lW, plainD, Function.comp_def]
@[simp] theorem lists_eW (k : Nat) (w : List Dd) : listsD (k + 1) (eW w) = lW w := by simp [eW, lW, listsD, Function.comp_def]
@[simp] theorem plain_eP (k : Nat) (p : List (List Dd × Int)) : plainD (k + 3) (eP p) = eP p := by
  have h : ∀ w, plainD (k + 1) (eW w) = eW w := plain_eW k
  simp [eP, plainD, Function.comp_def, h]
@[simp] theorem plain_lP (k : Nat) (p : List (List Dd × Int)) : plainD (k + 3) (lP p) = eP p := by
  have h : ∀ w, plainD (k + 1) (lW w) = eW w := plain_lW k
  simp [eP, lP, plainD, Function.comp_def, h]
@[simp] theorem lists_eP (k : Nat) (p : List (List Dd × Int)) : listsD (k + 3) (eP p) = lP p := by
  have h : ∀ w, listsD (k + 1) (eW w) = lW w := lists_eW k
  simp [eP, lP, listsD, Function.comp_def, h]
end FC
namespace FC
open PySem
@[simp] theorem dash_eq : Str.ofString "-" = dash := rfl
theorem z1001 {z : Str} (h : z.length ≤ 1001) : z.length ≤ sizeLine := Nat.le_trans h (by decide)
/-- the length of a DEED fits -/
theorem dS_size (p : Dd) (h : okN p.1) : (dS p).length ≤ sizeLine := z1001 (dS_len p h)
theorem add_dash (z : Str) (h : z.length ≤ 1000) : opAdd (.str z) (.str dash) = some (.str (z ++ dash)) := by
  have dl : dash.length = 1 := by rw [len_list, dash_list]; rfl
  have : (1001 : Nat) ≤ sizeLine := by decide
  simp only [opAdd, dl]
  rw [if_pos (by omega)]
/-- a WORD the other way about -/
def bw (w : List Dd) : List Dd := w.reverse.map dInv
theorem bw_ok {w : List Dd} (h : okW w) : okW (bw w) := by
  intro p hp
  obtain ⟨q, hq, rfl⟩ := List.mem_map.mp hp
  exact h q (List.mem_reverse.mp hq)
@[simp] theorem bw_len (w : List Dd) : (bw w).length = w.length := by simp [bw]
def pback (p : List (List Dd × Int)) : List (List Dd × Int) := p.reverse.map fun x => (x.1, -x.2)
theorem absI_nn (x : Int) : 0 ≤ absI x := abs_nn x
def sizeP (p : List (List Dd × Int)) : Int := (p.map fun x => (x.1.length : Int) * absI x.2).sum
def smallW (p : List (List Dd × Int)) : List Dd := p.flatMap fun x => (List.replicate (absI x.2).toNat (if 0 < x.2 then x.1 else bw x.1)).flatten
theorem intsOf_map (l : List Int) : intsOf (l.map PyData.int) = some l := by
  induction l with
  | nil => rfl
  | cons x l ih => simp [intsOf, ih]
theorem take_succ_get {α : Type} {l : List α} {i : Nat} {x : α} (h : l[i]? = some x) : l.take (i + 1) = l.take i ++ [x] := by
  obtain ⟨hi, rfl⟩ := List.getElem?_eq_some_iff.mp h
  exact List.take_succ_eq_append_getElem hi
theorem take_all {α : Type} {l : List α} : l.take l.length = l := List.take_length
theorem map_get {α β : Type} {f : α → β} {l : List α} {i : Nat} {y : β} (h : (l.map f)[i]? = some y) : ∃ x, l[i]? = some x ∧ f x = y := by
  rw [List.getElem?_map] at h
  cases e : l[i]? with
  | none => rw [e] at h; cases h
  | some x => rw [e] at h; exact ⟨x, rfl, by cases h; rfl⟩
theorem red_len {α : Type} [DecidableEq α] (inv : α → α) (w : List α) : ∀ st : List α, (red inv st w).length ≤ st.length + w.length := by
  induction w with
  | nil => intro st; exact Nat.le_refl _
  | cons x w ih =>
    intro st
    have h := ih (push inv st x)
    have hp : (push inv st x).length ≤ st.length + 1 := by
      cases st with
      | nil => exact Nat.le_refl _
      | cons y r =>
        show (if y = inv x then r else x :: y :: r).length ≤ _
        split <;> simp <;> omega
    show (red inv (push inv st x) w).length ≤ _
    simp only [List.length_cons]
    omega
theorem red_mem {α : Type} [DecidableEq α] (inv : α → α) (P : α → Prop) (w : List α) : ∀ st : List α, (∀ x ∈ st, P x) → (∀ x ∈ w, P x) → ∀ x ∈ red inv st w, P x := by
  induction w with
  | nil => intro st h _; exact h
  | cons x w ih =>
    intro st h hw
    refine ih _ ?_ fun y hy => hw y (List.mem_cons_of_mem _ hy)
    cases st with
    | nil => intro y hy; rw [List.mem_singleton.mp hy]; exact hw x List.mem_cons_self
    | cons z r =>
      intro y hy
      change y ∈ (if z = inv x then r else x :: z :: r) at hy
      split at hy
      · exact h y (List.mem_cons_of_mem _ hy)
      · rcases List.mem_cons.mp hy with rfl | hy
        · exact hw y List.mem_cons_self
        · exact h y hy
abbrev tW (w : List Dd) : List Dd := tidyW dInv w
theorem tW_ok {w : List Dd} (h : okW w) : okW (tW w) := fun p hp => red_mem dInv (fun p => okN p.1) w [] (fun _ h => nomatch h) h p (List.mem_reverse.mp hp)
theorem tW_len (w : List Dd) : (tW w).length ≤ w.length := by
  have := red_len dInv w []
  simp [tidyW] at this ⊢
  exact this
theorem dD_eqv {p q : Dd} (hp : okN p.1) (hq : okN q.1) : PyData.eqv (dD p) (dD q) = decide (p = q) := by
  unfold dD
  rw [eqv_str, Bool.eq_iff_iff]
  simp only [beq_iff_eq, decide_eq_true_eq]
  exact ⟨dS_inj p q hp hq, fun e => by rw [e]⟩
theorem dD_sh {p : Dd} (hp : okN p.1) : sh (dD p) = true := flat_sh (dD_flat hp 0) (by decide)
end FC
namespace FC
open PySem
/-- two generators, the slots stay -/
theorem compLoop2_map {vs : List Nat} {t t1 : Tg} {ifs ifs1 : M Bool} {it1 : M (List D)} {e : M D} {s0 : S} (g : D → List D) (M0 : Nat) : ∀ (ds acc : List D) (s : S), wipeS s vs = wipeS s0 vs →
    (∀ d ∈ ds, ∀ acc : List D, acc.length + (g d).length ≤ M0 → ∃ s1 s2 s3 ds1 s4, bindT t d (wipeS s0 vs) = some s1 ∧ ifs s1 = some (true, s2) ∧ it1 s2 = some (ds1, s3) ∧ compLoop t1 ifs1 e ds1 acc s3 = some (acc ++ g d, s4) ∧ wipeS s4 vs = wipeS s0 vs) →
    acc.length + (ds.flatMap g).length ≤ M0 →
    ∃ s', compLoop2 vs t ifs t1 it1 ifs1 e ds acc s = some (acc ++ ds.flatMap g, s') ∧ wipeS s' vs = wipeS s0 vs
  | [], acc, s, p, _, _ => ⟨s, by simp [compLoop2], p⟩
  | d :: ds, acc, s, p, h, hl => by
    simp only [List.flatMap_cons, List.length_append] at hl
    obtain ⟨s1, s2, s3, ds1, s4, e1, e2, e3, e4, e5⟩ := h d List.mem_cons_self acc (by omega)
    simp only [compLoop2, p, e1, e2, e3, e4]
    obtain ⟨s', h1, h2⟩ := compLoop2_map g M0 ds (acc ++ g d) s4 e5 (fun d hd => h d (List.mem_cons_of_mem _ hd)) (by rw [List.length_append]; omega)
    exact ⟨s', by rw [h1]; simp, h2⟩
theorem comp2_map {C : Calls} {e it ifs it1 ifs1 : Ex} {t t1 : Tg} {s s0 : S} {ds : List D} (g : D → List D) (h0 : (sem C it).it s = some (ds, s0)) (hp : (t.slots ++ t1.slots).all (plainS s0) = true) (hl : (ds.flatMap g).length ≤ sizeLine)
    (h : ∀ d ∈ ds, ∀ acc : List D, acc.length + (g d).length ≤ sizeLine → ∃ s1 s2 s3 ds1 s4, bindT t d (wipeS s0 (t.slots ++ t1.slots)) = some s1 ∧ (sem C ifs).ts s1 = some (true, s2) ∧ (sem C it1).it s2 = some (ds1, s3) ∧ compLoop t1 (sem C ifs1).ts (sem C e).v ds1 acc s3 = some (acc ++ g d, s4) ∧ wipeS s4 (t.slots ++ t1.slots) = wipeS s0 (t.slots ++ t1.slots)) :
    (sem C (.comp2 e t it ifs t1 it1 ifs1)).v s = some (.list (ds.flatMap g), s0) := by
  obtain ⟨s', h1, h2⟩ := compLoop2_map (ifs := (sem C ifs).ts) (ifs1 := (sem C ifs1).ts) (it1 := (sem C it1).it) (e := (sem C e).v) (s0 := s0) g sizeLine ds [] s0 rfl h (by simpa using hl)
  show compM2 _ _ _ _ _ _ _ s = _
  simp only [compM2, h0, hp, if_true, h1, List.nil_append]
  rw [restS_wipe h2 rfl fun _ _ => rfl]
theorem flatten_rep {w : List Dd} {k : Nat} : (List.replicate k (w.map dD)).flatten = ((List.replicate k w).flatten).map dD := by
  induction k with
  | zero => rfl
  | succ k ih => rw [List.replicate_succ, List.replicate_succ, List.flatten_cons, List.flatten_cons, List.map_append, ih]
theorem mul_eW {w : List Dd} {k : Int} (h0 : 0 ≤ k) (h1 : k ≤ 1000) (hl : w.length ≤ 1000) : opMul (eW w) (.int k) = some (eW (List.replicate k.toNat w).flatten) := by
  have e : ∀ (xs : List D), opMul (.tuple xs) (.int k) = if decide (-(2 ^ 62) ≤ k) && decide (k ≤ 1000) && decide (xs.length ≤ 1000) then some (.tuple (List.replicate k.toNat xs).flatten) else none := fun _ => rfl
  have h2 : decide (-(2 ^ 62) ≤ k) = true := decide_eq_true (by omega)
  have h3 : decide (k ≤ 1000) = true := decide_eq_true h1
  have h4 : decide ((w.map dD).length ≤ 1000) = true := decide_eq_true (by rw [List.length_map]; exact hl)
  unfold eW
  rw [e, h2, h3, h4, Bool.and_self, Bool.and_self, if_pos rfl, flatten_rep]
theorem add_eW {w v : List Dd} (h : w.length + v.length ≤ sizeLine) : opAdd (eW w) (eW v) = some (eW (w ++ v)) := by
  unfold eW
  simp only [opAdd, List.length_map]
  rw [if_pos h, List.map_append]
theorem smallW_append (p q : List (List Dd × Int)) : smallW (p ++ q) = smallW p ++ smallW q := by simp [smallW]
theorem smallW_one (x : List Dd × Int) : smallW [x] = (List.replicate (absI x.2).toNat (if 0 < x.2 then x.1 else bw x.1)).flatten := by simp [smallW]
theorem flat_rep_len {α : Type} (k : Nat) (w : List α) : (List.replicate k w).flatten.length = k * w.length := by
  induction k with
  | zero => simp
  | succ k ih => simp [List.replicate_succ, ih, Nat.add_mul, Nat.add_comm]
theorem smallW_len (p : List (List Dd × Int)) : ((smallW p).length : Int) = sizeP p := by
  induction p with
  | nil => rfl
  | cons x p ih =>
    have e : smallW (x :: p) = smallW [x] ++ smallW p := smallW_append [x] p
    rw [e, List.length_append, smallW_one, flat_rep_len]
    have h1 : (if 0 < x.2 then x.1 else bw x.1).length = x.1.length := by split <;> simp
    have h2 : (((absI x.2).toNat : Nat) : Int) = absI x.2 := Int.toNat_of_nonneg (absI_nn _)
    rw [h1]
    show _ = (x.1.length : Int) * absI x.2 + sizeP p
    rw [← ih]
    simp only [Int.natCast_add, Int.natCast_mul, h2]
    rw [Int.mul_comm]
theorem smallW_take (p : List (List Dd × Int)) (i : Nat) : (smallW (p.take i)).length ≤ (smallW p).length := by
  have e : p = p.take i ++ p.drop i := (List.take_append_drop i p).symm
  have e2 : (smallW p).length = (smallW (p.take i)).length + (smallW (p.drop i)).length := by
    conv => lhs; rw [e, smallW_append, List.length_append]
  omega
theorem smallW_ok {p : List (List Dd × Int)} (h : okP p) : okW (smallW p) := by
  intro d hd
  obtain ⟨x, hx, hd⟩ := List.mem_flatMap.mp hd
  obtain ⟨l, hl, hd⟩ := List.mem_flatten.mp hd
  rw [(List.mem_replicate.mp hl).2] at hd
  split at hd
  · exact (h x hx).1 d hd
  · exact bw_ok (h x hx).1 d hd
theorem neg1_last {xs : List D} {x : D} : L2.atI (xs ++ [x]) (-1) = some x := atI_last
end FC
namespace FC
open PySem
theorem opSum_ints (l : List Int) : opSum (.list (l.map .int)) = some (.int l.sum) := by
  simp only [opSum, intsOf_map]
theorem len64 {k : Nat} (h : k ≤ sizeLine) : -(2 ^ 64) < (k : Int) ∧ (k : Int) < 2 ^ 64 := by
  have : sizeLine = 16777216 := rfl
  rw [this] at h
  omega
end FC
namespace FC
open PySem
/-- a comprehension that leaves some out; the slots stay -/
theorem compLoop_filt {t : Tg} {ifs : M Bool} {e : M D} {s0 : S} (q : D → Bool) (f : D → D) : ∀ (ds acc : List D) (s : S), wipeS s t.slots = wipeS s0 t.slots → acc.length + ds.length ≤ sizeLine →
    (∀ d ∈ ds, ∃ s1 s2, bindT t d (wipeS s0 t.slots) = some s1 ∧ ifs s1 = some (q d, s2) ∧ (q d = true → ∃ s3, e s2 = some (f d, s3) ∧ wipeS s3 t.slots = wipeS s0 t.slots) ∧ (q d = false → wipeS s2 t.slots = wipeS s0 t.slots)) →
    ∃ s', compLoop t ifs e ds acc s = some (acc ++ (ds.filter q).map f, s') ∧ wipeS s' t.slots = wipeS s0 t.slots
  | [], acc, s, p, _, _ => ⟨s, by simp [compLoop], p⟩
  | d :: ds, acc, s, p, hl, h => by
    obtain ⟨s1, s2, e1, e2, e3, e4⟩ := h d List.mem_cons_self
    rw [List.length_cons] at hl
    cases hq : q d with
    | false =>
      rw [hq] at e2
      simp only [compLoop, p, e1, e2]
      obtain ⟨s', h1, h2⟩ := compLoop_filt q f ds acc s2 (e4 hq) (by omega) fun d hd => h d (List.mem_cons_of_mem _ hd)
      exact ⟨s', by rw [h1, List.filter_cons, hq]; simp, h2⟩
    | true =>
      rw [hq] at e2
      obtain ⟨s3, e5, e6⟩ := e3 hq
      simp only [compLoop, p, e1, e2, e5]
      rw [if_pos (by omega)]
      obtain ⟨s', h1, h2⟩ := compLoop_filt q f ds (acc ++ [f d]) s3 e6 (by rw [List.length_append, List.length_singleton]; omega) fun d hd => h d (List.mem_cons_of_mem _ hd)
      exact ⟨s', by rw [h1, List.filter_cons, hq]; simp, h2⟩
theorem comp_filt {C : Calls} {e it ifs : Ex} {t : Tg} {s s0 : S} {ds : List D} (q : D → Bool) (f : D → D) (h0 : (sem C it).it s = some (ds, s0)) (hp : t.slots.all (plainS s0) = true) (hl : ds.length ≤ sizeLine)
    (h : ∀ d ∈ ds, ∃ s1 s2, bindT t d (wipeS s0 t.slots) = some s1 ∧ (sem C ifs).ts s1 = some (q d, s2) ∧ (q d = true → ∃ s3, (sem C e).v s2 = some (f d, s3) ∧ wipeS s3 t.slots = wipeS s0 t.slots) ∧ (q d = false → wipeS s2 t.slots = wipeS s0 t.slots)) :
    (sem C (.comp e t it ifs)).v s = some (.list ((ds.filter q).map f), s0) := by
  obtain ⟨s', h1, h2⟩ := compLoop_filt (e := (sem C e).v) (ifs := (sem C ifs).ts) (s0 := s0) q f ds [] s0 rfl (by simpa using hl) h
  show compM _ _ _ _ s = _
  simp only [compM, h0, hp, if_true, h1, List.nil_append]
  rw [restS_wipe h2 rfl fun _ _ => rfl]
/-- a while with a measure -/
theorem while_down {c : M Bool} {b : M Fl} (P : Nat → S → Prop) (Q : S → Prop) (h : ∀ m s, P m s → ∃ k s1, c s = some (k, s1) ∧ (if k then ∃ s2 m', (b s1 = some (.nx, s2) ∨ b s1 = some (.ct, s2)) ∧ P m' s2 ∧ m' < m else Q s1)) :
    ∀ (fuel m : Nat) (s : S), m < fuel → P m s → ∃ s', whileLoop c b fuel s = some (.nx, s') ∧ Q s' := by
  intro fuel
  induction fuel with
  | zero => intro m s hm; omega
  | succ fuel ih =>
    intro m s hm p
    obtain ⟨k, s1, e1, e2⟩ := h m s p
    cases k with
    | false => exact ⟨s1, by simp only [whileLoop, e1], e2⟩
    | true =>
      obtain ⟨s2, m', e3, p', hm'⟩ := e2
      obtain ⟨s', e4, q⟩ := ih m' s2 (by omega) p'
      refine ⟨s', ?_, q⟩
      rcases e3 with e3 | e3 <;> simp only [whileLoop, e1, e3, e4]
theorem stm_while' {C : Calls} {w : Nat} {c : Ex} {p : Sx} {s : S} : stm w C (.while_ c p) s = whileLoop (sem C c).t (stm w C p) w s := rfl
theorem ints_sh (l : List Int) : sh (.list (l.map .int)) = true := by
  have h1 : PyData.depthAll (l.map PyData.int) = 0 := by
    induction l with
    | nil => rfl
    | cons x l ih => simp [PyData.depthAll, PyData.depth, ih]
  have h2 : PyData.canLayAll0 (l.map PyData.int) = true := by
    clear h1
    induction l with
    | nil => rfl
    | cons x l ih => simp [PyData.canLayAll0, PyData.canLay0, ih]
  show (PyData.canLay0 _ && decide (PyData.depth _ ≤ 64)) = true
  simp [PyData.canLay0, PyData.depth, h1, h2]
theorem eqv_nil (xs : List D) : PyData.eqv (.list xs) (.list []) = xs.isEmpty := by
  cases xs <;> simp [PyData.eqv, PyData.eqvAll]
end FC
namespace FC
open PySem
theorem compLoop_len {t : Tg} {ifs : M Bool} {e : M D} : ∀ (ds acc : List D) (s : S) (ys : List D) (s' : S), compLoop t ifs e ds acc s = some (ys, s') → ys.length ≤ acc.length + ds.length
  | [], acc, s, ys, s', h => by
    simp only [compLoop, gives, Option.some.injEq, Prod.mk.injEq] at h
    rw [← h.1]; simp
  | d :: ds, acc, s, ys, s', h => by
    simp only [compLoop] at h
    rw [List.length_cons]
    split at h
    · cases h
    · split at h
      · cases h
      · have := compLoop_len ds acc _ ys s' h; omega
      · split at h
        · cases h
        · split at h
          · have := compLoop_len ds _ _ ys s' h
            rw [List.length_append, List.length_singleton] at this
            omega
          · cases h
/-- a comprehension with a law, and how many it finds -/
theorem comp_invL {C : Calls} {e it ifs : Ex} {t : Tg} {s s0 : S} {ds : List D} (P : List D → S → Prop) (h0 : (sem C it).it s = some (ds, s0)) (hp : t.slots.all (plainS s0) = true) (hl : ds.length ≤ sizeLine) (p0 : P [] s0)
    (h : ∀ d ∈ ds, ∀ acc s, P acc s → ∃ s1 b s2, bindT t d (wipeS s t.slots) = some s1 ∧ (sem C ifs).ts s1 = some (b, s2) ∧ (if b then ∃ y s3, (sem C e).v s2 = some (y, s3) ∧ P (acc ++ [y]) s3 else P acc s2)) :
    ∃ ys s', (sem C (.comp e t it ifs)).v s = some (.list ys, restS s0 s' t.slots) ∧ P ys s' ∧ ys.length ≤ ds.length := by
  obtain ⟨ys, s', h1, h2⟩ := compLoop_inv P ds [] s0 p0 (by simpa using hl) h
  have h3 := compLoop_len _ _ _ _ _ h1
  refine ⟨ys, s', ?_, h2, by simpa using h3⟩
  show compM _ _ _ _ s = _
  simp only [compM, h0, hp, if_true, h1]
theorem pv_some (d : D) : pv (some d) = some (.val d) := rfl
theorem pv_none : pv none = none := rfl
theorem mul2 (x : D) : opMul (.list [x]) (.int 2) = some (.list [x, x]) := rfl
theorem add22 (a b c d : D) : opAdd (.list [a, b]) (.list [c, d]) = some (.list [a, b, c, d]) := rfl
theorem rgD_len (n : Int) : (rgD n).length = n.toNat := by simp [rgD]
end FC
namespace FC
open PySem
theorem compLoop_ix {t : Tg} {ifs : M Bool} {e : M D} (P : Nat → List D → S → Prop) : ∀ (ds acc : List D) (i : Nat) (s : S), P i acc s → acc.length + ds.length ≤ sizeLine →
    (∀ j d, ds[j]? = some d → ∀ acc s, P (i + j) acc s → ∃ s1 b s2, bindT t d (wipeS s t.slots) = some s1 ∧ ifs s1 = some (b, s2) ∧ (if b then ∃ y s3, e s2 = some (y, s3) ∧ P (i + j + 1) (acc ++ [y]) s3 else P (i + j + 1) acc s2)) →
    ∃ ys s', compLoop t ifs e ds acc s = some (ys, s') ∧ P (i + ds.length) ys s'
  | [], acc, i, s, p, _, _ => ⟨acc, s, rfl, p⟩
  | d :: ds, acc, i, s, p, hl, h => by
    obtain ⟨s1, b, s2, e1, e2, e3⟩ := h 0 d rfl acc s p
    rw [List.length_cons] at hl
    have h' : ∀ j d', ds[j]? = some d' → ∀ acc s, P (i + 1 + j) acc s → ∃ s1 b s2, bindT t d' (wipeS s t.slots) = some s1 ∧ ifs s1 = some (b, s2) ∧ (if b then ∃ y s3, e s2 = some (y, s3) ∧ P (i + 1 + j + 1) (acc ++ [y]) s3 else P (i + 1 + j + 1) acc s2) := by
      intro j d' hd acc s p
      rw [show i + 1 + j = i + (j + 1) by omega] at p ⊢
      exact h (j + 1) d' (by simpa using hd) acc s p
    have hlen : i + (d :: ds).length = i + 1 + ds.length := by rw [List.length_cons]; omega
    rw [hlen]
    simp only [compLoop, e1, e2]
    cases b with
    | false => exact compLoop_ix P ds acc (i + 1) s2 e3 (by omega) h'
    | true =>
      obtain ⟨y, s3, e4, e5⟩ := e3
      simp only [e4]
      rw [if_pos (by omega)]
      exact compLoop_ix P ds (acc ++ [y]) (i + 1) s3 e5 (by rw [List.length_append, List.length_singleton]; omega) h'
/-- a comprehension with a law by the turn -/
theorem comp_ix {C : Calls} {e it ifs : Ex} {t : Tg} {s s0 : S} {ds : List D} (P : Nat → List D → S → Prop) (h0 : (sem C it).it s = some (ds, s0)) (hp : t.slots.all (plainS s0) = true) (hl : ds.length ≤ sizeLine) (p0 : P 0 [] s0)
    (h : ∀ j d, ds[j]? = some d → ∀ acc s, P j acc s → ∃ s1 b s2, bindT t d (wipeS s t.slots) = some s1 ∧ (sem C ifs).ts s1 = some (b, s2) ∧ (if b then ∃ y s3, (sem C e).v s2 = some (y, s3) ∧ P (j + 1) (acc ++ [y]) s3 else P (j + 1) acc s2)) :
    ∃ ys s', (sem C (.comp e t it ifs)).v s = some (.list ys, restS s0 s' t.slots) ∧ P ds.length ys s' := by
  obtain ⟨ys, s', h1, h2⟩ := compLoop_ix (t := t) (ifs := (sem C ifs).ts) (e := (sem C e).v) P ds [] 0 s0 p0 (by simpa using hl) (by
    intro j d hd acc s p
    rw [Nat.zero_add] at p ⊢
    exact h j d hd acc s p)
  rw [Nat.zero_add] at h2
  refine ⟨ys, s', ?_, h2⟩
  show compM _ _ _ _ s = _
  simp only [compM, h0, hp, if_true, h1]
end FC
namespace FC
open PySem
theorem comp_ix' {C : Calls} {E e it ifs : Ex} {t : Tg} (hE : E = .comp e t it ifs) {s s0 : S} {ds : List D} (P : Nat → List D → S → Prop) (h0 : (sem C it).it s = some (ds, s0)) (hp : t.slots.all (plainS s0) = true) (hl : ds.length ≤ sizeLine) (p0 : P 0 [] s0)
    (h : ∀ j d, ds[j]? = some d → ∀ acc s, P j acc s → ∃ s1 b s2, bindT t d (wipeS s t.slots) = some s1 ∧ (sem C ifs).ts s1 = some (b, s2) ∧ (if b then ∃ y s3, (sem C e).v s2 = some (y, s3) ∧ P (j + 1) (acc ++ [y]) s3 else P (j + 1) acc s2)) :
    ∃ ys s', (sem C E).v s = some (.list ys, restS s0 s' t.slots) ∧ P ds.length ys s' := by
  subst hE
  exact comp_ix P h0 hp hl p0 h
theorem comp_map' {C : Calls} {E e it ifs : Ex} {t : Tg} (hE : E = .comp e t it ifs) {s s0 : S} {ds : List D} (f : D → D) (h0 : (sem C it).it s = some (ds, s0)) (hp : t.slots.all (plainS s0) = true) (hl : ds.length ≤ sizeLine)
    (h : ∀ d ∈ ds, ∃ s1 s2 s3, bindT t d (wipeS s0 t.slots) = some s1 ∧ (sem C ifs).ts s1 = some (true, s2) ∧ (sem C e).v s2 = some (f d, s3) ∧ wipeS s3 t.slots = wipeS s0 t.slots) :
    (sem C E).v s = some (.list (ds.map f), s0) := by
  subst hE
  exact comp_map f h0 hp hl h
theorem comp_filt' {C : Calls} {E e it ifs : Ex} {t : Tg} (hE : E = .comp e t it ifs) {s s0 : S} {ds : List D} (q : D → Bool) (f : D → D) (h0 : (sem C it).it s = some (ds, s0)) (hp : t.slots.all (plainS s0) = true) (hl : ds.length ≤ sizeLine)
    (h : ∀ d ∈ ds, ∃ s1 s2, bindT t d (wipeS s0 t.slots) = some s1 ∧ (sem C ifs).ts s1 = some (q d, s2) ∧ (q d = true → ∃ s3, (sem C e).v s2 = some (f d, s3) ∧ wipeS s3 t.slots = wipeS s0 t.slots) ∧ (q d = false → wipeS s2 t.slots = wipeS s0 t.slots)) :
    (sem C E).v s = some (.list ((ds.filter q).map f), s0) := by
  subst hE
  exact comp_filt q f h0 hp hl h
/-- a comprehension over values that are worked out one by one -/
theorem comp_mapA {α : Type} {C : Calls} {E e it ifs : Ex} {t : Tg} (hE : E = .comp e t it ifs) {s s0 : S} {xs : List α} (g f : α → D) (h0 : (sem C it).it s = some (xs.map g, s0)) (hp : t.slots.all (plainS s0) = true) (hl : xs.length ≤ sizeLine)
    (h : ∀ x ∈ xs, ∃ s1 s2 s3, bindT t (g x) (wipeS s0 t.slots) = some s1 ∧ (sem C ifs).ts s1 = some (true, s2) ∧ (sem C e).v s2 = some (f x, s3) ∧ wipeS s3 t.slots = wipeS s0 t.slots) :
    (sem C E).v s = some (.list (xs.map f), s0) := by
  subst hE
  have key : ∀ (xs : List α) (acc : List D) (s : S), wipeS s t.slots = wipeS s0 t.slots → acc.length + xs.length ≤ sizeLine → (∀ x ∈ xs, ∃ s1 s2 s3, bindT t (g x) (wipeS s0 t.slots) = some s1 ∧ (sem C ifs).ts s1 = some (true, s2) ∧ (sem C e).v s2 = some (f x, s3) ∧ wipeS s3 t.slots = wipeS s0 t.slots) →
      ∃ s', compLoop t (sem C ifs).ts (sem C e).v (xs.map g) acc s = some (acc ++ xs.map f, s') ∧ wipeS s' t.slots = wipeS s0 t.slots := by
    intro xs
    induction xs with
    | nil => intro acc s p _ _; exact ⟨s, by simp [compLoop], p⟩
    | cons x xs ih =>
      intro acc s p hl h
      obtain ⟨s1, s2, s3, e1, e2, e3, e4⟩ := h x List.mem_cons_self
      rw [List.length_cons] at hl
      simp only [List.map_cons, compLoop, p, e1, e2, e3]
      rw [if_pos (by omega)]
      obtain ⟨s', h1, h2⟩ := ih (acc ++ [f x]) s3 e4 (by rw [List.length_append, List.length_singleton]; omega) fun y hy => h y (List.mem_cons_of_mem _ hy)
      exact ⟨s', by rw [h1]; simp, h2⟩
  obtain ⟨s', h1, h2⟩ := key xs [] s0 rfl (by simpa using hl) h
  show compM _ _ _ _ s = _
  simp only [compM, h0, hp, if_true, h1, List.nil_append]
  rw [restS_wipe h2 rfl fun _ _ => rfl]
end FC
namespace FC
open PySem
theorem it_range1 {C : Calls} {e : Ex} {s s' : S} {n : Int} (h : (sem C e).a s = some (.vl (.int n), s')) (hn : smallI n = true) : (sem C (.itRange (.cons e .nil))).it s = some (rgD n, s') := by
  simp [h, hn]
theorem small_nn {n : Int} (h0 : 0 ≤ n) (h : n < 2 ^ 62) : smallI n = true := by
  unfold smallI
  simp only [decide_eq_true_eq]
  omega
theorem rgD_nat (n : Nat) : rgD (n : Int) = (List.range n).map fun (k : Nat) => PyData.int (k : Int) := by
  unfold rgD
  rw [Int.toNat_natCast]
  simp
end FC

/-! chains of wheels: words of deeds, their powers, programs; no program text in sight -/
namespace FC
section
variable {A : Type} (T : A → Nat → Nat × Option A)
/-- a word at one wheel: the face, and what is sent on -/
def atW : List A → Nat → Nat × List A
  | [], x => (x, [])
  | a :: w, x => ((atW w (T a x).1).1, (T a x).2.toList ++ (atW w (T a x).1).2)
theorem atW_app (u v : List A) (x : Nat) : atW T (u ++ v) x = ((atW T v (atW T u x).1).1, (atW T u x).2 ++ (atW T v (atW T u x).1).2) := by
  induction u generalizing x with
  | nil => simp [atW]
  | cons a u ih => simp [atW, ih, List.append_assoc]
theorem atW_snoc (u : List A) (a : A) (x : Nat) : atW T (u ++ [a]) x = ((T a (atW T u x).1).1, (atW T u x).2 ++ (T a (atW T u x).1).2.toList) := by
  rw [atW_app]; simp [atW]
/-- a word at a row -/
def act : List A → List Nat → List Nat
  | _, [] => []
  | w, x :: r => (atW T w x).1 :: act (atW T w x).2 r
/-- what is sent on behind a row -/
def sentW : List A → List Nat → List A
  | w, [] => w
  | w, x :: r => sentW (atW T w x).2 r
@[simp] theorem act_nil (r : List Nat) : act T [] r = r := by
  induction r with
  | nil => rfl
  | cons x r ih => simp [act, atW, ih]
@[simp] theorem act_len (w : List A) (r : List Nat) : (act T w r).length = r.length := by
  induction r generalizing w with
  | nil => rfl
  | cons x r ih => simp [act, ih]
theorem act_app (u v : List A) (r : List Nat) : act T (u ++ v) r = act T v (act T u r) := by
  induction r generalizing u v with
  | nil => rfl
  | cons x r ih => simp [act, atW_app, ih]
theorem sentW_app (u v : List A) (r : List Nat) : sentW T (u ++ v) r = sentW T u r ++ sentW T v (act T u r) := by
  induction r generalizing u v with
  | nil => rfl
  | cons x r ih => simp [sentW, act, atW_app, ih]
@[simp] theorem sentW_nil (r : List Nat) : sentW T [] r = [] := by
  induction r with
  | nil => rfl
  | cons x r ih => simp [sentW, atW, ih]
/-- so many times -/
def pw (w : List A) : Nat → List A
  | 0 => []
  | n + 1 => w ++ pw w n
theorem pw_add (w : List A) (m n : Nat) : pw w (m + n) = pw w m ++ pw w n := by
  induction m with
  | zero => simp [pw]
  | succ m ih => rw [Nat.succ_add]; simp [pw, ih]
theorem pw_mul (w : List A) (m n : Nat) : pw w (m * n) = pw (pw w m) n := by
  induction n with
  | zero => simp [pw]
  | succ n ih => rw [Nat.mul_succ, Nat.add_comm, pw_add, ih]; rfl
theorem pw_one (w : List A) : pw w 1 = w := by simp [pw]
theorem pw_nil (n : Nat) : pw ([] : List A) n = [] := by
  induction n with
  | zero => rfl
  | succ n ih => simp [pw, ih]
/-- the face of a wheel behind so many times -/
def fc (w : List A) (x : Nat) : Nat → Nat
  | 0 => x
  | n + 1 => (atW T w (fc w x n)).1
/-- what is sent on meanwhile -/
def tr (w : List A) (x : Nat) : Nat → List A
  | 0 => []
  | n + 1 => tr w x n ++ (atW T w (fc T w x n)).2
theorem pw_succ' (w : List A) (n : Nat) : pw w (n + 1) = pw w n ++ w := by
  rw [pw_add, pw_one]
theorem atW_pw (w : List A) (x n : Nat) : atW T (pw w n) x = (fc T w x n, tr T w x n) := by
  induction n with
  | zero => rfl
  | succ n ih => rw [pw_succ', atW_app, ih]; rfl
theorem fc_add (w : List A) (x m n : Nat) : fc T w x (m + n) = fc T w (fc T w x m) n := by
  have h := atW_pw T w x (m + n)
  rw [pw_add, atW_app, atW_pw, atW_pw] at h
  exact (congrArg Prod.fst h).symm
theorem tr_add (w : List A) (x m n : Nat) : tr T w x (m + n) = tr T w x m ++ tr T w (fc T w x m) n := by
  have h := atW_pw T w x (m + n)
  rw [pw_add, atW_app, atW_pw, atW_pw] at h
  exact (congrArg Prod.snd h).symm
theorem fc_round (w : List A) (x k : Nat) (h : fc T w x k = x) (q : Nat) : fc T w x (k * q) = x := by
  induction q with
  | zero => rfl
  | succ q ih => rw [Nat.mul_succ, fc_add, ih, h]
theorem tr_round (w : List A) (x k : Nat) (h : fc T w x k = x) (q : Nat) : tr T w x (k * q) = pw (tr T w x k) q := by
  induction q with
  | zero => rfl
  | succ q ih => rw [Nat.mul_succ, tr_add, ih, fc_round T w x k h, pw_succ']
/-- a power at a wheel, by the round of its face -/
theorem act_power (w : List A) (x k t : Nat) (r : List Nat) (h : fc T w x k = x) :
    act T (pw w t) (x :: r) = fc T w x (t % k) :: act T (tr T w x (t % k)) (act T (pw (tr T w x k) (t / k)) r) := by
  have e : t = k * (t / k) + t % k := (Nat.div_add_mod t k).symm
  show (atW T (pw w t) x).1 :: act T (atW T (pw w t) x).2 r = _
  rw [atW_pw]
  have h1 : fc T w x t = fc T w x (t % k) := by
    conv => lhs; rw [e]
    rw [fc_add, fc_round T w x k h]
  have h2 : tr T w x t = pw (tr T w x k) (t / k) ++ tr T w x (t % k) := by
    conv => lhs; rw [e]
    rw [tr_add, tr_round T w x k h, fc_round T w x k h]
  rw [h1, h2, act_app]
/-- pairs of a word and times, one behind another, as one word -/
def flatP (p : List (List A × Nat)) : List A := p.flatMap fun q => pw q.1 q.2
theorem flatP_app (p q : List (List A × Nat)) : flatP (p ++ q) = flatP p ++ flatP q := by simp [flatP]
theorem flatP_one (w : List A) (t : Nat) : flatP [(w, t)] = pw w t := by simp [flatP]
/-- idle pairs left out, neighbours that are done once put together -/
def joinStep (found : List (List A × Nat)) (q : List A × Nat) : List (List A × Nat) :=
  if q.1.length = 0 ∨ q.2 = 0 then found
  else match found.getLast? with
    | some (w, t) => if q.2 = 1 ∧ t = 1 then found.dropLast ++ [(w ++ q.1, 1)] else found ++ [q]
    | none => found ++ [q]
def joinP (p : List (List A × Nat)) : List (List A × Nat) := p.foldl joinStep []
theorem joinStep_flat (found : List (List A × Nat)) (q : List A × Nat) : flatP (joinStep found q) = flatP found ++ pw q.1 q.2 := by
  unfold joinStep
  split
  · rename_i h
    rcases h with h | h
    · rw [List.length_eq_zero_iff.mp h, pw_nil, List.append_nil]
    · rw [h]; simp [pw]
  · split
    · rename_i w t hl
      split
      · rename_i h
        obtain ⟨h1, h2⟩ := h
        have e : found = found.dropLast ++ [(w, t)] := by
          have hne : found ≠ [] := by intro z; rw [z] at hl; cases hl
          have := List.getLast?_eq_some_getLast hne
          rw [hl] at this
          have e2 : found.getLast hne = (w, t) := (Option.some.inj this).symm
          rw [← e2]
          exact (List.dropLast_concat_getLast hne).symm
        conv => rhs; rw [e]
        rw [flatP_app, flatP_app, flatP_one, flatP_one, h1, h2, pw_one, pw_one, pw_one, List.append_assoc]
      · rw [flatP_app]; simp [flatP]
    · rw [flatP_app]; simp [flatP]
theorem joinP_flat (p : List (List A × Nat)) : flatP (joinP p) = flatP p := by
  have key : ∀ (p found : List (List A × Nat)), flatP (p.foldl joinStep found) = flatP found ++ flatP p := by
    intro p
    induction p with
    | nil => intro found; simp [flatP]
    | cons q p ih =>
      intro found
      rw [List.foldl_cons, ih, joinStep_flat, List.append_assoc]
      rfl
  exact (key p []).trans (by simp [flatP])
/-- the pairs that come to the next wheel, not yet joined; k: the lengths of the rounds -/
def progRaw (rd : List A → Nat → Nat) : List (List A × Nat) → Nat → Nat × List (List A × Nat)
  | [], x => (x, [])
  | (w, t) :: p, x =>
    let y := fc T w x (t % rd w x)
    ((progRaw rd p y).1, (tr T w x (rd w x), t / rd w x) :: (tr T w x (t % rd w x), 1) :: (progRaw rd p y).2)
theorem progRaw_act (rd : List A → Nat → Nat) (ok : ∀ w x, fc T w x (rd w x) = x) : ∀ (p : List (List A × Nat)) (x : Nat) (r : List Nat), act T (flatP p) (x :: r) = (progRaw T rd p x).1 :: act T (flatP (progRaw T rd p x).2) r
  | [], x, r => by simp [flatP, progRaw]
  | (w, t) :: p, x, r => by
    have e : flatP ((w, t) :: p) = pw w t ++ flatP p := by simp [flatP]
    rw [e, act_app, act_power T w x (rd w x) t r (ok w x), progRaw_act rd ok p]
    have e2 : flatP (progRaw T rd ((w, t) :: p) x).2 = pw (tr T w x (rd w x)) (t / rd w x) ++ (tr T w x (t % rd w x) ++ flatP (progRaw T rd p (fc T w x (t % rd w x))).2) := by
      simp [flatP, progRaw, pw]
    rw [e2, act_app, act_app]
    rfl
/-- a program along a row -/
def runP (rd : List A → Nat → Nat) : List (List A × Nat) → List Nat → List Nat
  | _, [] => []
  | p, x :: r => (progRaw T rd p x).1 :: runP rd (joinP (progRaw T rd p x).2) r
theorem runP_act (rd : List A → Nat → Nat) (ok : ∀ w x, fc T w x (rd w x) = x) : ∀ (r : List Nat) (p : List (List A × Nat)), runP T rd p r = act T (flatP p) r
  | [], p => rfl
  | x :: r, p => by
    show (progRaw T rd p x).1 :: runP T rd (joinP (progRaw T rd p x).2) r = _
    rw [runP_act rd ok r, joinP_flat, progRaw_act T rd ok]
theorem progRaw_app (rd : List A → Nat → Nat) (w : List A) (t : Nat) : ∀ (p : List (List A × Nat)) (x : Nat), progRaw T rd (p ++ [(w, t)]) x =
    (fc T w (progRaw T rd p x).1 (t % rd w (progRaw T rd p x).1), (progRaw T rd p x).2 ++ [(tr T w (progRaw T rd p x).1 (rd w (progRaw T rd p x).1), t / rd w (progRaw T rd p x).1), (tr T w (progRaw T rd p x).1 (t % rd w (progRaw T rd p x).1), 1)])
  | [], x => by simp [progRaw]
  | (v, u) :: p, x => by
    have ih := progRaw_app rd w t p (fc T v x (u % rd v x))
    simp only [List.cons_append, progRaw, ih]
theorem progRaw_len (rd : List A → Nat → Nat) : ∀ (p : List (List A × Nat)) (x : Nat), (progRaw T rd p x).2.length = 2 * p.length
  | [], x => rfl
  | (v, u) :: p, x => by
    have ih := progRaw_len rd p (fc T v x (u % rd v x))
    simp only [progRaw, List.length_cons, ih]
    omega
end
end FC

/-! boxes -/
namespace FC
open PySem
theorem nodup_le : ∀ (b : Nat) (l : List Nat), l.Nodup → (∀ x ∈ l, x < b) → l.length ≤ b
  | 0, l, _, h => by
    cases l with
    | nil => exact Nat.le_refl _
    | cons x l => exact absurd (h x List.mem_cons_self) (Nat.not_lt_zero _)
  | b + 1, l, nd, h => by
    by_cases hb : b ∈ l
    · have h1 := nodup_le b (l.erase b) (nd.erase b) fun x hx => by
        have h2 := (nd.mem_erase_iff.mp hx)
        have := h x h2.2
        have h3 : x ≠ b := h2.1
        omega
      rw [List.length_erase_of_mem hb] at h1
      omega
    · exact Nat.le_succ_of_le (nodup_le b l nd fun x hx => by
        have := h x hx
        have h3 : x ≠ b := fun e => hb (e ▸ hx)
        omega)
theorem nodup_inj {l : List Nat} (h : l.Nodup) {i j : Nat} (hi : i < l.length) (hj : j < l.length) (e : l[i] = l[j]) : i = j := by
  have p := List.pairwise_iff_getElem.mp h
  rcases Nat.lt_trichotomy i j with q | q | q
  · exact absurd e (p i j hi hj q)
  · exact q
  · exact absurd e.symm (p j i hj hi q)
theorem perm_mem {b : Nat} {l : List Nat} (nd : l.Nodup) (hl : l.length = b) (h : ∀ x ∈ l, x < b) {x : Nat} (hx : x < b) : x ∈ l := by
  apply Classical.byContradiction
  intro hn
  have := nodup_le b (x :: l) (List.nodup_cons.mpr ⟨hn, nd⟩) fun y hy => by
    rcases List.mem_cons.mp hy with rfl | hy
    · exact hx
    · exact h y hy
  rw [List.length_cons] at this
  omega
structure Bx where
  b : Nat
  rows : List (Str × List Nat × List Str)
def Bx.notes (k : Bx) : List Str := k.rows.map (·.1)
structure okBx (k : Bx) : Prop where
  b2 : 2 ≤ k.b
  b16 : k.b ≤ 16
  few : k.rows.length ≤ 100
  nd : k.notes.Nodup
  nm : ∀ r ∈ k.rows, okN r.1
  fl : ∀ r ∈ k.rows, r.2.1.length = k.b
  fb : ∀ r ∈ k.rows, ∀ x ∈ r.2.1, x < k.b
  fn : ∀ r ∈ k.rows, r.2.1.Nodup
  sl : ∀ r ∈ k.rows, r.2.2.length = k.b
  sn : ∀ r ∈ k.rows, ∀ s ∈ r.2.2, s = dash ∨ s ∈ k.notes
def optD (s : Str) (bk : Bool) : Option Dd := if s = dash then none else some (s, bk)
def Bx.find (k : Bx) (n : Str) : Option (Str × List Nat × List Str) := k.rows.find? fun r => decide (r.1 = n)
def Bx.T (k : Bx) (d : Dd) (x : Nat) : Nat × Option Dd :=
  match k.find d.1 with
  | none => (x, none)
  | some r => if x < k.b then
      (if d.2 then (r.2.1.idxOf x, optD (r.2.2.getD (r.2.1.idxOf x) dash) true) else (r.2.1.getD x 0, optD (r.2.2.getD x dash) false))
    else (x, none)
/-- a deed of the box -/
def Bx.ok (k : Bx) (d : Dd) : Prop := d.1 ∈ k.notes
section
variable {k : Bx} (hk : okBx k)
theorem find_some {n : Str} (h : n ∈ k.notes) : ∃ r, k.find n = some r ∧ r ∈ k.rows ∧ r.1 = n := by
  unfold Bx.find
  obtain ⟨r, hr, rfl⟩ := List.mem_map.mp h
  cases e : k.rows.find? (fun r' => decide (r'.1 = r.1)) with
  | none =>
    have := List.find?_eq_none.mp e r hr
    simp at this
  | some r' => exact ⟨r', rfl, List.mem_of_find?_eq_some e, by simpa using List.find?_some e⟩
include hk in
theorem note_ok {n : Str} (h : n ∈ k.notes) : okN n := by
  obtain ⟨r, hr, rfl⟩ := List.mem_map.mp h
  exact hk.nm r hr
theorem dash_not {n : Str} (h : okN n) : n ≠ dash := by
  intro e
  obtain ⟨⟨l, c, e1, hc⟩, _⟩ := h
  rw [e, dash_list] at e1
  have : [45] = l ++ [c] := e1
  have h2 := congrArg List.getLast? this
  simp at h2
  exact hc h2.symm
include hk in
theorem T_lt {d : Dd} (hd : k.ok d) {x : Nat} (hx : x < k.b) : (k.T d x).1 < k.b := by
  obtain ⟨r, e, hr, hn⟩ := find_some hd
  unfold Bx.T
  rw [e]
  simp only [hx, if_true]
  split
  · show r.2.1.idxOf x < k.b
    have := List.idxOf_lt_length_of_mem (perm_mem (hk.fn r hr) (hk.fl r hr) (hk.fb r hr) hx)
    rw [hk.fl r hr] at this
    exact this
  · show r.2.1.getD x 0 < k.b
    have hl : x < r.2.1.length := by rw [hk.fl r hr]; exact hx
    rw [List.getD_eq_getElem?_getD, List.getElem?_eq_getElem hl]
    exact hk.fb r hr _ (List.getElem_mem _)
include hk in
theorem T_ok {d e : Dd} (hd : k.ok d) {x : Nat} (h : (k.T d x).2 = some e) : k.ok e := by
  obtain ⟨r, e1, hr, hn⟩ := find_some hd
  unfold Bx.T at h
  rw [e1] at h
  have key : ∀ (j : Nat) (bk : Bool), optD (r.2.2.getD j dash) bk = some e → k.ok e := by
    intro j bk h
    unfold optD at h
    split at h
    · cases h
    · rename_i hne
      cases h
      show r.2.2.getD j dash ∈ k.notes
      by_cases hj : j < r.2.2.length
      · rw [List.getD_eq_getElem?_getD, List.getElem?_eq_getElem hj] at hne ⊢
        rcases hk.sn r hr _ (List.getElem_mem hj) with h | h
        · exact absurd h hne
        · exact h
      · rw [List.getD_eq_getElem?_getD, List.getElem?_eq_none (by omega)] at hne
        exact absurd rfl hne
  simp only at h
  split at h
  · split at h
    · exact key _ _ h
    · exact key _ _ h
  · cases h
include hk in
theorem T_inj {d : Dd} (hd : k.ok d) {x y : Nat} (hx : x < k.b) (hy : y < k.b) (h : (k.T d x).1 = (k.T d y).1) : x = y := by
  obtain ⟨r, e, hr, hn⟩ := find_some hd
  unfold Bx.T at h
  rw [e] at h
  simp only [hx, hy, if_true] at h
  split at h
  · have mx := perm_mem (hk.fn r hr) (hk.fl r hr) (hk.fb r hr) hx
    have my := perm_mem (hk.fn r hr) (hk.fl r hr) (hk.fb r hr) hy
    have h : r.2.1.idxOf x = r.2.1.idxOf y := h
    have e1 := List.getElem_idxOf (List.idxOf_lt_length_of_mem mx)
    have e2 := List.getElem_idxOf (List.idxOf_lt_length_of_mem my)
    rw [← e1, ← e2]
    congr 1
  · have lx : x < r.2.1.length := by rw [hk.fl r hr]; exact hx
    have ly : y < r.2.1.length := by rw [hk.fl r hr]; exact hy
    have h : r.2.1.getD x 0 = r.2.1.getD y 0 := h
    rw [List.getD_eq_getElem?_getD, List.getElem?_eq_getElem lx, List.getD_eq_getElem?_getD, List.getElem?_eq_getElem ly] at h
    exact nodup_inj (hk.fn r hr) lx ly h
def okWd (k : Bx) (w : List Dd) : Prop := ∀ d ∈ w, k.ok d
include hk in
theorem atW_lt {w : List Dd} (hw : okWd k w) {x : Nat} (hx : x < k.b) : (atW k.T w x).1 < k.b := by
  induction w generalizing x with
  | nil => exact hx
  | cons d w ih => exact ih (fun e he => hw e (List.mem_cons_of_mem _ he)) (T_lt hk (hw d List.mem_cons_self) hx)
include hk in
theorem atW_ok {w : List Dd} (hw : okWd k w) (x : Nat) : okWd k (atW k.T w x).2 := by
  induction w generalizing x with
  | nil => intro d hd; cases hd
  | cons d w ih =>
    intro e he
    rcases List.mem_append.mp he with he | he
    · exact T_ok hk (hw d List.mem_cons_self) (Option.mem_toList.mp he)
    · exact ih (fun e he => hw e (List.mem_cons_of_mem _ he)) _ e he
include hk in
theorem atW_inj {w : List Dd} (hw : okWd k w) {x y : Nat} (hx : x < k.b) (hy : y < k.b) (h : (atW k.T w x).1 = (atW k.T w y).1) : x = y := by
  induction w generalizing x y with
  | nil => exact h
  | cons d w ih =>
    have hd := hw d List.mem_cons_self
    have hw' : okWd k w := fun e he => hw e (List.mem_cons_of_mem _ he)
    exact T_inj hk hd hx hy (ih hw' (T_lt hk hd hx) (T_lt hk hd hy) h)
theorem atW_len (w : List Dd) (x : Nat) : (atW k.T w x).2.length ≤ w.length := by
  induction w generalizing x with
  | nil => exact Nat.le_refl _
  | cons d w ih =>
    have := ih (k.T d x).1
    show ((k.T d x).2.toList ++ (atW k.T w (k.T d x).1).2).length ≤ w.length + 1
    rw [List.length_append]
    have h2 : (k.T d x).2.toList.length ≤ 1 := by cases (k.T d x).2 <;> simp
    omega
include hk in
theorem fc_lt {w : List Dd} (hw : okWd k w) {x : Nat} (hx : x < k.b) (n : Nat) : fc k.T w x n < k.b := by
  induction n with
  | zero => exact hx
  | succ n ih => exact atW_lt hk hw ih
include hk in
theorem tr_ok {w : List Dd} (hw : okWd k w) (x n : Nat) : okWd k (tr k.T w x n) := by
  induction n with
  | zero => intro d hd; cases hd
  | succ n ih =>
    intro d hd
    rcases List.mem_append.mp hd with hd | hd
    · exact ih d hd
    · exact atW_ok hk hw _ d hd
theorem tr_len (w : List Dd) (x n : Nat) : (tr k.T w x n).length ≤ n * w.length := by
  induction n with
  | zero => simp [tr]
  | succ n ih =>
    show (tr k.T w x n ++ (atW k.T w (fc k.T w x n)).2).length ≤ _
    rw [List.length_append, Nat.succ_mul]
    have := atW_len (k := k) w (fc k.T w x n)
    omega
include hk in
theorem fc_back {w : List Dd} (hw : okWd k w) {x : Nat} (hx : x < k.b) : ∀ (i j : Nat), fc k.T w x i = fc k.T w x (i + j) → fc k.T w x j = x := by
  intro i
  induction i with
  | zero => intro j h; rw [Nat.zero_add] at h; exact h.symm
  | succ i ih =>
    intro j h
    refine ih j (atW_inj hk hw (fc_lt hk hw hx i) (fc_lt hk hw hx _) ?_)
    have e : i + 1 + j = (i + j) + 1 := by omega
    rw [e] at h
    exact h
include hk in
/-- the face comes back -/
theorem period {w : List Dd} (hw : okWd k w) {x : Nat} (hx : x < k.b) : ∃ m, 0 < m ∧ m ≤ k.b ∧ fc k.T w x m = x ∧ ∀ j, 0 < j → j < m → fc k.T w x j ≠ x := by
  have ex : ∃ m, 0 < m ∧ m ≤ k.b ∧ fc k.T w x m = x := by
    apply Classical.byContradiction
    intro hn
    have nd : ((List.range (k.b + 1)).map (fc k.T w x)).Nodup := by
      unfold List.Nodup
      rw [List.pairwise_map]
      refine List.Pairwise.imp_of_mem ?_ List.pairwise_lt_range
      intro i j hi hj hij h
      have hj' : j < k.b + 1 := List.mem_range.mp hj
      have e : j = i + (j - i) := by omega
      rw [e] at h
      exact hn ⟨j - i, by omega, by omega, fc_back hk hw hx i (j - i) h⟩
    have := nodup_le k.b _ nd fun y hy => by
      obtain ⟨i, _, rfl⟩ := List.mem_map.mp hy
      exact fc_lt hk hw hx i
    rw [List.length_map, List.length_range] at this
    omega
  obtain ⟨m, h1, h2, h3⟩ := ex
  have least : ∀ m, 0 < m → fc k.T w x m = x → ∃ m', 0 < m' ∧ m' ≤ m ∧ fc k.T w x m' = x ∧ ∀ j, 0 < j → j < m' → fc k.T w x j ≠ x := by
    intro m
    induction m using Nat.strongRecOn with
    | _ m ih =>
      intro h1 h3
      by_cases hc : ∃ j, 0 < j ∧ j < m ∧ fc k.T w x j = x
      · obtain ⟨j, j1, j2, j3⟩ := hc
        obtain ⟨m', a, b, c, d⟩ := ih j j2 j1 j3
        exact ⟨m', a, by omega, c, d⟩
      · exact ⟨m, h1, Nat.le_refl _, h3, fun j j1 j2 j3 => hc ⟨j, j1, j2, j3⟩⟩
  obtain ⟨m', a, b, c, d⟩ := least m h1 h3
  exact ⟨m', a, by omega, c, d⟩
end
end FC
namespace FC
open PySem
def nD (x : Nat) : D := .int (x : Int)
def rowE (r : Str × List Nat × List Str) : D := .tuple [.str r.1, .tuple (r.2.1.map nD), .tuple (r.2.2.map .str)]
def rowL (r : Str × List Nat × List Str) : D := .list [.str r.1, .list (r.2.1.map nD), .list (r.2.2.map .str)]
def eB (k : Bx) : D := .tuple [nD k.b, .tuple (k.rows.map rowE)]
def lB (k : Bx) : D := .list [nD k.b, .list (k.rows.map rowL)]
def oS : Option Dd → Str
  | none => dash
  | some d => dS d
def cellD (k : Bx) (d : Dd) (x : Nat) : D := .tuple [nD (k.T d x).1, .str (oS (k.T d x).2)]
def tRow (k : Bx) (d : Dd) : D := .list ((List.range k.b).map (cellD k d))
def tabOf (k : Bx) (rs : List (Str × List Nat × List Str)) : List (D × D) := rs.flatMap fun r => [(dD (r.1, false), tRow k (r.1, false)), (dD (r.1, true), tRow k (r.1, true))]
def tabD (k : Bx) : D := .dict (tabOf k k.rows)
theorem oS_opt (s : Str) (b : Bool) : oS (optD s b) = if s = dash then dash else dS (s, b) := by
  unfold optD
  split <;> rfl
theorem key_dD (d : Dd) : keyOf (dD d) = some (.inr (dS d)) := rfl
theorem tab_look {k : Bx} (hk : okBx k) : ∀ (rs : List (Str × List Nat × List Str)), (∀ r ∈ rs, r ∈ k.rows) → ∀ d : Dd, d.1 ∈ rs.map (·.1) → lookD (dD d) (tabOf k rs) = some (tRow k d)
  | [], _, d, h => by cases h
  | r :: rs, hr, d, h => by
    have okr := hk.nm r (hr r List.mem_cons_self)
    have okd : okN d.1 := by
      obtain ⟨r', h1, h2⟩ := List.mem_map.mp h
      rw [← h2]
      exact hk.nm r' (hr r' h1)
    show lookD (dD d) ((dD (r.1, false), tRow k (r.1, false)) :: (dD (r.1, true), tRow k (r.1, true)) :: tabOf k rs) = _
    simp only [lookD, key_dD]
    by_cases e1 : (r.1, false) = d
    · subst e1; simp
    · have n1 : ¬ dS (r.1, false) = dS d := fun z => e1 (dS_inj (r.1, false) d okr okd z)
      by_cases e2 : (r.1, true) = d
      · subst e2
        simp [n1]
      · have n2 : ¬ dS (r.1, true) = dS d := fun z => e2 (dS_inj (r.1, true) d okr okd z)
        simp only [Sum.inr.injEq, n1, n2, if_false]
        refine tab_look hk rs (fun r' h' => hr r' (List.mem_cons_of_mem _ h')) d ?_
        rcases List.mem_cons.mp h with h | h
        · exfalso
          change d.1 = r.1 at h
          cases hb : d.2 with
          | false => exact e1 (by rw [← h, ← hb])
          | true => exact e2 (by rw [← h, ← hb])
        · exact h
theorem tabD_look {k : Bx} (hk : okBx k) {d : Dd} (hd : k.ok d) : lookD (dD d) (tabOf k k.rows) = some (tRow k d) := tab_look hk k.rows (fun _ h => h) d hd
theorem tRow_at {k : Bx} {d : Dd} {x : Nat} (hx : x < k.b) : L2.atI ((List.range k.b).map (cellD k d)) (x : Int) = some (cellD k d x) := by
  rw [atI_nat, List.getElem?_map, List.getElem?_range hx]
  rfl
theorem find_row {k : Bx} (hk : okBx k) {r : Str × List Nat × List Str} (hr : r ∈ k.rows) : k.find r.1 = some r := by
  have nd := hk.nd
  unfold Bx.notes at nd
  unfold Bx.find
  generalize k.rows = rows at nd hr
  clear hk
  induction rows with
  | nil => cases hr
  | cons q l ih =>
    rw [List.map_cons, List.nodup_cons] at nd
    rw [List.find?_cons]
    rcases List.mem_cons.mp hr with rfl | hr
    · simp
    · have : q.1 ≠ r.1 := fun e => nd.1 (by rw [e]; exact List.mem_map.mpr ⟨r, hr, rfl⟩)
      simp only [this, decide_false]
      exact ih nd.2 hr
theorem zip_fwd {k : Bx} (hk : okBx k) {r : Str × List Nat × List Str} (hr : r ∈ k.rows) : zipD (r.2.1.map nD) (r.2.2.map .str) = (List.range k.b).map (cellD k (r.1, false)) := by
  have l1 := hk.fl r hr
  have l2 := hk.sl r hr
  apply List.ext_getElem?
  intro i
  by_cases hi : i < k.b
  · have e1 : (zipD (r.2.1.map nD) (r.2.2.map .str))[i]? = some (.tuple [nD (r.2.1[i]'(by omega)), .str (r.2.2[i]'(by omega))]) := by
      have hl : i < (zipD (r.2.1.map nD) (r.2.2.map .str)).length := by rw [zipD_size]; simp; omega
      obtain ⟨x, y, h1, h2, h3⟩ := zipD_at (List.getElem?_eq_getElem hl)
      rw [List.getElem?_map, List.getElem?_eq_getElem (by omega)] at h1 h2
      cases h1; cases h2
      rw [List.getElem?_eq_getElem hl, h3]
    rw [e1, List.getElem?_map, List.getElem?_range hi]
    have f : k.T (r.1, false) i = (r.2.1.getD i 0, optD (r.2.2.getD i dash) false) := by
      unfold Bx.T
      rw [find_row hk hr]
      simp [hi]
    show _ = some (cellD k (r.1, false) i)
    unfold cellD
    rw [f, oS_opt, List.getD_eq_getElem?_getD, List.getD_eq_getElem?_getD, List.getElem?_eq_getElem (by omega), List.getElem?_eq_getElem (by omega)]
    simp only [Option.getD_some]
    split
    · rename_i h; rw [h]
    · rfl
  · rw [List.getElem?_eq_none (by rw [zipD_size]; simp; omega), List.getElem?_eq_none (by simp; omega)]
def backS_ (r : Str × List Nat × List Str) (x : Nat) : Str := if r.2.2.getD (r.2.1.idxOf x) dash = dash then dash else r.2.2.getD (r.2.1.idxOf x) dash ++ dash
theorem zip_bwd {k : Bx} (hk : okBx k) {r : Str × List Nat × List Str} (hr : r ∈ k.rows) : zipD ((List.range k.b).map fun x => nD (r.2.1.idxOf x)) ((List.range k.b).map fun x => PyData.str (backS_ r x)) = (List.range k.b).map (cellD k (r.1, true)) := by
  apply List.ext_getElem?
  intro i
  by_cases hi : i < k.b
  · have hl : i < (zipD ((List.range k.b).map fun x => nD (r.2.1.idxOf x)) ((List.range k.b).map fun x => PyData.str (backS_ r x))).length := by rw [zipD_size]; simp; omega
    obtain ⟨x, y, h1, h2, h3⟩ := zipD_at (List.getElem?_eq_getElem hl)
    rw [List.getElem?_map, List.getElem?_range hi] at h1 h2
    cases h1; cases h2
    rw [List.getElem?_eq_getElem hl, h3, List.getElem?_map, List.getElem?_range hi]
    have f : k.T (r.1, true) i = (r.2.1.idxOf i, optD (r.2.2.getD (r.2.1.idxOf i) dash) true) := by
      unfold Bx.T
      rw [find_row hk hr]
      simp [hi]
    show _ = some (cellD k (r.1, true) i)
    unfold cellD
    rw [f, oS_opt]
    simp only
    unfold backS_ dS
    simp
  · rw [List.getElem?_eq_none (by rw [zipD_size]; simp; omega), List.getElem?_eq_none (by simp; omega)]
theorem tab_new {k : Bx} (hk : okBx k) {rs : List (Str × List Nat × List Str)} {r : Str × List Nat × List Str} (hrs : ∀ q ∈ rs, q ∈ k.rows) (hr : r ∈ k.rows) (hn : r.1 ∉ rs.map (·.1)) (b : Bool) :
    ((tabOf k rs).any fun kv => decide (keyOf kv.1 = some (.inr (dS (r.1, b))))) = false := by
  rw [List.any_eq_false]
  intro kv hkv
  obtain ⟨q, hq, h⟩ := List.mem_flatMap.mp hkv
  have okq := hk.nm q (hrs q hq)
  have okr := hk.nm r hr
  have ne : ∀ b', dS (q.1, b') ≠ dS (r.1, b) := fun b' z => by
    have := dS_inj (q.1, b') (r.1, b) okq okr z
    have e : q.1 = r.1 := (Prod.mk.inj this).1
    exact hn (by rw [← e]; exact List.mem_map.mpr ⟨q, hq, rfl⟩)
  simp only [List.mem_cons, List.not_mem_nil, or_false] at h
  rcases h with rfl | rfl
  · simp [key_dD, ne]
  · simp [key_dD, ne]
end FC
namespace FC
open PySem
section
variable {k : Bx} (hk : okBx k)
theorem T_no {d : Dd} (hd : ¬ k.ok d) (x : Nat) : k.T d x = (x, none) := by
  have : k.find d.1 = none := by
    unfold Bx.find
    rw [List.find?_eq_none]
    intro r hr
    simp only [decide_eq_true_eq]
    intro e
    exact hd (show d.1 ∈ k.notes by rw [← e]; exact List.mem_map.mpr ⟨r, hr, rfl⟩)
  unfold Bx.T
  rw [this]
theorem T_out {d : Dd} {x : Nat} (hx : ¬ x < k.b) : k.T d x = (x, none) := by
  unfold Bx.T
  split
  · rfl
  · rw [if_neg hx]
theorem atW_out {w : List Dd} {x : Nat} (hx : ¬ x < k.b) : atW k.T w x = (x, []) := by
  induction w with
  | nil => rfl
  | cons d w ih => simp [atW, T_out hx, ih]
include hk in
theorem atW_lt' (w : List Dd) {x : Nat} (hx : x < k.b) : (atW k.T w x).1 < k.b := by
  induction w generalizing x with
  | nil => exact hx
  | cons d w ih =>
    by_cases hd : k.ok d
    · exact ih (T_lt hk hd hx)
    · show (atW k.T w (k.T d x).1).1 < k.b
      rw [T_no hd]; exact ih hx
include hk in
theorem atW_inj' (w : List Dd) {x y : Nat} (hx : x < k.b) (hy : y < k.b) (h : (atW k.T w x).1 = (atW k.T w y).1) : x = y := by
  induction w generalizing x y with
  | nil => exact h
  | cons d w ih =>
    by_cases hd : k.ok d
    · exact T_inj hk hd hx hy (ih (T_lt hk hd hx) (T_lt hk hd hy) h)
    · have h : (atW k.T w (k.T d x).1).1 = (atW k.T w (k.T d y).1).1 := h
      rw [T_no hd, T_no hd] at h
      exact ih hx hy h
/-- the word without the deeds that are none of the box -/
theorem atW_filter (w : List Dd) (x : Nat) : ∃ w', okWd k w' ∧ ∀ x, atW k.T w' x = atW k.T w x := by
  induction w with
  | nil => exact ⟨[], (fun _ h => nomatch h), fun _ => rfl⟩
  | cons d w ih =>
    obtain ⟨w', h1, h2⟩ := ih
    by_cases hd : k.ok d
    · refine ⟨d :: w', fun e he => ?_, fun x => by simp [atW, h2]⟩
      rcases List.mem_cons.mp he with rfl | he
      · exact hd
      · exact h1 e he
    · exact ⟨w', h1, fun x => by rw [h2]; simp [atW, T_no hd]⟩
theorem fc_congr {w w' : List Dd} (h : ∀ x, atW k.T w' x = atW k.T w x) (x n : Nat) : fc k.T w' x n = fc k.T w x n := by
  induction n with
  | zero => rfl
  | succ n ih => simp [fc, ih, h]
include hk in
theorem period_all (w : List Dd) (x : Nat) : ∃ m, 0 < m ∧ m ≤ k.b ∧ fc k.T w x m = x ∧ ∀ j, 0 < j → j < m → fc k.T w x j ≠ x := by
  by_cases hx : x < k.b
  · obtain ⟨w', h1, h2⟩ := atW_filter (k := k) w x
    obtain ⟨m, a, b, c, d⟩ := period hk h1 hx
    refine ⟨m, a, b, ?_, fun j j1 j2 => ?_⟩
    · rw [← fc_congr h2]; exact c
    · rw [← fc_congr h2]; exact d j j1 j2
  · have := hk.b2
    refine ⟨1, by omega, by omega, ?_, fun j j1 j2 => by omega⟩
    show (atW k.T w x).1 = x
    rw [atW_out hx]
open Classical in
/-- the length of the round of a face -/
noncomputable def rd (k : Bx) (w : List Dd) (x : Nat) : Nat := if h : ∃ m, 0 < m ∧ fc k.T w x m = x ∧ ∀ j, 0 < j → j < m → fc k.T w x j ≠ x then Classical.choose h else 1
include hk in
theorem rd_spec (w : List Dd) (x : Nat) : 0 < rd k w x ∧ rd k w x ≤ k.b ∧ fc k.T w x (rd k w x) = x ∧ ∀ j, 0 < j → j < rd k w x → fc k.T w x j ≠ x := by
  obtain ⟨m, a, b, c, d⟩ := period_all hk w x
  have h : ∃ m, 0 < m ∧ fc k.T w x m = x ∧ ∀ j, 0 < j → j < m → fc k.T w x j ≠ x := ⟨m, a, c, d⟩
  have e : rd k w x = Classical.choose h := by unfold rd; rw [dif_pos h]
  have s := Classical.choose_spec h
  rw [← e] at s
  refine ⟨s.1, ?_, s.2.1, s.2.2⟩
  rcases Nat.lt_or_ge m (rd k w x) with q | q
  · exact absurd c (s.2.2 m a q)
  · omega
include hk in
theorem rd_uniq {w : List Dd} {x m : Nat} (a : 0 < m) (c : fc k.T w x m = x) (d : ∀ j, 0 < j → j < m → fc k.T w x j ≠ x) : m = rd k w x := by
  obtain ⟨s1, _, s2, s3⟩ := rd_spec hk w x
  rcases Nat.lt_trichotomy m (rd k w x) with q | q | q
  · exact absurd c (s3 m a q)
  · exact q
  · exact absurd s2 (d _ s1 q)
end
def pD (q : List Dd × Nat) : D := .tuple [eW q.1, nD q.2]
def lPs (p : List (List Dd × Nat)) : D := .list (p.map pD)
end FC
namespace FC
open PySem
def wsum (p : List (List Dd × Nat)) : Nat := (p.map fun q => q.1.length).sum
theorem wsum_cons (q : List Dd × Nat) (p : List (List Dd × Nat)) : wsum (q :: p) = q.1.length + wsum p := by simp [wsum]
theorem wsum_app (p q : List (List Dd × Nat)) : wsum (p ++ q) = wsum p + wsum q := by unfold wsum; rw [List.map_append, List.sum_append]
theorem wsum_mem {q : List Dd × Nat} : ∀ {p : List (List Dd × Nat)}, q ∈ p → q.1.length ≤ wsum p
  | [], h => by cases h
  | r :: p, h => by
    rw [wsum_cons]
    rcases List.mem_cons.mp h with rfl | h
    · omega
    · have := wsum_mem h; omega
def okPs (k : Bx) (p : List (List Dd × Nat)) : Prop := ∀ q ∈ p, okWd k q.1
section
variable {k : Bx} (hk : okBx k)
include hk in
theorem raw_ok : ∀ {p : List (List Dd × Nat)} (x : Nat), okPs k p → okPs k (progRaw k.T (rd k) p x).2
  | [], x, h => fun _ z => nomatch z
  | (w, t) :: p, x, h => by
    intro q hq
    have hw := h (w, t) List.mem_cons_self
    simp only [progRaw] at hq
    rcases List.mem_cons.mp hq with rfl | hq
    · exact tr_ok hk hw _ _
    · rcases List.mem_cons.mp hq with rfl | hq
      · exact tr_ok hk hw _ _
      · exact raw_ok _ (fun q hq => h q (List.mem_cons_of_mem _ hq)) q hq
include hk in
theorem raw_sum : ∀ (p : List (List Dd × Nat)) (x : Nat), wsum (progRaw k.T (rd k) p x).2 ≤ 2 * k.b * wsum p
  | [], x => by simp [progRaw, wsum]
  | (w, t) :: p, x => by
    have ih := raw_sum p (fc k.T w x (t % rd k w x))
    obtain ⟨r1, r2, _, _⟩ := rd_spec hk w x
    have h1 := tr_len (k := k) w x (rd k w x)
    have h2 := tr_len (k := k) w x (t % rd k w x)
    have h3 : rd k w x * w.length ≤ k.b * w.length := Nat.mul_le_mul_right _ r2
    have h4 : t % rd k w x * w.length ≤ k.b * w.length := Nat.mul_le_mul_right _ (Nat.le_trans (Nat.le_of_lt (Nat.mod_lt _ r1)) r2)
    simp only [progRaw, wsum_cons]
    have e : 2 * k.b * (w.length + wsum p) = k.b * w.length + k.b * w.length + 2 * k.b * wsum p := by
      rw [Nat.mul_add, Nat.mul_assoc, Nat.two_mul]
    omega
include hk in
theorem raw_lt {p : List (List Dd × Nat)} {x : Nat} (hx : x < k.b) : (progRaw k.T (rd k) p x).1 < k.b := by
  induction p generalizing x with
  | nil => exact hx
  | cons q p ih =>
    obtain ⟨w, t⟩ := q
    have : fc k.T w x (t % rd k w x) < k.b := by
      generalize t % rd k w x = j
      induction j with
      | zero => exact hx
      | succ j ih2 => exact atW_lt' hk w ih2
    exact ih this
end
theorem join_ok {k : Bx} {p : List (List Dd × Nat)} (h : okPs k p) : okPs k (joinP p) ∧ (joinP p).length ≤ p.length ∧ wsum (joinP p) ≤ wsum p := by
  have key : ∀ (l found : List (List Dd × Nat)), okPs k l → okPs k found → okPs k (l.foldl joinStep found) ∧ (l.foldl joinStep found).length ≤ found.length + l.length ∧ wsum (l.foldl joinStep found) ≤ wsum found + wsum l := by
    intro l
    induction l with
    | nil => intro found _ h; simp [wsum]; exact h
    | cons q l ih =>
      intro found hl hf
      have hq := hl q List.mem_cons_self
      have h2 : okPs k (joinStep found q) ∧ (joinStep found q).length ≤ found.length + 1 ∧ wsum (joinStep found q) ≤ wsum found + q.1.length := by
        have app : okPs k (found ++ [q]) := fun r hr => by
          rcases List.mem_append.mp hr with hr | hr
          · exact hf r hr
          · rw [List.mem_singleton.mp hr]; exact hq
        unfold joinStep
        split
        · exact ⟨hf, by omega, by omega⟩
        · split
          · rename_i w t hlst
            have hne : found ≠ [] := by intro z; rw [z] at hlst; cases hlst
            have e : found = found.dropLast ++ [(w, t)] := by
              have := List.getLast?_eq_some_getLast hne
              rw [hlst] at this
              have e2 : found.getLast hne = (w, t) := (Option.some.inj this).symm
              rw [← e2]
              exact (List.dropLast_concat_getLast hne).symm
            split
            · have hw : wsum found = wsum found.dropLast + w.length := by
                conv => lhs; rw [e]
                rw [wsum_app]; simp [wsum]
              have hlen := List.length_pos_iff.mpr hne
              refine ⟨fun r hr => ?_, by rw [List.length_append, List.length_dropLast, List.length_singleton]; omega, by rw [hw, wsum_app]; simp [wsum]; omega⟩
              rcases List.mem_append.mp hr with hr | hr
              · exact hf r ((List.dropLast_sublist _).subset hr)
              · rw [List.mem_singleton.mp hr]
                intro d hd
                rcases List.mem_append.mp hd with hd | hd
                · exact hf (w, t) (by rw [e]; exact List.mem_append_right _ List.mem_cons_self) d hd
                · exact hq d hd
            · exact ⟨app, by simp, by rw [wsum_app]; simp [wsum]⟩
          · exact ⟨app, by simp, by rw [wsum_app]; simp [wsum]⟩
      have h := ih (joinStep found q) (fun r hr => hl r (List.mem_cons_of_mem _ hr)) h2.1
      rw [List.foldl_cons, List.length_cons, wsum_cons]
      exact ⟨h.1, by omega, by omega⟩
  have := key p [] h (fun _ z => nomatch z)
  simp only [List.length_nil, Nat.zero_add] at this
  refine ⟨this.1, this.2.1, ?_⟩
  have h := this.2.2
  rw [show wsum ([] : List (List Dd × Nat)) = 0 from rfl, Nat.zero_add] at h
  exact h
end FC

/-! there and back; rounds of rows -/
namespace FC
open PySem
section
variable {k : Bx} (hk : okBx k)
include hk in
theorem T_inv {d : Dd} (hd : k.ok d) {x : Nat} (hx : x < k.b) : k.T (dInv d) (k.T d x).1 = (x, (k.T d x).2.map dInv) := by
  obtain ⟨r, e, hr, hn⟩ := find_some hd
  have hl := hk.fl r hr
  have nd := hk.fn r hr
  have opt : ∀ (s : Str) (c : Bool), (optD s c).map dInv = optD s (!c) := by
    intro s c
    unfold optD
    split <;> rfl
  obtain ⟨t, c⟩ := d
  cases c with
  | false =>
    have f : k.T (t, false) x = (r.2.1.getD x 0, optD (r.2.2.getD x dash) false) := by
      unfold Bx.T; rw [e]; simp [hx]
    have hxl : x < r.2.1.length := by omega
    have g : r.2.1.getD x 0 = r.2.1[x] := by rw [List.getD_eq_getElem?_getD, List.getElem?_eq_getElem hxl]; rfl
    have hy : r.2.1[x] < k.b := hk.fb r hr _ (List.getElem_mem _)
    have ix : r.2.1.idxOf r.2.1[x] = x := by
      have h2 := List.idxOf_lt_length_of_mem (List.getElem_mem hxl)
      exact nodup_inj nd h2 hxl (List.getElem_idxOf h2)
    rw [f]
    show k.T (t, true) (r.2.1.getD x 0) = (x, (optD (r.2.2.getD x dash) false).map dInv)
    rw [g, opt]
    unfold Bx.T; rw [e]; simp [hy, ix]
  | true =>
    have f : k.T (t, true) x = (r.2.1.idxOf x, optD (r.2.2.getD (r.2.1.idxOf x) dash) true) := by
      unfold Bx.T; rw [e]; simp [hx]
    have mx := perm_mem nd hl (hk.fb r hr) hx
    have h2 := List.idxOf_lt_length_of_mem mx
    have hy : r.2.1.idxOf x < k.b := by omega
    have g : r.2.1.getD (r.2.1.idxOf x) 0 = x := by
      rw [List.getD_eq_getElem?_getD, List.getElem?_eq_getElem h2]
      exact List.getElem_idxOf h2
    rw [f]
    show k.T (t, false) (r.2.1.idxOf x) = (x, (optD (r.2.2.getD (r.2.1.idxOf x) dash) true).map dInv)
    rw [opt]
    rw [List.getD_eq_getElem?_getD] at g
    unfold Bx.T; rw [e]; simp [hy, g]
theorem bw_cons (d : Dd) (w : List Dd) : bw (d :: w) = bw w ++ [dInv d] := by simp [bw]
theorem bw_app (u v : List Dd) : bw (u ++ v) = bw v ++ bw u := by simp [bw]
theorem bw_bw (w : List Dd) : bw (bw w) = w := by
  simp only [bw, List.map_reverse, List.reverse_reverse, List.map_map]
  conv => rhs; rw [← List.map_id w]
  exact List.map_congr_left fun d _ => dInv2 d
include hk in
theorem atW_inv : ∀ {w : List Dd}, okWd k w → ∀ {x : Nat}, x < k.b → atW k.T (bw w) (atW k.T w x).1 = (x, bw (atW k.T w x).2)
  | [], _, x, _ => rfl
  | d :: w, hw, x, hx => by
    have hd := hw d List.mem_cons_self
    have ih := atW_inv (w := w) (fun e he => hw e (List.mem_cons_of_mem _ he)) (T_lt hk hd hx)
    rw [bw_cons, atW_snoc]
    show ((k.T (dInv d) (atW k.T (bw w) (atW k.T w (k.T d x).1).1).1).1, _) = _
    have e1 : (atW k.T (d :: w) x).1 = (atW k.T w (k.T d x).1).1 := rfl
    have e2 : (atW k.T (d :: w) x).2 = (k.T d x).2.toList ++ (atW k.T w (k.T d x).1).2 := rfl
    rw [e1, e2, ih, T_inv hk hd hx, bw_app]
    cases (k.T d x).2 <;> simp [bw]
theorem bw_okd {w : List Dd} (h : okWd k w) : okWd k (bw w) := by
  intro d hd
  obtain ⟨e, he, rfl⟩ := List.mem_map.mp hd
  exact h e (List.mem_reverse.mp he)
include hk in
theorem act_back : ∀ {r : List Nat} {w : List Dd}, okWd k w → (∀ x ∈ r, x < k.b) → act k.T (bw w) (act k.T w r) = r
  | [], _, _, _ => rfl
  | x :: r, w, hw, hr => by
    have h := atW_inv hk hw (hr x List.mem_cons_self)
    have ih := act_back (r := r) (w := (atW k.T w x).2) (atW_ok hk hw x) fun y hy => hr y (List.mem_cons_of_mem _ hy)
    show (atW k.T (bw w) (atW k.T w x).1).1 :: act k.T (atW k.T (bw w) (atW k.T w x).1).2 (act k.T (atW k.T w x).2 r) = x :: r
    rw [h, ih]
include hk in
theorem act_in : ∀ (r : List Nat) (w : List Dd), (∀ x ∈ r, x < k.b) → ∀ y ∈ act k.T w r, y < k.b := by
  intro r
  induction r with
  | nil => intro w _ y hy; cases hy
  | cons x r ih =>
    intro w hr y hy
    rcases List.mem_cons.mp hy with rfl | hy
    · exact atW_lt' hk w (hr x List.mem_cons_self)
    · exact ih _ (fun z hz => hr z (List.mem_cons_of_mem _ hz)) y hy
theorem pw_okd {w : List Dd} (h : okWd k w) : ∀ n, okWd k (pw w n)
  | 0 => fun _ h => nomatch h
  | n + 1 => fun d hd => by
    rcases List.mem_append.mp hd with hd | hd
    · exact h d hd
    · exact pw_okd h n d hd
theorem bw_pw (w : List Dd) : ∀ n, bw (pw w n) = pw (bw w) n
  | 0 => rfl
  | n + 1 => by
    show bw (w ++ pw w n) = _
    rw [bw_app, bw_pw w n, pw_succ']
include hk in
theorem fc_dvd {w : List Dd} {x j : Nat} (h : fc k.T w x j = x) : rd k w x ∣ j := by
  obtain ⟨r1, r2, r3, r4⟩ := rd_spec hk w x
  have e : j = rd k w x * (j / rd k w x) + j % rd k w x := (Nat.div_add_mod _ _).symm
  have h2 : fc k.T w x (j % rd k w x) = x := by
    rw [e, fc_add, fc_round k.T w x _ r3] at h
    exact h
  rcases Nat.eq_zero_or_pos (j % rd k w x) with q | q
  · exact Nat.dvd_of_mod_eq_zero q
  · exact absurd h2 (r4 _ q (Nat.mod_lt _ r1))
/-- rounds along a row: how many, and what is sent on meanwhile -/
noncomputable def rounds (k : Bx) : List Dd → List Nat → Nat × List Dd
  | w, [] => (1, w)
  | w, x :: r => (rd k w x * (rounds k (tr k.T w x (rd k w x)) r).1, (rounds k (tr k.T w x (rd k w x)) r).2)
theorem act_pw_cons {w : List Dd} {x : Nat} {r : List Nat} (j : Nat) : act k.T (pw w j) (x :: r) = fc k.T w x j :: act k.T (tr k.T w x j) r := by
  show (atW k.T (pw w j) x).1 :: act k.T (atW k.T (pw w j) x).2 r = _
  rw [atW_pw]
theorem sentW_pw_cons {w : List Dd} {x : Nat} {r : List Nat} (j : Nat) : sentW k.T (pw w j) (x :: r) = sentW k.T (tr k.T w x j) r := by
  show sentW k.T (atW k.T (pw w j) x).2 r = _
  rw [atW_pw]
include hk in
theorem rounds_spec : ∀ (r : List Nat) (w : List Dd), 0 < (rounds k w r).1 ∧ (rounds k w r).1 ≤ k.b ^ r.length ∧ act k.T (pw w (rounds k w r).1) r = r ∧ (∀ j, act k.T (pw w j) r = r → (rounds k w r).1 ∣ j) ∧ sentW k.T (pw w (rounds k w r).1) r = (rounds k w r).2
  | [], w => by
    refine ⟨Nat.one_pos, by simp [rounds], by simp [act, rounds], fun j _ => ?_, ?_⟩
    · exact Nat.one_dvd _
    · show sentW k.T (pw w 1) [] = w
      rw [pw_one]; rfl
  | x :: r, w => by
    obtain ⟨r1, r2, r3, r4⟩ := rd_spec hk w x
    obtain ⟨a, a', b, c, d⟩ := rounds_spec r (tr k.T w x (rd k w x))
    have e1 : (rounds k w (x :: r)).1 = rd k w x * (rounds k (tr k.T w x (rd k w x)) r).1 := rfl
    have e2 : (rounds k w (x :: r)).2 = (rounds k (tr k.T w x (rd k w x)) r).2 := rfl
    rw [e1, e2]
    refine ⟨Nat.mul_pos r1 a, ?_, ?_, ?_, ?_⟩
    · rw [List.length_cons, Nat.pow_succ, Nat.mul_comm]
      exact Nat.mul_le_mul a' r2
    · rw [act_pw_cons, fc_round k.T w x _ r3, tr_round k.T w x _ r3, b]
    · intro j hj
      rw [act_pw_cons] at hj
      obtain ⟨h1, h2⟩ := List.cons.inj hj
      obtain ⟨q, rfl⟩ := fc_dvd hk h1
      rw [tr_round k.T w x _ r3] at h2
      exact Nat.mul_dvd_mul_left _ (c q h2)
    · rw [sentW_pw_cons, tr_round k.T w x _ r3, d]
include hk in
theorem act_mod {w : List Dd} {r : List Nat} (n : Nat) : act k.T (pw w n) r = act k.T (pw w (n % (rounds k w r).1)) r := by
  obtain ⟨a, a', b, c, d⟩ := rounds_spec hk r w
  have e : n = (rounds k w r).1 * (n / (rounds k w r).1) + n % (rounds k w r).1 := (Nat.div_add_mod _ _).symm
  have rep : ∀ q, act k.T (pw w ((rounds k w r).1 * q)) r = r := by
    intro q
    induction q with
    | zero => simp [pw]
    | succ q ih => rw [Nat.mul_succ, pw_add, act_app, ih, b]
  conv => lhs; rw [e]
  rw [pw_add, act_app, rep]
/-- so many times, also below 0, is what is left of it -/
theorem pw_neg {w : List Dd} (hw : okWd k w) {r : List Nat} (hr : ∀ x ∈ r, x < k.b) (m s : Nat) (h : okBx k) (hs : (rounds k w r).1 ∣ s + m) : act k.T (pw (bw w) m) r = act k.T (pw w s) r := by
  obtain ⟨q, e⟩ := hs
  have h1 : act k.T (pw w m) (act k.T (pw w s) r) = r := by
    rw [← act_app, ← pw_add, e, act_mod h, Nat.mul_mod_right]
    simp [pw]
  rw [← bw_pw]
  conv => lhs; rw [← h1]
  exact act_back h (pw_okd hw m) (act_in h r _ hr)
end
theorem sentW_len {k : Bx} : ∀ (w : List Dd) (r : List Nat), (sentW k.T w r).length ≤ w.length := by
  intro w r
  induction r generalizing w with
  | nil => exact Nat.le_refl _
  | cons x r ih => exact Nat.le_trans (ih _) (atW_len w x)
theorem sentW_ok {k : Bx} (hk : okBx k) {w : List Dd} (hw : okWd k w) {r : List Nat} : okWd k (sentW k.T w r) := by
  induction r generalizing w with
  | nil => exact hw
  | cons x r ih => exact ih (atW_ok hk hw x)
end FC

/-! short-winded boxes: few notes are under way -/
namespace FC
open PySem
theorem sum_le_map {α : Type} {f g : α → Nat} : ∀ {l : List α}, (∀ x ∈ l, f x ≤ g x) → (l.map f).sum ≤ (l.map g).sum
  | [], _ => Nat.le_refl _
  | x :: l, h => by
    have ih := sum_le_map (f := f) (g := g) (l := l) fun y hy => h y (List.mem_cons_of_mem _ hy)
    have := h x List.mem_cons_self
    simp only [List.map_cons, List.sum_cons]
    omega
theorem sum_add_map {α : Type} {f g : α → Nat} : ∀ {l : List α}, (l.map fun x => f x + g x).sum = (l.map f).sum + (l.map g).sum
  | [] => rfl
  | x :: l => by
    have ih := sum_add_map (f := f) (g := g) (l := l)
    simp only [List.map_cons, List.sum_cons]
    omega
/-- different numbers below b: at most the sum of all -/
theorem sum_nodup (g : Nat → Nat) : ∀ (b : Nat) (l : List Nat), l.Nodup → (∀ x ∈ l, x < b) → (l.map g).sum ≤ ((List.range b).map g).sum
  | 0, l, _, h => by
    cases l with
    | nil => exact Nat.le_refl _
    | cons x l => exact absurd (h x List.mem_cons_self) (Nat.not_lt_zero _)
  | b + 1, l, nd, h => by
    rw [List.range_succ, List.map_append, List.sum_append]
    by_cases hb : b ∈ l
    · have h1 := sum_nodup g b (l.erase b) (nd.erase b) fun x hx => by
        have h2 := (nd.mem_erase_iff.mp hx)
        have := h x h2.2
        have h3 : x ≠ b := h2.1
        omega
      have h2 := ((List.perm_cons_erase hb).map g).sum_nat
      rw [h2]
      simp only [List.map_cons, List.sum_cons, List.map_nil, List.sum_nil]
      omega
    · have := sum_nodup g b l nd fun x hx => by
        have := h x hx
        have h3 : x ≠ b := fun e => hb (e ▸ hx)
        omega
      omega
def Sn (k : Bx) : Nat → Str → Nat
  | 0, _ => 1
  | j + 1, t => match k.find t with
    | none => 0
    | some r => (r.2.2.map fun z => if z = dash then 0 else Sn k j z).sum
def SW (k : Bx) (j : Nat) (w : List Dd) : Nat := (w.map fun d => Sn k j d.1).sum
theorem SW_nil (k : Bx) (j : Nat) : SW k j [] = 0 := rfl
theorem SW_cons (k : Bx) (j : Nat) (d : Dd) (w : List Dd) : SW k j (d :: w) = Sn k j d.1 + SW k j w := rfl
theorem SW_app (k : Bx) (j : Nat) (u v : List Dd) : SW k j (u ++ v) = SW k j u + SW k j v := by
  unfold SW
  rw [List.map_append, List.sum_append]
theorem SW_0 (k : Bx) (w : List Dd) : SW k 0 w = w.length := by
  induction w with
  | nil => rfl
  | cons d w ih => rw [SW_cons, ih]; simp [Sn]; omega
section
variable {k : Bx} (hk : okBx k)
theorem SW_opt (j : Nat) (s : Str) (c : Bool) : SW k j (optD s c).toList = if s = dash then 0 else Sn k j s := by
  unfold optD
  split <;> simp [SW]
include hk in
/-- a deed at all faces -/
theorem S_faces {d : Dd} (hd : k.ok d) (j : Nat) : ((List.range k.b).map fun x => SW k j (k.T d x).2.toList).sum ≤ Sn k (j + 1) d.1 := by
  obtain ⟨r, e, hr, hn⟩ := find_some hd
  have hl := hk.fl r hr
  have sl := hk.sl r hr
  have e1 : Sn k (j + 1) d.1 = (r.2.2.map fun z => if z = dash then 0 else Sn k j z).sum := by
    show (match k.find d.1 with
    | none => 0
    | some r => (r.2.2.map fun z => if z = dash then 0 else Sn k j z).sum) = _
    rw [e]
  have e2 : (List.range k.b).map (fun x => if r.2.2.getD x dash = dash then 0 else Sn k j (r.2.2.getD x dash)) = r.2.2.map fun z => if z = dash then 0 else Sn k j z := by
    apply List.ext_getElem?
    intro i
    rw [List.getElem?_map, List.getElem?_map]
    by_cases hi : i < k.b
    · rw [List.getElem?_range hi, List.getElem?_eq_getElem (by omega)]
      simp only [Option.map_some]
      rw [List.getD_eq_getElem?_getD, List.getElem?_eq_getElem (by omega)]
      rfl
    · rw [List.getElem?_eq_none (by simp; omega), List.getElem?_eq_none (by omega)]
      rfl
  rw [e1, ← e2]
  obtain ⟨t, c⟩ := d
  cases c with
  | false =>
    refine sum_le_map fun x hx => ?_
    have hx := List.mem_range.mp hx
    have f : k.T (t, false) x = (r.2.1.getD x 0, optD (r.2.2.getD x dash) false) := by
      unfold Bx.T; rw [e]; simp [hx]
    rw [f, SW_opt]
    exact Nat.le_refl _
  | true =>
    have f : ∀ x ∈ List.range k.b, SW k j (k.T (t, true) x).2.toList = (fun y => if r.2.2.getD y dash = dash then 0 else Sn k j (r.2.2.getD y dash)) (r.2.1.idxOf x) := by
      intro x hx
      have hx := List.mem_range.mp hx
      have f : k.T (t, true) x = (r.2.1.idxOf x, optD (r.2.2.getD (r.2.1.idxOf x) dash) true) := by
        unfold Bx.T; rw [e]; simp [hx]
      rw [f, SW_opt]
    rw [List.map_congr_left f]
    show ((List.range k.b).map ((fun y => if r.2.2.getD y dash = dash then 0 else Sn k j (r.2.2.getD y dash)) ∘ (fun x => r.2.1.idxOf x))).sum ≤ _
    rw [← List.map_map]
    refine sum_nodup _ k.b _ ?_ ?_
    · refine List.pairwise_map.mpr (List.Pairwise.imp_of_mem (R := (· ≠ ·)) ?_ List.nodup_range)
      intro x y hx hy hne q
      have mx := perm_mem (hk.fn r hr) hl (hk.fb r hr) (List.mem_range.mp hx)
      have my := perm_mem (hk.fn r hr) hl (hk.fb r hr) (List.mem_range.mp hy)
      apply hne
      rw [← List.getElem_idxOf (List.idxOf_lt_length_of_mem mx), ← List.getElem_idxOf (List.idxOf_lt_length_of_mem my)]
      congr 1
    · intro y hy
      obtain ⟨x, hx, rfl⟩ := List.mem_map.mp hy
      have mx := perm_mem (hk.fn r hr) hl (hk.fb r hr) (List.mem_range.mp hx)
      have := List.idxOf_lt_length_of_mem mx
      omega
include hk in
/-- a word at all faces -/
theorem SW_faces : ∀ {w : List Dd}, okWd k w → ∀ j, ((List.range k.b).map fun x => SW k j (atW k.T w x).2).sum ≤ SW k (j + 1) w
  | [], _, j => by
    have : ∀ l : List Nat, (l.map fun x => SW k j (atW k.T [] x).2).sum = 0 := by
      intro l
      induction l with
      | nil => rfl
      | cons x l ih => rw [List.map_cons, List.sum_cons, ih]; rfl
    rw [this]
    exact Nat.zero_le _
  | d :: w, hw, j => by
    have hd := hw d List.mem_cons_self
    have ih := SW_faces (w := w) (fun e he => hw e (List.mem_cons_of_mem _ he)) j
    have e : ∀ x ∈ List.range k.b, SW k j (atW k.T (d :: w) x).2 = SW k j (k.T d x).2.toList + SW k j (atW k.T w (k.T d x).1).2 := fun x _ => SW_app k j _ _
    rw [List.map_congr_left e, sum_add_map, SW_cons]
    refine Nat.add_le_add (S_faces hk hd j) (Nat.le_trans ?_ ih)
    show ((List.range k.b).map ((fun y => SW k j (atW k.T w y).2) ∘ (fun x => (k.T d x).1))).sum ≤ _
    rw [← List.map_map]
    refine sum_nodup _ k.b _ ?_ ?_
    · refine List.pairwise_map.mpr (List.Pairwise.imp_of_mem (R := (· ≠ ·)) ?_ List.nodup_range)
      intro x y hx hy hne q
      exact hne (T_inj hk hd (List.mem_range.mp hx) (List.mem_range.mp hy) q)
    · intro y hy
      obtain ⟨x, hx, rfl⟩ := List.mem_map.mp hy
      exact T_lt hk hd (List.mem_range.mp hx)
theorem tr_SW (w : List Dd) (x j : Nat) : ∀ m, SW k j (tr k.T w x m) = (((List.range m).map fun t => fc k.T w x t).map fun y => SW k j (atW k.T w y).2).sum
  | 0 => rfl
  | m + 1 => by
    show SW k j (tr k.T w x m ++ (atW k.T w (fc k.T w x m)).2) = _
    rw [SW_app, tr_SW w x j m, List.range_succ, List.map_append, List.map_append, List.sum_append]
    simp
include hk in
/-- a round sends on no more than all faces together -/
theorem SW_round {w : List Dd} (hw : okWd k w) {x : Nat} (hx : x < k.b) (j m : Nat) (hm : m ≤ rd k w x) : SW k j (tr k.T w x m) ≤ SW k (j + 1) w := by
  refine Nat.le_trans ?_ (SW_faces hk hw j)
  rw [tr_SW]
  refine sum_nodup _ k.b _ ?_ ?_
  · refine List.pairwise_map.mpr (List.Pairwise.imp_of_mem (R := (· < ·)) ?_ List.pairwise_lt_range)
    intro s t hs ht hlt q
    have hs := List.mem_range.mp hs
    have ht := List.mem_range.mp ht
    obtain ⟨_, _, _, r4⟩ := rd_spec hk w x
    refine r4 (t - s) (by omega) (by omega) (fc_back hk hw hx s (t - s) ?_)
    rw [q]
    congr 1
    omega
  · intro y hy
    obtain ⟨t, _, rfl⟩ := List.mem_map.mp hy
    exact fc_lt hk hw hx t
/-- the words along the rounds of a row stay small -/
def fitsR (k : Bx) : List Dd → List Nat → Prop
  | _, [] => True
  | w, x :: r => w.length * 20 < sizeLine ∧ fitsR k (tr k.T w x (rd k w x)) r
include hk in
theorem fitsR_short {A : Nat} (hA : A * 20 < sizeLine) : ∀ {r : List Nat} {w : List Dd}, okWd k w → (∀ x ∈ r, x < k.b) → (∀ j, SW k j w ≤ A) → fitsR k w r
  | [], _, _, _, _ => trivial
  | x :: r, w, hw, hr, h => by
    have h0 := h 0
    rw [SW_0] at h0
    refine ⟨Nat.lt_of_le_of_lt (Nat.mul_le_mul_right _ h0) hA, fitsR_short hA (tr_ok hk hw _ _) (fun y hy => hr y (List.mem_cons_of_mem _ hy)) fun j => ?_⟩
    exact Nat.le_trans (SW_round hk hw (hr x List.mem_cons_self) j _ (Nat.le_refl _)) (h (j + 1))
include hk in
theorem fitsR_pow : ∀ {r : List Nat} {w : List Dd}, w.length * k.b ^ r.length * 20 < sizeLine → fitsR k w r
  | [], _, _ => trivial
  | x :: r, w, h => by
    have b2 := hk.b2
    have pos : 0 < k.b ^ r.length := Nat.pos_of_ne_zero (by intro q; have := Nat.pow_eq_zero.mp q; omega)
    rw [List.length_cons, Nat.pow_succ] at h
    obtain ⟨_, m2, _, _⟩ := rd_spec hk w x
    refine ⟨Nat.lt_of_le_of_lt ?_ h, fitsR_pow (Nat.lt_of_le_of_lt ?_ h)⟩
    · have : w.length * 1 ≤ w.length * (k.b ^ r.length * k.b) := Nat.mul_le_mul_left _ (Nat.mul_pos pos (by omega))
      omega
    · refine Nat.mul_le_mul_right 20 ?_
      have h3 := tr_len (k := k) w x (rd k w x)
      have h4 : (tr k.T w x (rd k w x)).length ≤ k.b * w.length := Nat.le_trans h3 (Nat.mul_le_mul_right _ m2)
      calc (tr k.T w x (rd k w x)).length * k.b ^ r.length ≤ (k.b * w.length) * k.b ^ r.length := Nat.mul_le_mul_right _ h4
        _ = w.length * (k.b ^ r.length * k.b) := by rw [Nat.mul_comm k.b, Nat.mul_assoc, Nat.mul_comm k.b]
end
/-! pairs: great ones (done twice or more), and words done once -/
def Gr (p : List (List Dd × Nat)) : Nat := (p.map fun q => if 2 ≤ q.2 then 1 else 0).sum
def Ln (p : List (List Dd × Nat)) : Nat := (p.map fun q => if q.2 = 1 then q.1.length else 0).sum
theorem Gr_app (p q : List (List Dd × Nat)) : Gr (p ++ q) = Gr p + Gr q := by unfold Gr; rw [List.map_append, List.sum_append]
theorem Ln_app (p q : List (List Dd × Nat)) : Ln (p ++ q) = Ln p + Ln q := by unfold Ln; rw [List.map_append, List.sum_append]
theorem Gr_cons (q : List Dd × Nat) (p : List (List Dd × Nat)) : Gr (q :: p) = (if 2 ≤ q.2 then 1 else 0) + Gr p := rfl
theorem Ln_cons (q : List Dd × Nat) (p : List (List Dd × Nat)) : Ln (q :: p) = (if q.2 = 1 then q.1.length else 0) + Ln p := rfl
def okA (k : Bx) (A : Nat) (p : List (List Dd × Nat)) : Prop := ∀ q ∈ p, 2 ≤ q.2 → ∀ j, SW k j q.1 ≤ A
def clean (p : List (List Dd × Nat)) : Prop := ∀ q ∈ p, 1 ≤ q.2 ∧ 1 ≤ q.1.length
section
variable {k : Bx} (hk : okBx k)
theorem join_short {A : Nat} : ∀ (l found : List (List Dd × Nat)), okA k A l → okA k A found → clean found →
    okA k A (l.foldl joinStep found) ∧ clean (l.foldl joinStep found) ∧ Gr (l.foldl joinStep found) ≤ Gr found + Gr l ∧ Ln (l.foldl joinStep found) ≤ Ln found + Ln l
  | [], found, _, h, c => ⟨h, c, by simp [Gr], by simp [Ln]⟩
  | q :: l, found, hl, hf, hc => by
    have hq := hl q List.mem_cons_self
    have key : okA k A (joinStep found q) ∧ clean (joinStep found q) ∧ Gr (joinStep found q) ≤ Gr found + Gr [q] ∧ Ln (joinStep found q) ≤ Ln found + Ln [q] := by
      unfold joinStep
      split
      · exact ⟨hf, hc, by omega, by omega⟩
      · rename_i hz
        have app : okA k A (found ++ [q]) ∧ clean (found ++ [q]) ∧ Gr (found ++ [q]) ≤ Gr found + Gr [q] ∧ Ln (found ++ [q]) ≤ Ln found + Ln [q] := by
          refine ⟨fun r hr => ?_, fun r hr => ?_, by rw [Gr_app]; omega, by rw [Ln_app]; omega⟩
          · rcases List.mem_append.mp hr with hr | hr
            · exact hf r hr
            · rw [List.mem_singleton.mp hr]; exact hq
          · rcases List.mem_append.mp hr with hr | hr
            · exact hc r hr
            · rw [List.mem_singleton.mp hr]; omega
        split
        · rename_i w t hlst
          have hne : found ≠ [] := by intro z; rw [z] at hlst; cases hlst
          have e : found = found.dropLast ++ [(w, t)] := by
            have := List.getLast?_eq_some_getLast hne
            rw [hlst] at this
            have e2 : found.getLast hne = (w, t) := (Option.some.inj this).symm
            rw [← e2]
            exact (List.dropLast_concat_getLast hne).symm
          split
          · rename_i h1
            obtain ⟨h1, h2⟩ := h1
            have g1 : Gr found = Gr found.dropLast + 0 := by
              conv => lhs; rw [e]
              rw [Gr_app]
              simp [Gr, h2]
            have l1 : Ln found = Ln found.dropLast + w.length := by
              conv => lhs; rw [e]
              rw [Ln_app]
              simp [Ln, h2]
            have sub : ∀ r ∈ found.dropLast, r ∈ found := fun r hr => (List.dropLast_sublist _).subset hr
            have hwc : 1 ≤ w.length := (hc (w, t) (by rw [e]; exact List.mem_append_right _ List.mem_cons_self)).2
            refine ⟨fun r hr => ?_, fun r hr => ?_, ?_, ?_⟩
            · rcases List.mem_append.mp hr with hr | hr
              · exact hf r (sub r hr)
              · rw [List.mem_singleton.mp hr]; intro h; omega
            · rcases List.mem_append.mp hr with hr | hr
              · exact hc r (sub r hr)
              · rw [List.mem_singleton.mp hr]; simp; omega
            · rw [Gr_app, g1]; simp [Gr]
            · rw [Ln_app, l1]; simp [Ln, h1]; omega
          · exact app
        · exact app
    have ih := join_short l (joinStep found q) (fun r hr => hl r (List.mem_cons_of_mem _ hr)) key.1 key.2.1
    rw [List.foldl_cons]
    have g2 : Gr (q :: l) = Gr [q] + Gr l := Gr_app [q] l
    have l2 : Ln (q :: l) = Ln [q] + Ln l := Ln_app [q] l
    exact ⟨ih.1, ih.2.1, by omega, by omega⟩
theorem clean_len {A : Nat} : ∀ {p : List (List Dd × Nat)}, clean p → okA k A p → p.length ≤ Gr p + Ln p ∧ wsum p ≤ Gr p * A + Ln p
  | [], _, _ => ⟨Nat.zero_le _, Nat.zero_le _⟩
  | q :: p, c, h => by
    have ih := clean_len (p := p) (A := A) (fun r hr => c r (List.mem_cons_of_mem _ hr)) (fun r hr => h r (List.mem_cons_of_mem _ hr))
    obtain ⟨c1, c2⟩ := c q List.mem_cons_self
    rw [Gr_cons, Ln_cons, List.length_cons, wsum_cons]
    by_cases hq : 2 ≤ q.2
    · have := h q List.mem_cons_self hq 0
      rw [SW_0] at this
      have n1 : ¬ q.2 = 1 := by omega
      simp only [hq, n1, if_true, if_false]
      rw [Nat.add_mul]
      omega
    · have n1 : q.2 = 1 := by omega
      rw [if_neg hq, if_pos n1, Nat.zero_add]
      omega
include hk in
theorem raw_short {A : Nat} : ∀ {p : List (List Dd × Nat)} {x : Nat}, okPs k p → okA k A p → x < k.b → okA k A (progRaw k.T (rd k) p x).2 ∧ Gr (progRaw k.T (rd k) p x).2 ≤ Gr p ∧ Ln (progRaw k.T (rd k) p x).2 ≤ Ln p + 2 * A * Gr p
  | [], x, _, _, _ => ⟨(fun _ h => nomatch h), Nat.le_refl _, Nat.zero_le _⟩
  | (w, t) :: p, x, hp, h, hx => by
    have hw := hp (w, t) List.mem_cons_self
    obtain ⟨r1, r2, r3, r4⟩ := rd_spec hk w x
    have hy : fc k.T w x (t % rd k w x) < k.b := fc_lt hk hw hx _
    obtain ⟨i1, i2, i3⟩ := raw_short (A := A) (p := p) (fun r hr => hp r (List.mem_cons_of_mem _ hr)) (fun r hr => h r (List.mem_cons_of_mem _ hr)) hy
    have hm := Nat.mod_lt t r1
    simp only [progRaw]
    rw [Gr_cons, Gr_cons, Ln_cons, Ln_cons, Gr_cons, Ln_cons]
    by_cases ht : 2 ≤ t
    · have hA := h (w, t) List.mem_cons_self ht
      have a1 : (tr k.T w x (rd k w x)).length ≤ A := by
        rw [← SW_0 k]; exact Nat.le_trans (SW_round hk hw hx 0 _ (Nat.le_refl _)) (hA 1)
      have a2 : (tr k.T w x (t % rd k w x)).length ≤ A := by
        rw [← SW_0 k]; exact Nat.le_trans (SW_round hk hw hx 0 _ (Nat.le_of_lt hm)) (hA 1)
      refine ⟨fun q hq => ?_, ?_, ?_⟩
      · rcases List.mem_cons.mp hq with rfl | hq
        · intro _ j
          exact Nat.le_trans (SW_round hk hw hx j _ (Nat.le_refl _)) (hA (j + 1))
        · rcases List.mem_cons.mp hq with rfl | hq
          · intro z; exact absurd z (by show ¬ 2 ≤ 1; decide)
          · exact i1 q hq
      · simp only [ht, if_true]
        split <;> simp <;> omega
      · have n1 : ¬ t = 1 := by omega
        simp only [ht, n1, if_true, if_false]
        have e : 2 * A * (1 + Gr p) = 2 * A + 2 * A * Gr p := by rw [Nat.mul_add, Nat.mul_one]
        rw [e]
        split <;> omega
    · have gz : ¬ 2 ≤ t / rd k w x := by have := Nat.div_le_self t (rd k w x); omega
      refine ⟨fun q hq => ?_, ?_, ?_⟩
      · rcases List.mem_cons.mp hq with rfl | hq
        · intro z; exact absurd z gz
        · rcases List.mem_cons.mp hq with rfl | hq
          · intro z; exact absurd z (by show ¬ 2 ≤ 1; decide)
          · exact i1 q hq
      · simp only [ht, gz, if_false]
        simp
        omega
      · simp only [ht, if_false, Nat.zero_add]
        generalize Ln (progRaw k.T (rd k) p (fc k.T w x (t % rd k w x))).2 = LL at i3 ⊢
        have one : (tr k.T w x 1).length ≤ w.length := by have := tr_len (k := k) w x 1; omega
        have nil : (tr k.T w x 0).length = 0 := rfl
        rcases Nat.eq_zero_or_pos t with z | z
        · subst z
          rw [Nat.zero_mod, Nat.zero_div]
          simp only [nil]
          simp
          omega
        · have t1 : t = 1 := by omega
          subst t1
          by_cases hr : rd k w x = 1
          · rw [hr, Nat.mod_self, Nat.div_self (by decide)]
            simp only [nil, if_true]
            omega
          · have h1 : 1 % rd k w x = 1 := Nat.mod_eq_of_lt (by omega)
            have h2 : 1 / rd k w x = 0 := Nat.div_eq_of_lt (by omega)
            rw [h1, h2]
            simp only [if_true]
            simp
            omega
end
section
/-- the words along a row stay small -/
def fits (k : Bx) : List (List Dd × Nat) → List Nat → Prop
  | _, [] => True
  | p, x :: r => wsum p * 40 < sizeLine ∧ p.length * 4 < sizeLine ∧ fits k (joinP (progRaw k.T (rd k) p x).2) r
theorem fits_of {k : Bx} (hk : okBx k) : ∀ (r : List Nat) (p : List (List Dd × Nat)), wsum p * (2 * k.b) ^ r.length * 40 < sizeLine * (2 * k.b) → p.length * 2 ^ r.length * 4 < sizeLine → okPs k p → fits k p r := by
  intro r
  induction r with
  | nil => intros; trivial
  | cons x r ih =>
    intro p h1 h2 hp
    have b2 := hk.b2
    have e1 : wsum p * (2 * k.b) ^ (r.length + 1) * 40 = (wsum p * (2 * k.b) ^ r.length * 40) * (2 * k.b) := by
      rw [Nat.pow_succ]; ac_rfl
    rw [List.length_cons, e1] at h1
    have h3 : wsum p * (2 * k.b) ^ r.length * 40 < sizeLine := Nat.lt_of_mul_lt_mul_right h1
    have p1 : 0 < (2 * k.b) ^ r.length := Nat.pow_pos (by omega)
    have p2 : 0 < 2 ^ r.length := Nat.pow_pos (by omega)
    have e2 : p.length * 2 ^ (r.length + 1) * 4 = p.length * 2 * 2 ^ r.length * 4 := by
      rw [Nat.pow_succ]; ac_rfl
    rw [List.length_cons, e2] at h2
    have g1 : wsum p * 1 * 40 ≤ wsum p * (2 * k.b) ^ r.length * 40 := Nat.mul_le_mul_right _ (Nat.mul_le_mul_left _ p1)
    have g2 : p.length * 2 * 1 * 4 ≤ p.length * 2 * 2 ^ r.length * 4 := Nat.mul_le_mul_right _ (Nat.mul_le_mul_left _ p2)
    have jo := join_ok (raw_ok (k := k) hk x hp)
    have hsm := raw_sum hk p x
    have hln := progRaw_len k.T (rd k) p x
    refine ⟨by omega, by omega, ih _ ?_ ?_ jo.1⟩
    · have g3 : wsum (joinP (progRaw k.T (rd k) p x).2) ≤ 2 * k.b * wsum p := Nat.le_trans jo.2.2 hsm
      have g4 : wsum (joinP (progRaw k.T (rd k) p x).2) * (2 * k.b) ^ r.length * 40 ≤ (2 * k.b * wsum p) * (2 * k.b) ^ r.length * 40 := Nat.mul_le_mul_right _ (Nat.mul_le_mul_right _ g3)
      have e3 : (2 * k.b * wsum p) * (2 * k.b) ^ r.length * 40 = (wsum p * (2 * k.b) ^ r.length * 40) * (2 * k.b) := by ac_rfl
      rw [e3] at g4
      exact Nat.lt_of_le_of_lt g4 h1
    · have g5 : (joinP (progRaw k.T (rd k) p x).2).length ≤ p.length * 2 := by have := jo.2.1; omega
      exact Nat.lt_of_le_of_lt (Nat.mul_le_mul_right _ (Nat.mul_le_mul_right _ g5)) h2
def fwd1 (q : List Dd × Int) : List Dd × Nat := if 0 ≤ q.2 then (q.1, q.2.toNat) else (bw q.1, (-q.2).toNat)
theorem fwd1_len (q : List Dd × Int) : (fwd1 q).1.length = q.1.length := by
  unfold fwd1
  split
  · rfl
  · exact bw_len _
theorem bw_okWd {k : Bx} {w : List Dd} (h : okWd k w) : okWd k (bw w) := by
  intro d hd
  obtain ⟨e, he, rfl⟩ := List.mem_map.mp hd
  exact h e (List.mem_reverse.mp he)
theorem fwd_okPs {k : Bx} {p : List (List Dd × Int)} (h : ∀ q ∈ p, okWd k q.1) : okPs k (p.map fwd1) := by
  intro q hq
  obtain ⟨e, he, rfl⟩ := List.mem_map.mp hq
  unfold fwd1
  split
  · exact h e he
  · exact bw_okWd (h e he)
/-- the word of a program -/
def flatF (p : List (List Dd × Int)) : List Dd := flatP (p.map fwd1)
theorem runP_flat {k : Bx} (hk : okBx k) (p : List (List Dd × Nat)) (r : List Nat) : runP k.T (rd k) (joinP p) r = act k.T (flatP p) r := by
  rw [runP_act k.T (rd k) (fun w x => (rd_spec hk w x).2.2.1), joinP_flat]
theorem act_lt {k : Bx} (hk : okBx k) : ∀ (r : List Nat) (w : List Dd), (∀ x ∈ r, x < k.b) → ∀ y ∈ act k.T w r, y < k.b := by
  intro r
  induction r with
  | nil => intro w _ y hy; cases hy
  | cons x r ih =>
    intro w hr y hy
    rcases List.mem_cons.mp hy with rfl | hy
    · exact atW_lt' hk w (hr x List.mem_cons_self)
    · exact ih _ (fun z hz => hr z (List.mem_cons_of_mem _ hz)) y hy
theorem fits_join {k : Bx} (hk : okBx k) {r : List Nat} {p : List (List Dd × Nat)} (h1 : wsum p * (2 * k.b) ^ r.length * 40 < sizeLine * (2 * k.b)) (h2 : p.length * 2 ^ r.length * 4 < sizeLine) (hp : okPs k p) : fits k (joinP p) r := by
  have j := join_ok hp
  refine fits_of hk r _ ?_ ?_ j.1
  · exact Nat.lt_of_le_of_lt (Nat.mul_le_mul_right _ (Nat.mul_le_mul_right _ j.2.2)) h1
  · exact Nat.lt_of_le_of_lt (Nat.mul_le_mul_right _ (Nat.mul_le_mul_right _ j.2.1)) h2
theorem flatF_one (w : List Dd) : flatF [(w, 1)] = w := by
  have : fwd1 (w, 1) = (w, 1) := rfl
  unfold flatF
  rw [List.map_cons, List.map_nil, this, flatP_one, pw_one]

/-- a word fits along a row, so many times -/
def fitsW (k : Bx) (w : List Dd) (r : List Nat) : Prop := (∀ t : Int, fits k (joinP ([(w, t)].map fwd1)) r) ∧ w.length < sizeLine ∧ r.length ≤ sizeLine
theorem fitsW_pow {k : Bx} (hk : okBx k) {w : List Dd} (hw : okWd k w) {r : List Nat} (h1 : w.length * (2 * k.b) ^ r.length * 40 < sizeLine * (2 * k.b)) (h2 : 2 ^ r.length * 4 < sizeLine) (h3 : w.length < sizeLine) (h4 : r.length ≤ sizeLine) : fitsW k w r := by
  refine ⟨fun t => ?_, h3, h4⟩
  have ew : wsum ([(w, t)].map fwd1) = w.length := by
    rw [List.map_cons, List.map_nil, wsum_cons, fwd1_len]; rfl
  have hp : ∀ q ∈ [(w, t)], okWd k q.1 := fun q hq => by rw [List.mem_singleton.mp hq]; exact hw
  exact fits_join hk (by rw [ew]; exact h1) (by simpa using h2) (fwd_okPs hp)
theorem fits_short {k : Bx} (hk : okBx k) {A : Nat} : ∀ (r : List Nat) (p : List (List Dd × Nat)), (∀ x ∈ r, x < k.b) → clean p → okPs k p → okA k A p → (Gr p * A + Ln p + 2 * A * Gr p * r.length) * 40 < sizeLine → (Gr p + Ln p + 2 * A * Gr p * r.length) * 4 < sizeLine → fits k p r := by
  intro r
  induction r with
  | nil => intros; trivial
  | cons x r ih =>
    intro p hr hc hp hA h1 h2
    obtain ⟨c1, c2⟩ := clean_len hc hA
    have hx := hr x List.mem_cons_self
    obtain ⟨a1, a2, a3⟩ := raw_short hk hp hA hx
    obtain ⟨j1, j2, j3, j4⟩ := join_short (progRaw k.T (rd k) p x).2 [] a1 (fun _ h => nomatch h) (fun _ h => nomatch h)
    have g0 : Gr ([] : List (List Dd × Nat)) = 0 := rfl
    have l0 : Ln ([] : List (List Dd × Nat)) = 0 := rfl
    rw [g0, Nat.zero_add] at j3
    rw [l0, Nat.zero_add] at j4
    rw [List.length_cons] at h1 h2
    have e1 : 2 * A * Gr p * (r.length + 1) = 2 * A * Gr p + 2 * A * Gr p * r.length := by rw [Nat.mul_add, Nat.mul_one, Nat.add_comm]
    rw [e1] at h1 h2
    have jg : Gr (joinP (progRaw k.T (rd k) p x).2) ≤ Gr p := Nat.le_trans j3 a2
    have jl : Ln (joinP (progRaw k.T (rd k) p x).2) ≤ Ln p + 2 * A * Gr p := Nat.le_trans j4 a3
    have m1 : Gr (joinP (progRaw k.T (rd k) p x).2) * A ≤ Gr p * A := Nat.mul_le_mul_right _ jg
    have m2 : 2 * A * Gr (joinP (progRaw k.T (rd k) p x).2) * r.length ≤ 2 * A * Gr p * r.length := Nat.mul_le_mul_right _ (Nat.mul_le_mul_left _ jg)
    refine ⟨by omega, by omega, ih _ (fun y hy => hr y (List.mem_cons_of_mem _ hy)) j2 (join_ok (raw_ok (k := k) hk x hp)).1 j1 (by omega) (by omega)⟩
theorem SW_bw (k : Bx) (j : Nat) (w : List Dd) : SW k j (bw w) = SW k j w := by
  unfold SW bw
  rw [List.map_map]
  exact (List.reverse_perm w).map _ |>.sum_nat
theorem fwd1_SW (k : Bx) (j : Nat) (q : List Dd × Int) : SW k j (fwd1 q).1 = SW k j q.1 := by
  unfold fwd1
  split
  · rfl
  · exact SW_bw k j _
theorem fits_prog {k : Bx} (hk : okBx k) {A : Nat} {p : List (List Dd × Int)} (hp : ∀ q ∈ p, okWd k q.1) (hA : ∀ q ∈ p, ∀ j, SW k j q.1 ≤ A) {r : List Nat} (hr : ∀ x ∈ r, x < k.b) (h1 : (2 * p.length * A + 2 * A * p.length * r.length) * 40 < sizeLine) (h2 : (p.length + p.length * A + 2 * A * p.length * r.length) * 4 < sizeLine) : fits k (joinP (p.map fwd1)) r := by
  have okp := fwd_okPs hp
  have oka : okA k A (p.map fwd1) := by
    intro q hq _ j
    obtain ⟨e, he, rfl⟩ := List.mem_map.mp hq
    rw [fwd1_SW]
    exact hA e he j
  have gl : Gr (p.map fwd1) ≤ p.length ∧ Ln (p.map fwd1) ≤ p.length * A := by
    clear h1 h2 okp oka
    induction p with
    | nil => exact ⟨Nat.zero_le _, Nat.zero_le _⟩
    | cons q p ih =>
      obtain ⟨i1, i2⟩ := ih (fun r hr => hp r (List.mem_cons_of_mem _ hr)) (fun r hr => hA r (List.mem_cons_of_mem _ hr))
      have h0 := hA q List.mem_cons_self 0
      rw [SW_0] at h0
      rw [List.map_cons, Gr_cons, Ln_cons, List.length_cons, Nat.add_mul, fwd1_len]
      constructor
      · split <;> omega
      · split <;> omega
  obtain ⟨j1, j2, j3, j4⟩ := join_short (p.map fwd1) [] oka (fun _ h => nomatch h) (fun _ h => nomatch h)
  have g0 : Gr ([] : List (List Dd × Nat)) = 0 := rfl
  have l0 : Ln ([] : List (List Dd × Nat)) = 0 := rfl
  rw [g0, Nat.zero_add] at j3
  rw [l0, Nat.zero_add] at j4
  have jg : Gr (joinP (p.map fwd1)) ≤ p.length := Nat.le_trans j3 gl.1
  have jl : Ln (joinP (p.map fwd1)) ≤ p.length * A := Nat.le_trans j4 gl.2
  have m1 : Gr (joinP (p.map fwd1)) * A ≤ p.length * A := Nat.mul_le_mul_right _ jg
  have m2 : 2 * A * Gr (joinP (p.map fwd1)) * r.length ≤ 2 * A * p.length * r.length := Nat.mul_le_mul_right _ (Nat.mul_le_mul_left _ jg)
  have e1 : 2 * p.length * A = p.length * A + p.length * A := by rw [Nat.mul_assoc, Nat.two_mul]
  exact fits_short hk r _ hr j2 (join_ok okp).1 j1 (by omega) (by omega)
theorem fitsW_short {k : Bx} (hk : okBx k) {A : Nat} {w : List Dd} (hw : okWd k w) (hA : ∀ j, SW k j w ≤ A) {r : List Nat} (hr : ∀ x ∈ r, x < k.b) (hl : r.length ≤ sizeLine) (h1 : (2 * A + 2 * A * r.length) * 40 < sizeLine) (h2 : (1 + A + 2 * A * r.length) * 4 < sizeLine) : fitsW k w r := by
  have h0 := hA 0
  rw [SW_0] at h0
  refine ⟨fun t => fits_prog hk (A := A) (fun q hq => by rw [List.mem_singleton.mp hq]; exact hw) (fun q hq => by rw [List.mem_singleton.mp hq]; exact hA) hr (by simpa using h1) (by simpa using h2), by omega, hl⟩
end
end FC

/-! boxes of ends, loops and others -/
namespace FC
open PySem
/-- kinds: 2 ends, 1 loops, 0 others -/
structure Kinds (k : Bx) (E Z : Nat) (kd rk : Str → Nat) : Prop where
  all : ∀ r ∈ k.rows, kd r.1 = 2 ∨ kd r.1 = 1 ∨ kd r.1 = 0
  end_lt : ∀ r ∈ k.rows, kd r.1 = 2 → rk r.1 < E
  end_s : ∀ r ∈ k.rows, kd r.1 = 2 → ∀ z ∈ r.2.2, z = dash ∨ (z ∈ k.notes ∧ kd z = 2 ∧ rk z < rk r.1)
  loop_s : ∀ r ∈ k.rows, kd r.1 = 1 → ∃ rest : List Str, r.2.2.Perm (r.1 :: rest) ∧ ∀ z ∈ rest, z = dash ∨ (z ∈ k.notes ∧ kd z = 2)
  oth_lt : ∀ r ∈ k.rows, kd r.1 = 0 → rk r.1 < Z
  oth_s : ∀ r ∈ k.rows, kd r.1 = 0 → ∀ z ∈ r.2.2, z = dash ∨ (z ∈ k.notes ∧ (kd z = 2 ∨ kd z = 1 ∨ (kd z = 0 ∧ rk z < rk r.1)))
def few (k : Bx) : Prop := ∀ j t, Sn k j t ≤ 81
section
variable {k : Bx} (hk : okBx k) (hb : k.b ≤ 3) {E Z : Nat} {kd rk : Str → Nat} (h : Kinds k E Z kd rk)
theorem sum_const {α : Type} {f : α → Nat} {c : Nat} : ∀ {l : List α}, (∀ x ∈ l, f x ≤ c) → (l.map f).sum ≤ l.length * c
  | [], _ => Nat.zero_le _
  | x :: l, h => by
    have ih := sum_const (f := f) (c := c) (l := l) fun y hy => h y (List.mem_cons_of_mem _ hy)
    have := h x List.mem_cons_self
    rw [List.map_cons, List.sum_cons, List.length_cons, Nat.add_mul]
    omega
include hk in
theorem Sn_row {r : Str × List Nat × List Str} (hr : r ∈ k.rows) (j : Nat) : Sn k (j + 1) r.1 = (r.2.2.map fun z => if z = dash then 0 else Sn k j z).sum := by
  show (match k.find r.1 with
    | none => 0
    | some r => (r.2.2.map fun z => if z = dash then 0 else Sn k j z).sum) = _
  rw [find_row hk hr]
/-- the sum over the first turns -/
def Sv (k : Bx) : Nat → Str → Nat
  | 0, _ => 0
  | j + 1, t => Sv k j t + Sn k j t
def vv : Nat → Nat
  | 0 => 1
  | m + 1 => 1 + 3 * vv m
theorem vv_eq : ∀ m, 2 * vv m + 1 = 3 ^ (m + 1)
  | 0 => rfl
  | m + 1 => by
    have := vv_eq m
    rw [Nat.pow_succ, ← this]
    show 2 * (1 + 3 * vv m) + 1 = _
    omega
theorem vv_mono {m n : Nat} (h : m ≤ n) : vv m ≤ vv n := by
  have h1 := vv_eq m
  have h2 := vv_eq n
  have := Nat.pow_le_pow_right (show 0 < 3 by decide) (show m + 1 ≤ n + 1 by omega)
  omega
include hk in
theorem Sv_row {r : Str × List Nat × List Str} (hr : r ∈ k.rows) : ∀ j, Sv k (j + 1) r.1 = 1 + (r.2.2.map fun z => if z = dash then 0 else Sv k j z).sum
  | 0 => by
    have : ∀ l : List Str, (l.map fun z => if z = dash then 0 else Sv k 0 z).sum = 0 := by
      intro l
      induction l with
      | nil => rfl
      | cons z l ih => rw [List.map_cons, List.sum_cons, ih]; simp [Sv]
    rw [this]
    rfl
  | j + 1 => by
    have e : Sv k (j + 2) r.1 = Sv k (j + 1) r.1 + Sn k (j + 1) r.1 := rfl
    rw [e, Sv_row hr j, Sn_row hk hr, Nat.add_assoc, ← sum_add_map]
    congr 2
    refine List.map_congr_left fun z _ => ?_
    split <;> rfl
include hk hb h in
theorem end_sum : ∀ (j : Nat) (t : Str), t ∈ k.notes → kd t = 2 → Sv k j t ≤ vv (rk t) := by
  intro j
  induction j with
  | zero => intro t _ _; exact Nat.zero_le _
  | succ j ih =>
    intro t ht ht2
    obtain ⟨r, hr, rfl⟩ := List.mem_map.mp ht
    rw [Sv_row hk hr]
    cases hm : rk r.1 with
    | zero =>
      have : (r.2.2.map fun z => if z = dash then 0 else Sv k j z).sum ≤ r.2.2.length * 0 := sum_const fun z hz => by
        rcases h.end_s r hr ht2 z hz with q | ⟨_, _, q⟩
        · simp [q]
        · omega
      rw [Nat.mul_zero] at this
      simp only [vv]
      omega
    | succ m =>
      have : (r.2.2.map fun z => if z = dash then 0 else Sv k j z).sum ≤ r.2.2.length * vv m := sum_const fun z hz => by
        rcases h.end_s r hr ht2 z hz with q | ⟨q1, q2, q⟩
        · simp [q]
        · split
          · exact Nat.zero_le _
          · exact Nat.le_trans (ih z q1 q2) (vv_mono (by omega))
      have h3 : r.2.2.length * vv m ≤ 3 * vv m := Nat.mul_le_mul_right _ (by rw [hk.sl r hr]; exact hb)
      simp only [vv]
      omega
include hk hb h in
theorem end_le (j : Nat) (t : Str) (ht : t ∈ k.notes) (h2 : kd t = 2) : 2 * Sv k j t + 1 ≤ 3 ^ E ∧ Sn k j t ≤ 3 ^ E := by
  have e : rk t < E := by
    obtain ⟨r, hr, rfl⟩ := List.mem_map.mp ht
    exact h.end_lt r hr h2
  have p := Nat.pow_le_pow_right (show 0 < 3 by decide) (show rk t + 1 ≤ E by omega)
  have v := vv_eq (rk t)
  have h1 := end_sum hk hb h j t ht h2
  have h3 := end_sum hk hb h (j + 1) t ht h2
  have h4 : Sv k (j + 1) t = Sv k j t + Sn k j t := rfl
  omega
include hk hb h in
theorem loop_le : ∀ (j : Nat) (t : Str), t ∈ k.notes → kd t = 1 → Sn k j t ≤ 3 ^ E := by
  intro j t ht ht1
  obtain ⟨r, hr, rfl⟩ := List.mem_map.mp ht
  obtain ⟨rest, hp, hs⟩ := h.loop_s r hr ht1
  have hd : ¬ r.1 = dash := dash_not (hk.nm r hr)
  have hl : rest.length ≤ 2 := by
    have := hp.length_eq
    rw [hk.sl r hr, List.length_cons] at this
    omega
  have key : ∀ j, Sn k j r.1 = 1 + (rest.map fun z => if z = dash then 0 else Sv k j z).sum := by
    intro j
    induction j with
    | zero =>
      have : ∀ l : List Str, (l.map fun z => if z = dash then 0 else Sv k 0 z).sum = 0 := by
        intro l
        induction l with
        | nil => rfl
        | cons z l ih => rw [List.map_cons, List.sum_cons, ih]; simp [Sv]
      rw [this]
      rfl
    | succ j ih =>
      rw [Sn_row hk hr, (hp.map _).sum_nat, List.map_cons, List.sum_cons, if_neg hd, ih, Nat.add_assoc, ← sum_add_map]
      congr 2
      refine List.map_congr_left fun z _ => ?_
      split <;> rfl
  rw [key]
  match rest, hl, hs with
  | [], _, _ => exact Nat.pow_pos (by decide)
  | [a], _, hs =>
    simp only [List.map_cons, List.map_nil, List.sum_cons, List.sum_nil]
    have p : 0 < 3 ^ E := Nat.pow_pos (by decide)
    rcases hs a List.mem_cons_self with q | ⟨q1, q2⟩
    · simp [q]; omega
    · have := (end_le hk hb h j a q1 q2).1
      split <;> omega
  | [a, b], _, hs =>
    simp only [List.map_cons, List.map_nil, List.sum_cons, List.sum_nil]
    have p : 0 < 3 ^ E := Nat.pow_pos (by decide)
    have ha : 2 * (if a = dash then 0 else Sv k j a) + 1 ≤ 3 ^ E := by
      rcases hs a List.mem_cons_self with q | ⟨q1, q2⟩
      · simp [q]; omega
      · have := (end_le hk hb h j a q1 q2).1
        split <;> omega
    have hb' : 2 * (if b = dash then 0 else Sv k j b) + 1 ≤ 3 ^ E := by
      rcases hs b (List.mem_cons_of_mem _ List.mem_cons_self) with q | ⟨q1, q2⟩
      · simp [q]; omega
      · have := (end_le hk hb h j b q1 q2).1
        split <;> omega
    omega
  | _ :: _ :: _ :: _, hl, _ => simp at hl
include hk hb h in
theorem oth_le : ∀ (j : Nat) (t : Str), t ∈ k.notes → kd t = 0 → Sn k j t ≤ 3 ^ (E + 1 + rk t) := by
  intro j
  induction j with
  | zero => intro t _ _; exact Nat.pow_pos (by decide)
  | succ j ih =>
    intro t ht ht0
    obtain ⟨r, hr, rfl⟩ := List.mem_map.mp ht
    rw [Sn_row hk hr]
    have : (r.2.2.map fun z => if z = dash then 0 else Sn k j z).sum ≤ r.2.2.length * 3 ^ (E + rk r.1) := sum_const fun z hz => by
      have m : 3 ^ E ≤ 3 ^ (E + rk r.1) := Nat.pow_le_pow_right (by decide) (by omega)
      rcases h.oth_s r hr ht0 z hz with q | ⟨q1, q2 | q2 | ⟨q2, q3⟩⟩
      · simp [q]
      · have := (end_le hk hb h j z q1 q2).2
        split <;> omega
      · have := loop_le hk hb h j z q1 q2
        split <;> omega
      · have := ih z q1 q2
        have m2 : 3 ^ (E + 1 + rk z) ≤ 3 ^ (E + rk r.1) := Nat.pow_le_pow_right (by decide) (by omega)
        split <;> omega
    have h3 : r.2.2.length * 3 ^ (E + rk r.1) ≤ 3 * 3 ^ (E + rk r.1) := Nat.mul_le_mul_right _ (by rw [hk.sl r hr]; exact hb)
    have e : E + 1 + rk r.1 = (E + rk r.1) + 1 := by omega
    rw [e, Nat.pow_succ]
    omega
include hk hb h in
theorem few_of (hn : E + Z ≤ 4) : few k := by
  intro j t
  have p4 : ∀ m, m ≤ 4 → 3 ^ m ≤ 81 := fun m hm => Nat.le_trans (Nat.pow_le_pow_right (by decide) hm) (by decide)
  by_cases ht : t ∈ k.notes
  · obtain ⟨r, hr, rfl⟩ := List.mem_map.mp ht
    rcases h.all r hr with q | q | q
    · exact Nat.le_trans (end_le hk hb h j r.1 ht q).2 (p4 _ (by omega))
    · exact Nat.le_trans (loop_le hk hb h j r.1 ht q) (p4 _ (by omega))
    · have := h.oth_lt r hr q
      exact Nat.le_trans (oth_le hk hb h j r.1 ht q) (p4 _ (by omega))
  · cases j with
    | zero => show 1 ≤ 81; decide
    | succ j =>
      have : k.find t = none := by
        unfold Bx.find
        rw [List.find?_eq_none]
        intro r hr
        simp only [decide_eq_true_eq]
        intro e
        exact ht (by rw [← e]; exact List.mem_map.mpr ⟨r, hr, rfl⟩)
      show (match k.find t with
        | none => 0
        | some r => (r.2.2.map fun z => if z = dash then 0 else Sn k j z).sum) ≤ 81
      rw [this]
      exact Nat.zero_le _
theorem few_SW {k : Bx} (h : few k) (w : List Dd) (j : Nat) : SW k j w ≤ w.length * 81 := sum_const fun d _ => h j d.1
end
/-! kinds and ranks of a list of names with their kinds -/
def kdL (L : List (Str × Nat)) (t : Str) : Nat := match L.find? fun p => decide (p.1 = t) with
  | some p => p.2
  | none => 3
def rkL (L : List (Str × Nat)) (t : Str) : Nat := (L.drop (L.findIdx (fun p => decide (p.1 = t)) + 1)).countP fun p => decide (p.2 = kdL L t)
theorem L_at {L : List (Str × Nat)} (nd : (L.map (·.1)).Nodup) {i : Nat} {t : Str} {s : Nat} (h : L[i]? = some (t, s)) : kdL L t = s ∧ rkL L t = (L.drop (i + 1)).countP fun p => decide (p.2 = s) := by
  have key : ∀ (L : List (Str × Nat)) (i : Nat), (L.map (·.1)).Nodup → L[i]? = some (t, s) → L.find? (fun p => decide (p.1 = t)) = some (t, s) ∧ L.findIdx (fun p => decide (p.1 = t)) = i := by
    intro L
    induction L with
    | nil => intro i _ h; simp at h
    | cons p L ih =>
      intro i nd h
      rw [List.map_cons, List.nodup_cons] at nd
      cases i with
      | zero =>
        simp at h
        subst h
        simp [List.findIdx_cons]
      | succ i =>
        have h' : L[i]? = some (t, s) := by simpa using h
        obtain ⟨h1, h2⟩ := ih i nd.2 h'
        have hne : ¬ p.1 = t := fun q => nd.1 (by rw [q]; exact List.mem_map.mpr ⟨(t, s), List.mem_of_getElem? h', rfl⟩)
        simp [List.findIdx_cons, hne, h1, h2]
  obtain ⟨h1, h2⟩ := key L i nd h
  have k1 : kdL L t = s := by unfold kdL; rw [h1]
  refine ⟨k1, ?_⟩
  unfold rkL
  rw [h2, k1]
theorem cnt_lt {L : List (Str × Nat)} {i : Nat} {t : Str} {s : Nat} (h : L[i]? = some (t, s)) : (L.drop (i + 1)).countP (fun p => decide (p.2 = s)) < L.countP fun p => decide (p.2 = s) := by
  have hi := (List.getElem?_eq_some_iff.mp h).1
  have e : L.drop i = (t, s) :: L.drop (i + 1) := by
    obtain ⟨h', q⟩ := List.getElem?_eq_some_iff.mp h
    rw [← q]
    exact List.drop_eq_getElem_cons h'
  have : L.countP (fun p => decide (p.2 = s)) = (L.take i).countP (fun p => decide (p.2 = s)) + (L.drop i).countP fun p => decide (p.2 = s) := by
    rw [← List.countP_append, List.take_append_drop]
  rw [this, e, List.countP_cons]
  simp
  omega
theorem cnt_lt2 {L : List (Str × Nat)} {i j : Nat} {t : Str} {s : Nat} (hij : i < j) (h : L[j]? = some (t, s)) : (L.drop (j + 1)).countP (fun p => decide (p.2 = s)) < (L.drop (i + 1)).countP fun p => decide (p.2 = s) := by
  have h2 : (L.drop (i + 1))[j - (i + 1)]? = some (t, s) := by
    rw [List.getElem?_drop, show i + 1 + (j - (i + 1)) = j by omega]
    exact h
  have := cnt_lt h2
  rw [List.drop_drop, show i + 1 + (j - (i + 1) + 1) = j + 1 by omega] at this
  exact this
theorem cnt_two (L : List (Str × Nat)) : L.countP (fun p => decide (p.2 = 2)) + L.countP (fun p => decide (p.2 = 0)) ≤ L.length := by
  induction L with
  | nil => simp
  | cons p L ih =>
    rw [List.countP_cons, List.countP_cons, List.length_cons]
    by_cases h : p.2 = 2
    · have : ¬ p.2 = 0 := by omega
      simp [h]
      omega
    · simp [h]
      split <;> omega
/-- the rows of a box under way, with their kinds -/
def kindR (L : List (Str × Nat)) (i : Nat) (sent : List Str) : Prop := ∃ t s, L[i]? = some (t, s) ∧
  ((s = 2 ∧ ∀ z ∈ sent, z = dash ∨ ∃ j, i < j ∧ L[j]? = some (z, 2)) ∨
   (s = 1 ∧ ∃ rest : List Str, sent.Perm (t :: rest) ∧ ∀ z ∈ rest, z = dash ∨ ∃ j : Nat, L[j]? = some (z, 2)) ∨
   (s = 0 ∧ ∀ z ∈ sent, z = dash ∨ (∃ j : Nat, L[j]? = some (z, 2)) ∨ (∃ j : Nat, L[j]? = some (z, 1)) ∨ ∃ j, i < j ∧ L[j]? = some (z, 0)))
theorem kinds_of {k : Bx} {L : List (Str × Nat)} (hn : k.notes = L.map (·.1)) (nd : k.notes.Nodup) (h : ∀ i r, k.rows[i]? = some r → kindR L i r.2.2) :
    Kinds k (L.countP fun p => decide (p.2 = 2)) (L.countP fun p => decide (p.2 = 0)) (kdL L) (rkL L) := by
  rw [hn] at nd
  have name : ∀ {i : Nat} {r : Str × List Nat × List Str} {t : Str} {s : Nat}, k.rows[i]? = some r → L[i]? = some (t, s) → t = r.1 := by
    intro i r t s hr hl
    have e := congrArg (fun l => l[i]?) hn
    simp only [Bx.notes, List.getElem?_map, hr, hl, Option.map_some] at e
    exact (Option.some.inj e).symm
  have inn : ∀ {j : Nat} {z : Str} {s : Nat}, L[j]? = some (z, s) → z ∈ k.notes := fun hj => by
    rw [hn]; exact List.mem_map.mpr ⟨_, List.mem_of_getElem? hj, rfl⟩
  have ix : ∀ r ∈ k.rows, ∃ i, k.rows[i]? = some r := fun r hr => List.mem_iff_getElem?.mp hr
  refine ⟨fun r hr => ?_, fun r hr h2 => ?_, fun r hr h2 z hz => ?_, fun r hr h1 => ?_, fun r hr h0 => ?_, fun r hr h0 z hz => ?_⟩
  all_goals
    obtain ⟨i, hi⟩ := ix r hr
    obtain ⟨t, s, hl, hc⟩ := h i r hi
    obtain rfl := name hi hl
    obtain ⟨k1, k2⟩ := L_at nd hl
  · rcases hc with ⟨rfl, _⟩ | ⟨rfl, _⟩ | ⟨rfl, _⟩
    · exact .inl k1
    · exact .inr (.inl k1)
    · exact .inr (.inr k1)
  · rw [k1] at h2
    subst h2
    rw [k2]
    exact cnt_lt hl
  · rw [k1] at h2
    subst h2
    rcases hc with ⟨_, hc⟩ | ⟨q, _⟩ | ⟨q, _⟩
    · rcases hc z hz with q | ⟨j, hij, hj⟩
      · exact .inl q
      · obtain ⟨a1, a2⟩ := L_at nd hj
        exact .inr ⟨inn hj, a1, by rw [a2, k2]; exact cnt_lt2 hij hj⟩
    · omega
    · omega
  · rw [k1] at h1
    subst h1
    rcases hc with ⟨q, _⟩ | ⟨_, rest, hp, hc⟩ | ⟨q, _⟩
    · omega
    · refine ⟨rest, hp, fun z hz => ?_⟩
      rcases hc z hz with q | ⟨j, hj⟩
      · exact .inl q
      · exact .inr ⟨inn hj, (L_at nd hj).1⟩
    · omega
  · rw [k1] at h0
    subst h0
    rw [k2]
    exact cnt_lt hl
  · rw [k1] at h0
    subst h0
    rcases hc with ⟨q, _⟩ | ⟨q, _⟩ | ⟨_, hc⟩
    · omega
    · omega
    · rcases hc z hz with q | ⟨j, hj⟩ | ⟨j, hj⟩ | ⟨j, hij, hj⟩
      · exact .inl q
      · exact .inr ⟨inn hj, .inl (L_at nd hj).1⟩
      · exact .inr ⟨inn hj, .inr (.inl (L_at nd hj).1)⟩
      · obtain ⟨a1, a2⟩ := L_at nd hj
        exact .inr ⟨inn hj, .inr (.inr ⟨a1, by rw [a2, k2]; exact cnt_lt2 hij hj⟩)⟩
theorem few_kinds {k : Bx} (hk : okBx k) (hb : k.b ≤ 3) {L : List (Str × Nat)} (hn : k.notes = L.map (·.1)) (h4 : L.length ≤ 4) (h : ∀ i r, k.rows[i]? = some r → kindR L i r.2.2) : few k :=
  few_of hk hb (kinds_of hn hk.nd h) (Nat.le_trans (cnt_two L) h4)
theorem str_sh {z : Str} (h : PyData.strOk z = true) : sh (.str z) = true := flat_sh (n := 0) (show flat 0 (.str z) from h) (by omega)
end FC

/-! programs as actions -/
namespace FC
open PySem
theorem flatF_app (p q : List (List Dd × Int)) : flatF (p ++ q) = flatF p ++ flatF q := by
  unfold flatF
  rw [List.map_append, flatP_app]
theorem flatF_nil : flatF [] = [] := rfl
theorem flatF_cons (x : List Dd × Int) (p : List (List Dd × Int)) : flatF (x :: p) = flatF [x] ++ flatF p := flatF_app [x] p
theorem flatF_nn {w : List Dd} {t : Int} (h : 0 ≤ t) : flatF [(w, t)] = pw w t.toNat := by
  unfold flatF fwd1
  rw [List.map_cons, List.map_nil, if_pos h, flatP_one]
theorem flatF_lt {w : List Dd} {t : Int} (h : t < 0) : flatF [(w, t)] = pw (bw w) (-t).toNat := by
  unfold flatF fwd1
  rw [List.map_cons, List.map_nil, if_neg (by show ¬ 0 ≤ t; omega), flatP_one]
theorem flatF_zero (w : List Dd) : flatF [(w, 0)] = [] := by
  rw [flatF_nn (by decide)]; rfl
theorem flatF_empty (t : Int) : flatF [([], t)] = [] := by
  by_cases h : 0 ≤ t
  · rw [flatF_nn h, pw_nil]
  · rw [flatF_lt (by omega)]
    exact pw_nil _
theorem flatF_neg (w : List Dd) (t : Int) : flatF [(w, -t)] = bw (flatF [(w, t)]) := by
  rcases Int.lt_trichotomy t 0 with h | h | h
  · rw [flatF_nn (by omega), flatF_lt h, bw_pw, bw_bw]
  · subst h
    rw [show -(0 : Int) = 0 from rfl, flatF_zero]
    rfl
  · rw [flatF_lt (by omega), flatF_nn (by omega), bw_pw, Int.neg_neg]
theorem flatF_back (p : List (List Dd × Int)) : flatF (p.reverse.map fun x => (x.1, -x.2)) = bw (flatF p) := by
  induction p with
  | nil => rfl
  | cons x p ih =>
    rw [List.reverse_cons, List.map_append, flatF_app, ih, flatF_cons x p, bw_app]
    congr 1
    exact flatF_neg x.1 x.2
section
variable {k : Bx} (hk : okBx k)
theorem flatF_okd {p : List (List Dd × Int)} (h : ∀ q ∈ p, okWd k q.1) : okWd k (flatF p) := by
  induction p with
  | nil => exact fun _ h => nomatch h
  | cons x p ih =>
    rw [flatF_cons]
    have hx := h x List.mem_cons_self
    intro d hd
    rcases List.mem_append.mp hd with hd | hd
    · by_cases ht : 0 ≤ x.2
      · rw [show x = (x.1, x.2) from rfl, flatF_nn ht] at hd
        exact pw_okd hx _ d hd
      · rw [show x = (x.1, x.2) from rfl, flatF_lt (by omega)] at hd
        exact pw_okd (bw_okd hx) _ d hd
    · exact ih (fun q hq => h q (List.mem_cons_of_mem _ hq)) d hd
include hk in
theorem act_back' {w : List Dd} (hw : okWd k w) {r : List Nat} (hr : ∀ x ∈ r, x < k.b) : act k.T w (act k.T (bw w) r) = r := by
  have := act_back hk (bw_okd hw) hr
  rwa [bw_bw] at this
include hk in
theorem Z_succ {w : List Dd} (hw : okWd k w) {r : List Nat} (hr : ∀ x ∈ r, x < k.b) (t : Int) : act k.T w (act k.T (flatF [(w, t)]) r) = act k.T (flatF [(w, t + 1)]) r := by
  by_cases h : 0 ≤ t
  · rw [flatF_nn h, flatF_nn (by omega), ← act_app, ← pw_succ']
    congr 2
    omega
  · rw [flatF_lt (by omega)]
    obtain ⟨m, hm⟩ : ∃ m : Nat, (-t).toNat = m + 1 := ⟨(-t).toNat - 1, by omega⟩
    rw [hm, pw_succ', act_app, act_back' hk hw (act_in hk r _ hr)]
    by_cases h0 : t + 1 = 0
    · rw [h0, flatF_zero]
      have : m = 0 := by omega
      rw [this]
      rfl
    · rw [flatF_lt (by omega)]
      congr 2
      omega
include hk in
theorem Z_add_nat {w : List Dd} (hw : okWd k w) {r : List Nat} (hr : ∀ x ∈ r, x < k.b) (t : Int) : ∀ n : Nat, act k.T (pw w n) (act k.T (flatF [(w, t)]) r) = act k.T (flatF [(w, t + n)]) r
  | 0 => by simp [pw]
  | n + 1 => by
    rw [pw_succ', act_app, Z_add_nat hw hr t n, Z_succ hk hw hr]
    congr 4
    omega
include hk in
/-- so many times and so many times -/
theorem Z_add {w : List Dd} (hw : okWd k w) {r : List Nat} (hr : ∀ x ∈ r, x < k.b) (s t : Int) : act k.T (flatF [(w, t)]) (act k.T (flatF [(w, s)]) r) = act k.T (flatF [(w, s + t)]) r := by
  by_cases h : 0 ≤ t
  · rw [flatF_nn h, Z_add_nat hk hw hr]
    congr 4
    omega
  · have e := Z_add_nat hk hw hr (s + t) (-t).toNat
    have e2 : s + t + ((-t).toNat : Int) = s := by omega
    rw [e2] at e
    rw [← e, flatF_lt (by omega), ← bw_pw]
    exact act_back hk (pw_okd hw _) (act_in hk r _ hr)
include hk in
/-- a conjugate's times -/
theorem conj_times {f w : List Dd} (hf : okWd k f) (hw : okWd k w) {r : List Nat} (hr : ∀ x ∈ r, x < k.b) : ∀ n : Nat, act k.T (pw (f ++ (w ++ bw f)) n) r = act k.T (f ++ (pw w n ++ bw f)) r
  | 0 => by
    show act k.T [] r = act k.T (f ++ bw f) r
    rw [act_nil, act_app, act_back hk hf hr]
  | n + 1 => by
    rw [pw_succ', act_app, conj_times hf hw hr n, pw_succ']
    simp only [act_app]
    have h1 : ∀ y ∈ act k.T (pw w n) (act k.T f r), y < k.b := act_in hk _ _ (act_in hk _ _ hr)
    rw [act_back' hk hf h1]
end
end FC

/-! boxes backwards; rows in two parts -/
namespace FC
open PySem
def bkRow (b : Nat) (r : Str × List Nat × List Str) : Str × List Nat × List Str := (r.1, (List.range b).map fun x => r.2.1.idxOf x, (List.range b).map fun x => r.2.2.getD (r.2.1.idxOf x) dash)
def bkB (k : Bx) : Bx := ⟨k.b, k.rows.map (bkRow k.b)⟩
section
variable {k : Bx} (hk : okBx k)
theorem bk_notes : (bkB k).notes = k.notes := by
  unfold bkB Bx.notes
  rw [List.map_map]
  rfl
theorem bk_find (t : Str) : (bkB k).find t = (k.find t).map (bkRow k.b) := by
  show (k.rows.map (bkRow k.b)).find? (fun r => decide (r.1 = t)) = (k.rows.find? fun r => decide (r.1 = t)).map (bkRow k.b)
  rw [List.find?_map]
  rfl
include hk in
theorem idx_lt {r : Str × List Nat × List Str} (hr : r ∈ k.rows) {x : Nat} (hx : x < k.b) : r.2.1.idxOf x < k.b := by
  have := List.idxOf_lt_length_of_mem (perm_mem (hk.fn r hr) (hk.fl r hr) (hk.fb r hr) hx)
  rwa [hk.fl r hr] at this
include hk in
theorem idx_inj {r : Str × List Nat × List Str} (hr : r ∈ k.rows) {x y : Nat} (hx : x < k.b) (hy : y < k.b) (h : r.2.1.idxOf x = r.2.1.idxOf y) : x = y := by
  have mx := perm_mem (hk.fn r hr) (hk.fl r hr) (hk.fb r hr) hx
  have my := perm_mem (hk.fn r hr) (hk.fl r hr) (hk.fb r hr) hy
  rw [← List.getElem_idxOf (List.idxOf_lt_length_of_mem mx), ← List.getElem_idxOf (List.idxOf_lt_length_of_mem my)]
  congr 1
include hk in
theorem idx_nodup {r : Str × List Nat × List Str} (hr : r ∈ k.rows) : ((List.range k.b).map fun x => r.2.1.idxOf x).Nodup := by
  refine List.pairwise_map.mpr (List.Pairwise.imp_of_mem (R := (· ≠ ·)) ?_ List.nodup_range)
  intro x y hx hy hne q
  exact hne (idx_inj hk hr (List.mem_range.mp hx) (List.mem_range.mp hy) q)
include hk in
theorem idx_perm {r : Str × List Nat × List Str} (hr : r ∈ k.rows) : ((List.range k.b).map fun x => r.2.1.idxOf x).Perm (List.range k.b) := by
  refine (List.perm_ext_iff_of_nodup (idx_nodup hk hr) List.nodup_range).mpr fun a => ?_
  constructor
  · intro h
    obtain ⟨x, hx, rfl⟩ := List.mem_map.mp h
    exact List.mem_range.mpr (idx_lt hk hr (List.mem_range.mp hx))
  · intro h
    exact perm_mem (idx_nodup hk hr) (by simp) (fun x hx => by
      obtain ⟨y, hy, rfl⟩ := List.mem_map.mp hx
      exact idx_lt hk hr (List.mem_range.mp hy)) (List.mem_range.mp h)
include hk in
theorem bk_sent {r : Str × List Nat × List Str} (hr : r ∈ k.rows) : (bkRow k.b r).2.2.Perm r.2.2 := by
  have h := (idx_perm hk hr).map fun x => r.2.2.getD x dash
  rw [List.map_map] at h
  have e : (List.range k.b).map (fun x => r.2.2.getD x dash) = r.2.2 := by
    apply List.ext_getElem?
    intro i
    rw [List.getElem?_map]
    have hl := hk.sl r hr
    by_cases hi : i < k.b
    · rw [List.getElem?_range hi, List.getElem?_eq_getElem (by omega)]
      simp only [Option.map_some]
      rw [List.getD_eq_getElem?_getD, List.getElem?_eq_getElem (by omega)]
      rfl
    · rw [List.getElem?_eq_none (by simp; omega), List.getElem?_eq_none (by omega)]
      rfl
  rw [e] at h
  exact h
include hk in
theorem bk_ok : okBx (bkB k) := by
  have mem : ∀ q ∈ (bkB k).rows, ∃ r ∈ k.rows, q = bkRow k.b r := fun q hq => by
    obtain ⟨r, hr, e⟩ := List.mem_map.mp hq
    exact ⟨r, hr, e.symm⟩
  refine ⟨hk.b2, hk.b16, by simpa [bkB] using hk.few, by rw [bk_notes]; exact hk.nd, ?_, ?_, ?_, ?_, ?_, ?_⟩
  all_goals
    intro q hq
    obtain ⟨r, hr, rfl⟩ := mem q hq
  · exact hk.nm r hr
  · show ((List.range k.b).map _).length = k.b
    simp
  · intro x hx
    obtain ⟨y, hy, rfl⟩ := List.mem_map.mp hx
    exact idx_lt hk hr (List.mem_range.mp hy)
  · exact idx_nodup hk hr
  · show ((List.range k.b).map _).length = k.b
    simp
  · intro s hs
    rw [bk_notes]
    exact hk.sn r hr s ((bk_sent hk hr).mem_iff.mp hs)
include hk in
theorem bk_Sn : ∀ (j : Nat) (t : Str), Sn (bkB k) j t = Sn k j t
  | 0, _ => rfl
  | j + 1, t => by
    show (match (bkB k).find t with
      | none => 0
      | some r => (r.2.2.map fun z => if z = dash then 0 else Sn (bkB k) j z).sum) = (match k.find t with
      | none => 0
      | some r => (r.2.2.map fun z => if z = dash then 0 else Sn k j z).sum)
    rw [bk_find]
    cases h : k.find t with
    | none => rfl
    | some r =>
      have hr : r ∈ k.rows := List.mem_of_find?_eq_some h
      show ((bkRow k.b r).2.2.map _).sum = _
      rw [((bk_sent hk hr).map _).sum_nat]
      congr 1
      refine List.map_congr_left fun z _ => ?_
      rw [bk_Sn j z]
include hk in
theorem bk_few (h : few k) : few (bkB k) := fun j t => by rw [bk_Sn hk]; exact h j t
include hk in
theorem bk_T {t : Str} (ht : t ∈ k.notes) {x : Nat} (hx : x < k.b) : (bkB k).T (t, false) x = ((k.T (t, true) x).1, (k.T (t, true) x).2.map dInv) := by
  obtain ⟨r, e, hr, hn⟩ := find_some ht
  have f : k.T (t, true) x = (r.2.1.idxOf x, optD (r.2.2.getD (r.2.1.idxOf x) dash) true) := by
    unfold Bx.T; rw [e]; simp [hx]
  have hx' : x < (bkB k).b := hx
  have f2 : (bkB k).T (t, false) x = ((bkRow k.b r).2.1.getD x 0, optD ((bkRow k.b r).2.2.getD x dash) false) := by
    unfold Bx.T
    rw [bk_find, e]
    simp [hx']
  rw [f, f2]
  have g1 : (bkRow k.b r).2.1.getD x 0 = r.2.1.idxOf x := by
    show ((List.range k.b).map fun x => r.2.1.idxOf x).getD x 0 = _
    rw [List.getD_eq_getElem?_getD, List.getElem?_map, List.getElem?_range hx]
    rfl
  have g2 : (bkRow k.b r).2.2.getD x dash = r.2.2.getD (r.2.1.idxOf x) dash := by
    show ((List.range k.b).map fun x => r.2.2.getD (r.2.1.idxOf x) dash).getD x dash = _
    rw [List.getD_eq_getElem?_getD, List.getElem?_map, List.getElem?_range hx]
    rfl
  rw [g1, g2]
  unfold optD
  split <;> rfl
include hk in
/-- a note of the box backwards does what the deed backwards does -/
theorem bk_act : ∀ {r : List Nat} {o : Option Str}, (∀ t ∈ o, t ∈ k.notes) → (∀ x ∈ r, x < k.b) → act (bkB k).T (o.map fun t => (t, false)).toList r = act k.T (o.map fun t => (t, true)).toList r
  | [], _, _, _ => rfl
  | x :: r, none, _, _ => by simp
  | x :: r, some t, ho, hr => by
    have ht := ho t rfl
    have hx := hr x List.mem_cons_self
    have e := bk_T hk ht hx
    have hsub : ∃ o' : Option Str, (k.T (t, true) x).2 = o'.map (fun t => (t, true)) ∧ ∀ z ∈ o', z ∈ k.notes := by
      cases hs : (k.T (t, true) x).2 with
      | none => exact ⟨none, rfl, fun _ h => nomatch h⟩
      | some d =>
        have hd := T_ok hk (d := (t, true)) ht hs
        obtain ⟨r0, e0, hr0, hn0⟩ := find_some ht
        have f : k.T (t, true) x = (r0.2.1.idxOf x, optD (r0.2.2.getD (r0.2.1.idxOf x) dash) true) := by
          unfold Bx.T; rw [e0]; simp [hx]
        rw [f] at hs
        have d2 : d.2 = true := by
          change optD (r0.2.2.getD (r0.2.1.idxOf x) dash) true = some d at hs
          unfold optD at hs
          split at hs
          · cases hs
          · cases hs; rfl
        refine ⟨some d.1, ?_, fun z hz => ?_⟩
        · show some d = some (d.1, true)
          rw [← d2]
        · cases hz; exact hd
    obtain ⟨o', e', ho'⟩ := hsub
    show (atW (bkB k).T [(t, false)] x).1 :: act (bkB k).T (atW (bkB k).T [(t, false)] x).2 r = (atW k.T [(t, true)] x).1 :: act k.T (atW k.T [(t, true)] x).2 r
    have a1 : atW (bkB k).T [(t, false)] x = ((k.T (t, true) x).1, (o'.map fun t => (t, false)).toList) := by
      simp only [atW, e, e', List.append_nil]
      congr 2
      cases o' <;> rfl
    have a2 : atW k.T [(t, true)] x = ((k.T (t, true) x).1, (o'.map fun t => (t, true)).toList) := by
      simp only [atW, e', List.append_nil]
    rw [a1, a2]
    congr 1
    exact bk_act ho' fun y hy => hr y (List.mem_cons_of_mem _ hy)
end
/-! rows in two parts -/
section
variable {A : Type} (T : A → Nat → Nat × Option A)
theorem act_take : ∀ (r : List Nat) (w : List A) (c : Nat), act T w (r.take c) = (act T w r).take c
  | [], w, c => by simp [act]
  | x :: r, w, 0 => by simp [act]
  | x :: r, w, c + 1 => by simp [act, act_take r]
theorem sentW_cut : ∀ (r : List Nat) (w : List A) (c : Nat), sentW T (sentW T w (r.take c)) (r.drop c) = sentW T w r
  | [], w, c => by simp [sentW]
  | x :: r, w, 0 => by simp [sentW]
  | x :: r, w, c + 1 => by simp [sentW, sentW_cut r]
end
theorem rounds_cut {k : Bx} : ∀ (r : List Nat) (w : List Dd) (c : Nat), (rounds k w r).1 = (rounds k w (r.take c)).1 * (rounds k (rounds k w (r.take c)).2 (r.drop c)).1 ∧ (rounds k (rounds k w (r.take c)).2 (r.drop c)).2 = (rounds k w r).2
  | [], w, c => by simp [rounds]
  | x :: r, w, 0 => by simp [rounds]
  | x :: r, w, c + 1 => by
    have ih := rounds_cut (k := k) r (tr k.T w x (rd k w x)) c
    simp only [List.take_succ_cons, List.drop_succ_cons, rounds]
    exact ⟨by rw [ih.1, Nat.mul_assoc], ih.2⟩
theorem rounds_ok {k : Bx} (hk : okBx k) {w : List Dd} (hw : okWd k w) (r : List Nat) : okWd k (rounds k w r).2 := by
  induction r generalizing w with
  | nil => exact hw
  | cons x r ih => exact ih (tr_ok hk hw _ _)
theorem rounds_SW {k : Bx} (hk : okBx k) {A : Nat} : ∀ {r : List Nat} {w : List Dd}, okWd k w → (∀ x ∈ r, x < k.b) → (∀ j, SW k j w ≤ A) → ∀ j, SW k j (rounds k w r).2 ≤ A
  | [], w, _, _, h => h
  | x :: r, w, hw, hr, h => rounds_SW hk (r := r) (tr_ok hk hw _ _) (fun y hy => hr y (List.mem_cons_of_mem _ hy)) fun j => Nat.le_trans (SW_round hk hw (hr x List.mem_cons_self) j _ (Nat.le_refl _)) (h (j + 1))
end FC

/-! counters; boxes under other faces -/
namespace FC
open PySem
/-- the digits of a number, the lowest one ahead -/
def digs (b : Nat) : Int → Nat → List Nat
  | _, 0 => []
  | n, s + 1 => (n % (b : Int)).toNat :: digs b (n / (b : Int)) s
theorem digs_len (b : Nat) : ∀ (s : Nat) (n : Int), (digs b n s).length = s
  | 0, _ => rfl
  | s + 1, n => by simp [digs, digs_len b s]
theorem digs_lt {b : Nat} (hb : 0 < b) : ∀ (s : Nat) (n : Int), ∀ x ∈ digs b n s, x < b
  | 0, _, x, h => by cases h
  | s + 1, n, x, h => by
    rcases List.mem_cons.mp h with rfl | h
    · have h1 := Int.emod_nonneg n (show (b : Int) ≠ 0 by omega)
      have h2 := Int.emod_lt_of_pos n (show (0 : Int) < b by omega)
      omega
    · exact digs_lt hb s _ x h
theorem digs_snoc (b : Nat) : ∀ (s : Nat) (n : Int), digs b n (s + 1) = digs b n s ++ [((n / (b : Int) ^ s) % (b : Int)).toNat]
  | 0, n => by simp [digs]
  | s + 1, n => by
    have ih := digs_snoc b s (n / (b : Int))
    show (n % (b : Int)).toNat :: digs b (n / (b : Int)) (s + 1) = ((n % (b : Int)).toNat :: digs b (n / (b : Int)) s) ++ _
    rw [ih, List.cons_append]
    congr 4
    by_cases h : 0 < b
    · rw [Int.ediv_ediv_of_nonneg (by omega), Int.pow_succ, Int.mul_comm]
    · have : b = 0 := by omega
      subst this
      simp [Int.pow_succ]
/-- equal digits: equal but for multiples -/
theorem digs_eq {b : Nat} (hb : 0 < b) : ∀ (s : Nat) (n m : Int), digs b n s = digs b m s ↔ ((b ^ s : Nat) : Int) ∣ n - m
  | 0, n, m => by
    constructor
    · intro _
      rw [Nat.pow_zero]
      exact ⟨n - m, by simp⟩
    · intro _; rfl
  | s + 1, n, m => by
    have hb' : (b : Int) ≠ 0 := by omega
    have h1 := Int.emod_nonneg n hb'
    have h2 := Int.emod_nonneg m hb'
    have d1 := Int.mul_ediv_add_emod n b
    have d2 := Int.mul_ediv_add_emod m b
    have l1 := Int.emod_lt_of_pos n (show (0 : Int) < b by omega)
    have l2 := Int.emod_lt_of_pos m (show (0 : Int) < b by omega)
    show ((n % (b : Int)).toNat :: digs b (n / (b : Int)) s) = ((m % (b : Int)).toNat :: digs b (m / (b : Int)) s) ↔ _
    rw [List.cons.injEq, digs_eq hb s]
    have e : ((b ^ (s + 1) : Nat) : Int) = (b : Int) * ((b ^ s : Nat) : Int) := by
      rw [Nat.pow_succ, Nat.mul_comm, Int.natCast_mul]
    constructor
    · rintro ⟨q1, c, q2⟩
      refine ⟨c, ?_⟩
      have q3 : n % (b : Int) = m % (b : Int) := by omega
      rw [e, Int.mul_assoc, ← q2, Int.mul_sub]
      omega
    · rintro ⟨c, q⟩
      rw [e, Int.mul_assoc] at q
      have q3 : n % (b : Int) = m % (b : Int) := by
        have : n = m + (b : Int) * (((b ^ s : Nat) : Int) * c) := by omega
        rw [this, Int.add_mul_emod_self_left]
      refine ⟨by rw [q3], c, ?_⟩
      have q4 : (b : Int) * (n / (b : Int) - m / (b : Int)) = (b : Int) * (((b ^ s : Nat) : Int) * c) := by
        rw [Int.mul_sub, ← q]
        omega
      exact Int.eq_of_mul_eq_mul_left hb' q4
def cc : Str := "c"
def cd : Dd := (cc, false)
/-- a counter -/
structure Counter (k : Bx) : Prop where
  ok : okBx k
  nt : cc ∈ k.notes
  st : ∀ x, x < k.b → k.T cd x = (if x + 1 = k.b then 0 else x + 1, if x + 1 = k.b then some cd else none)
section
variable {k : Bx} (h : Counter k)
include h in
theorem cnt_ok : okWd k [cd] := fun d hd => by rw [List.mem_singleton.mp hd]; exact h.nt
include h in
/-- one on -/
theorem cnt_one : ∀ (s : Nat) (n : Int), act k.T [cd] (digs k.b n s) = digs k.b (n + 1) s
  | 0, _ => rfl
  | s + 1, n => by
    have b2 := h.ok.b2
    have hb : (k.b : Int) ≠ 0 := by omega
    have h1 := Int.emod_nonneg n hb
    have l1 := Int.emod_lt_of_pos n (show (0 : Int) < k.b by omega)
    have d1 := Int.mul_ediv_add_emod n k.b
    have hx : (n % (k.b : Int)).toNat < k.b := by omega
    show (atW k.T [cd] (n % (k.b : Int)).toNat).1 :: act k.T (atW k.T [cd] (n % (k.b : Int)).toNat).2 (digs k.b (n / (k.b : Int)) s) = ((n + 1) % (k.b : Int)).toNat :: digs k.b ((n + 1) / (k.b : Int)) s
    have e := h.st _ hx
    simp only [atW, e, List.append_nil]
    by_cases hc : (n % (k.b : Int)).toNat + 1 = k.b
    · simp only [hc, if_true]
      have q : n + 1 = (n / (k.b : Int) + 1) * (k.b : Int) := by
        rw [Int.add_mul, Int.mul_comm (n / (k.b : Int))]
        omega
      rw [q, Int.mul_emod_left, Int.mul_ediv_cancel _ hb]
      show 0 :: act k.T [cd] _ = _
      rw [cnt_one s]
      rfl
    · simp only [hc, if_false]
      have q : n + 1 = (n % (k.b : Int) + 1) + (k.b : Int) * (n / (k.b : Int)) := by omega
      have q1 : (n + 1) % (k.b : Int) = n % (k.b : Int) + 1 := by
        rw [q, Int.add_mul_emod_self_left]
        exact Int.emod_eq_of_lt (by omega) (by omega)
      have q2 : (n + 1) / (k.b : Int) = n / (k.b : Int) := by
        rw [q, Int.add_mul_ediv_left _ _ hb, Int.ediv_eq_zero_of_lt (by omega) (by omega), Int.zero_add]
      rw [q1, q2]
      show _ :: act k.T [] _ = _
      rw [act_nil]
      congr 1
      omega
include h in
theorem cnt_nat (s : Nat) (n : Int) : ∀ t : Nat, act k.T (pw [cd] t) (digs k.b n s) = digs k.b (n + t) s
  | 0 => by simp [pw]
  | t + 1 => by
    rw [pw_succ', act_app, cnt_nat s n t, cnt_one h]
    congr 1
    omega
include h in
theorem cnt_times (s : Nat) (n t : Int) : act k.T (flatF [([cd], t)]) (digs k.b n s) = digs k.b (n + t) s := by
  have b2 := h.ok.b2
  by_cases ht : 0 ≤ t
  · rw [flatF_nn ht, cnt_nat h]
    congr 1
    omega
  · rw [flatF_lt (by omega), ← bw_pw]
    have e := cnt_nat h s (n + t) (-t).toNat
    have e2 : n + t + ((-t).toNat : Int) = n := by omega
    rw [e2] at e
    rw [← e]
    exact act_back h.ok (pw_okd (cnt_ok h) _) (digs_lt (by omega) s _)
include h in
theorem cnt_round (s : Nat) (n : Int) : (rounds k [cd] (digs k.b n s)).1 = k.b ^ s := by
  have b2 := h.ok.b2
  obtain ⟨p0, p1, p2, p3, p4⟩ := rounds_spec h.ok (digs k.b n s) [cd]
  refine Nat.dvd_antisymm (p3 _ ?_) ?_
  · rw [cnt_nat h, digs_eq (by omega)]
    exact ⟨1, by omega⟩
  · rw [cnt_nat h, digs_eq (by omega)] at p2
    obtain ⟨c, q⟩ := p2
    exact Int.natCast_dvd_natCast.mp ⟨c, by omega⟩
end
/-! other faces -/
def ofRow (b : Nat) (g : List Nat) (r : Str × List Nat × List Str) : Str × List Nat × List Str := (r.1, (List.range b).map (fun y => g.getD (r.2.1.getD (g.idxOf y) 0) 0), (List.range b).map fun y => r.2.2.getD (g.idxOf y) dash)
def ofB (k : Bx) (g : List Nat) : Bx := ⟨k.b, k.rows.map (ofRow k.b g)⟩
/-- faces exchanged -/
structure Perms (b : Nat) (g : List Nat) : Prop where
  len : g.length = b
  nd : g.Nodup
  lt : ∀ x ∈ g, x < b
section
variable {k : Bx} (hk : okBx k) {g : List Nat} (hg : Perms k.b g)
theorem g_lt {b : Nat} {g : List Nat} (hg : Perms b g) {x : Nat} (hx : x < b) : g.getD x 0 < b := by
  rw [List.getD_eq_getElem?_getD, List.getElem?_eq_getElem (by rw [hg.len]; exact hx)]
  exact hg.lt _ (List.getElem_mem _)
theorem g_ix {b : Nat} {g : List Nat} (hg : Perms b g) {x : Nat} (hx : x < b) : g.idxOf (g.getD x 0) = x := by
  have hl : x < g.length := by rw [hg.len]; exact hx
  rw [List.getD_eq_getElem?_getD, List.getElem?_eq_getElem hl]
  have h2 := List.idxOf_lt_length_of_mem (List.getElem_mem hl)
  exact nodup_inj hg.nd h2 hl (List.getElem_idxOf h2)
theorem g_xi {b : Nat} {g : List Nat} (hg : Perms b g) {y : Nat} (hy : y < b) : g.idxOf y < b ∧ g.getD (g.idxOf y) 0 = y := by
  have my := perm_mem hg.nd hg.len hg.lt hy
  have h2 := List.idxOf_lt_length_of_mem my
  refine ⟨by rw [← hg.len]; exact h2, ?_⟩
  rw [List.getD_eq_getElem?_getD, List.getElem?_eq_getElem h2]
  exact List.getElem_idxOf h2
theorem g_inj {b : Nat} {g : List Nat} (hg : Perms b g) {x y : Nat} (hx : x < b) (hy : y < b) (h : g.getD x 0 = g.getD y 0) : x = y := by
  rw [← g_ix hg hx, h, g_ix hg hy]
theorem of_notes : (ofB k g).notes = k.notes := by
  unfold ofB Bx.notes
  rw [List.map_map]
  rfl
theorem of_find (t : Str) : (ofB k g).find t = (k.find t).map (ofRow k.b g) := by
  show (k.rows.map (ofRow k.b g)).find? (fun r => decide (r.1 = t)) = (k.rows.find? fun r => decide (r.1 = t)).map (ofRow k.b g)
  rw [List.find?_map]
  rfl
include hk hg in
theorem of_sent {r : Str × List Nat × List Str} (hr : r ∈ k.rows) : (ofRow k.b g r).2.2.Perm r.2.2 := by
  have nd : ((List.range k.b).map fun y => g.idxOf y).Nodup := by
    refine List.pairwise_map.mpr (List.Pairwise.imp_of_mem (R := (· ≠ ·)) ?_ List.nodup_range)
    intro x y hx hy hne q
    apply hne
    rw [← (g_xi hg (List.mem_range.mp hx)).2, q, (g_xi hg (List.mem_range.mp hy)).2]
  have pm : ((List.range k.b).map fun y => g.idxOf y).Perm (List.range k.b) := by
    refine (List.perm_ext_iff_of_nodup nd List.nodup_range).mpr fun a => ?_
    have lt : ∀ x ∈ (List.range k.b).map (fun y => g.idxOf y), x < k.b := fun x hx => by
      obtain ⟨y, hy, rfl⟩ := List.mem_map.mp hx
      exact (g_xi hg (List.mem_range.mp hy)).1
    exact ⟨fun h => List.mem_range.mpr (lt a h), fun h => perm_mem nd (by simp) lt (List.mem_range.mp h)⟩
  have h := pm.map fun x => r.2.2.getD x dash
  rw [List.map_map] at h
  have e : (List.range k.b).map (fun x => r.2.2.getD x dash) = r.2.2 := by
    apply List.ext_getElem?
    intro i
    rw [List.getElem?_map]
    have hl := hk.sl r hr
    by_cases hi : i < k.b
    · rw [List.getElem?_range hi, List.getElem?_eq_getElem (by omega)]
      simp only [Option.map_some]
      rw [List.getD_eq_getElem?_getD, List.getElem?_eq_getElem (by omega)]
      rfl
    · rw [List.getElem?_eq_none (by simp; omega), List.getElem?_eq_none (by omega)]
      rfl
  rw [e] at h
  exact h
include hk in
theorem fa_lt {r : Str × List Nat × List Str} (hr : r ∈ k.rows) {x : Nat} (hx : x < k.b) : r.2.1.getD x 0 < k.b := by
  rw [List.getD_eq_getElem?_getD, List.getElem?_eq_getElem (by rw [hk.fl r hr]; exact hx)]
  exact hk.fb r hr _ (List.getElem_mem _)
include hk in
theorem fa_inj {r : Str × List Nat × List Str} (hr : r ∈ k.rows) {x y : Nat} (hx : x < k.b) (hy : y < k.b) (h : r.2.1.getD x 0 = r.2.1.getD y 0) : x = y := by
  have l1 : x < r.2.1.length := by rw [hk.fl r hr]; exact hx
  have l2 : y < r.2.1.length := by rw [hk.fl r hr]; exact hy
  rw [List.getD_eq_getElem?_getD, List.getElem?_eq_getElem l1, List.getD_eq_getElem?_getD, List.getElem?_eq_getElem l2] at h
  exact nodup_inj (hk.fn r hr) l1 l2 h
include hk hg in
theorem of_ok : okBx (ofB k g) := by
  have mem : ∀ q ∈ (ofB k g).rows, ∃ r ∈ k.rows, q = ofRow k.b g r := fun q hq => by
    obtain ⟨r, hr, e⟩ := List.mem_map.mp hq
    exact ⟨r, hr, e.symm⟩
  refine ⟨hk.b2, hk.b16, by simpa [ofB] using hk.few, by rw [of_notes]; exact hk.nd, ?_, ?_, ?_, ?_, ?_, ?_⟩
  all_goals
    intro q hq
    obtain ⟨r, hr, rfl⟩ := mem q hq
  · exact hk.nm r hr
  · show ((List.range k.b).map _).length = k.b
    simp
  · intro x hx
    obtain ⟨y, hy, rfl⟩ := List.mem_map.mp hx
    exact g_lt hg (fa_lt hk hr (g_xi hg (List.mem_range.mp hy)).1)
  · refine List.pairwise_map.mpr (List.Pairwise.imp_of_mem (R := (· ≠ ·)) ?_ List.nodup_range)
    intro x y hx hy hne q
    have x1 := g_xi hg (List.mem_range.mp hx)
    have y1 := g_xi hg (List.mem_range.mp hy)
    have := fa_inj hk hr x1.1 y1.1 (g_inj hg (fa_lt hk hr x1.1) (fa_lt hk hr y1.1) q)
    apply hne
    rw [← x1.2, this, y1.2]
  · show ((List.range k.b).map _).length = k.b
    simp
  · intro s hs
    rw [of_notes]
    exact hk.sn r hr s ((of_sent hk hg hr).mem_iff.mp hs)
include hk hg in
theorem of_Sn : ∀ (j : Nat) (t : Str), Sn (ofB k g) j t = Sn k j t
  | 0, _ => rfl
  | j + 1, t => by
    show (match (ofB k g).find t with
      | none => 0
      | some r => (r.2.2.map fun z => if z = dash then 0 else Sn (ofB k g) j z).sum) = (match k.find t with
      | none => 0
      | some r => (r.2.2.map fun z => if z = dash then 0 else Sn k j z).sum)
    rw [of_find]
    cases h : k.find t with
    | none => rfl
    | some r =>
      have hr : r ∈ k.rows := List.mem_of_find?_eq_some h
      show ((ofRow k.b g r).2.2.map _).sum = _
      rw [((of_sent hk hg hr).map _).sum_nat]
      congr 1
      refine List.map_congr_left fun z _ => ?_
      rw [of_Sn j z]
include hk hg in
theorem of_few (h : few k) : few (ofB k g) := fun j t => by rw [of_Sn hk hg]; exact h j t
include hk hg in
theorem of_T {t : Str} (ht : t ∈ k.notes) {x : Nat} (hx : x < k.b) : (ofB k g).T (t, false) (g.getD x 0) = (g.getD (k.T (t, false) x).1 0, (k.T (t, false) x).2) := by
  obtain ⟨r, e, hr, hn⟩ := find_some ht
  have f : k.T (t, false) x = (r.2.1.getD x 0, optD (r.2.2.getD x dash) false) := by
    unfold Bx.T; rw [e]; simp [hx]
  have hy : g.getD x 0 < (ofB k g).b := g_lt hg hx
  have f2 : (ofB k g).T (t, false) (g.getD x 0) = ((ofRow k.b g r).2.1.getD (g.getD x 0) 0, optD ((ofRow k.b g r).2.2.getD (g.getD x 0) dash) false) := by
    unfold Bx.T
    rw [of_find, e]
    show (if g.getD x 0 < (ofB k g).b then _ else _) = _
    rw [if_pos hy]
    rfl
  have hy' : g.getD x 0 < k.b := hy
  rw [f, f2]
  have g1 : (ofRow k.b g r).2.1.getD (g.getD x 0) 0 = g.getD (r.2.1.getD x 0) 0 := by
    show ((List.range k.b).map fun y => g.getD (r.2.1.getD (g.idxOf y) 0) 0).getD (g.getD x 0) 0 = _
    rw [List.getD_eq_getElem?_getD, List.getElem?_map, List.getElem?_range hy']
    show g.getD (r.2.1.getD (g.idxOf (g.getD x 0)) 0) 0 = _
    rw [g_ix hg hx]
  have g2 : (ofRow k.b g r).2.2.getD (g.getD x 0) dash = r.2.2.getD x dash := by
    show ((List.range k.b).map fun y => r.2.2.getD (g.idxOf y) dash).getD (g.getD x 0) dash = _
    rw [List.getD_eq_getElem?_getD, List.getElem?_map, List.getElem?_range hy']
    show r.2.2.getD (g.idxOf (g.getD x 0)) dash = _
    rw [g_ix hg hx]
  rw [g1, g2]
def fwdW (k : Bx) (w : List Dd) : Prop := ∀ d ∈ w, d.1 ∈ k.notes ∧ d.2 = false
include hk in
theorem T_fwd {t : Str} (ht : t ∈ k.notes) {x : Nat} {d : Dd} (h : (k.T (t, false) x).2 = some d) : d.1 ∈ k.notes ∧ d.2 = false := by
  refine ⟨T_ok hk (d := (t, false)) ht h, ?_⟩
  obtain ⟨r, e, hr, hn⟩ := find_some ht
  by_cases hx : x < k.b
  · have f : k.T (t, false) x = (r.2.1.getD x 0, optD (r.2.2.getD x dash) false) := by
      unfold Bx.T; rw [e]; simp [hx]
    rw [f] at h
    change optD (r.2.2.getD x dash) false = some d at h
    unfold optD at h
    split at h
    · cases h
    · cases h; rfl
  · rw [T_out hx] at h
    cases h
include hk hg in
theorem of_atW : ∀ {w : List Dd}, fwdW k w → ∀ {x : Nat}, x < k.b → atW (ofB k g).T w (g.getD x 0) = (g.getD (atW k.T w x).1 0, (atW k.T w x).2) ∧ fwdW k (atW k.T w x).2
  | [], _, x, _ => ⟨rfl, fun _ h => nomatch h⟩
  | d :: w, hw, x, hx => by
    obtain ⟨hd, hd2⟩ := hw d List.mem_cons_self
    obtain ⟨t, c⟩ := d
    simp only at hd hd2
    subst hd2
    have e := of_T hk hg hd hx
    have ih := of_atW (w := w) (fun q hq => hw q (List.mem_cons_of_mem _ hq)) (T_lt hk (d := (t, false)) hd hx)
    constructor
    · simp only [atW, e, ih.1]
    · intro q hq
      rcases List.mem_append.mp hq with hq | hq
      · exact T_fwd hk hd (Option.mem_toList.mp hq)
      · exact ih.2 q hq
include hk hg in
/-- with the faces exchanged the rows come out likewise -/
theorem of_act : ∀ {r : List Nat} {w : List Dd}, fwdW k w → (∀ x ∈ r, x < k.b) → act (ofB k g).T w (r.map fun x => g.getD x 0) = (act k.T w r).map fun x => g.getD x 0
  | [], _, _, _ => rfl
  | x :: r, w, hw, hr => by
    obtain ⟨e, hw'⟩ := of_atW hk hg hw (hr x List.mem_cons_self)
    show (atW (ofB k g).T w (g.getD x 0)).1 :: act (ofB k g).T (atW (ofB k g).T w (g.getD x 0)).2 (r.map fun x => g.getD x 0) = _
    rw [e]
    show g.getD (atW k.T w x).1 0 :: act (ofB k g).T (atW k.T w x).2 _ = _
    rw [of_act hw' fun y hy => hr y (List.mem_cons_of_mem _ hy)]
    rfl
theorem pw_fwd {w : List Dd} (h : fwdW k w) : ∀ n, fwdW k (pw w n)
  | 0 => fun _ h => nomatch h
  | n + 1 => fun d hd => by
    rcases List.mem_append.mp hd with hd | hd
    · exact h d hd
    · exact pw_fwd h n d hd
theorem map_inj {b : Nat} {g : List Nat} (hg : Perms b g) : ∀ {r s : List Nat}, (∀ x ∈ r, x < b) → (∀ x ∈ s, x < b) → (r.map fun x => g.getD x 0) = (s.map fun x => g.getD x 0) → r = s
  | [], [], _, _, _ => rfl
  | [], _ :: _, _, _, h => by cases h
  | _ :: _, [], _, _, h => by cases h
  | x :: r, y :: s, hr, hs, h => by
    simp only [List.map_cons, List.cons.injEq] at h
    rw [g_inj hg (hr x List.mem_cons_self) (hs y List.mem_cons_self) h.1, map_inj hg (fun z hz => hr z (List.mem_cons_of_mem _ hz)) (fun z hz => hs z (List.mem_cons_of_mem _ hz)) h.2]
include hk hg in
theorem of_rounds {w : List Dd} (hw : fwdW k w) {r : List Nat} (hr : ∀ x ∈ r, x < k.b) : (rounds (ofB k g) w (r.map fun x => g.getD x 0)).1 = (rounds k w r).1 := by
  obtain ⟨_, _, a2, a3, _⟩ := rounds_spec hk r w
  obtain ⟨_, _, b2, b3, _⟩ := rounds_spec (of_ok hk hg) (r.map fun x => g.getD x 0) w
  refine Nat.dvd_antisymm (b3 _ ?_) (a3 _ ?_)
  · rw [of_act hk hg (pw_fwd hw _) hr, a2]
  · rw [of_act hk hg (pw_fwd hw _) hr] at b2
    exact map_inj hg (act_in hk r _ hr) hr b2
end
/-- one note goes on, the others are none -/
theorem few_lone {k : Bx} (hk : okBx k) (h : ∀ r ∈ k.rows, ∃ rest : List Str, r.2.2.Perm (r.1 :: rest) ∧ ∀ z ∈ rest, z = dash) : few k := by
  have key : ∀ j t, Sn k j t ≤ 1 := by
    intro j
    induction j with
    | zero => intro t; exact Nat.le_refl _
    | succ j ih =>
      intro t
      show (match k.find t with
        | none => 0
        | some r => (r.2.2.map fun z => if z = dash then 0 else Sn k j z).sum) ≤ 1
      cases e : k.find t with
      | none => exact Nat.zero_le _
      | some r =>
        have hr : r ∈ k.rows := List.mem_of_find?_eq_some e
        obtain ⟨rest, hp, hz⟩ := h r hr
        have h0 : (rest.map fun z => if z = dash then 0 else Sn k j z).sum ≤ rest.length * 0 := sum_const fun z hz' => by simp [hz z hz']
        show (r.2.2.map fun z => if z = dash then 0 else Sn k j z).sum ≤ 1
        rw [(hp.map _).sum_nat, List.map_cons, List.sum_cons]
        have := ih r.1
        have h1 : (if r.1 = dash then 0 else Sn k j r.1) ≤ 1 := by split <;> omega
        omega
  exact fun j t => Nat.le_trans (key j t) (by decide)
end FC

/-! sorting that can be worked out -/
namespace FC
open PySem
section
variable {α : Type} (le : α → α → Bool)
def mgF : Nat → List α → List α → List α
  | 0, xs, ys => xs ++ ys
  | _ + 1, [], ys => ys
  | _ + 1, x :: xs, [] => x :: xs
  | f + 1, x :: xs, y :: ys => if le x y then x :: mgF f xs (y :: ys) else y :: mgF f (x :: xs) ys
theorem mgF_eq : ∀ (f : Nat) (xs ys : List α), xs.length + ys.length ≤ f → mgF le f xs ys = List.merge xs ys le
  | 0, xs, ys, h => by
    have h1 : xs = [] := List.length_eq_zero_iff.mp (by omega)
    have h2 : ys = [] := List.length_eq_zero_iff.mp (by omega)
    subst h1 h2
    simp [mgF]
  | f + 1, [], ys, _ => by simp [mgF]
  | f + 1, x :: xs, [], _ => by simp [mgF]
  | f + 1, x :: xs, y :: ys, h => by
    simp only [List.length_cons] at h
    rw [List.cons_merge_cons]
    show (if le x y then x :: mgF le f xs (y :: ys) else y :: mgF le f (x :: xs) ys) = _
    rw [mgF_eq f xs (y :: ys) (by simp only [List.length_cons]; omega), mgF_eq f (x :: xs) ys (by simp only [List.length_cons]; omega)]
def msF : Nat → List α → List α
  | 0, l => l
  | f + 1, l => if l.length ≤ 1 then l else mgF le l.length (msF f (l.take ((l.length + 1) / 2))) (msF f (l.drop ((l.length + 1) / 2)))
theorem msF_eq : ∀ (f : Nat) (l : List α), l.length ≤ f → msF le f l = l.mergeSort le
  | 0, l, h => by
    have h1 : l = [] := List.length_eq_zero_iff.mp (by omega)
    subst h1
    simp [msF]
  | f + 1, l, h => by
    show (if l.length ≤ 1 then l else mgF le l.length (msF le f (l.take ((l.length + 1) / 2))) (msF le f (l.drop ((l.length + 1) / 2)))) = _
    match l, h with
    | [], _ => simp
    | [a], _ => simp
    | a :: b :: xs, h =>
      rw [if_neg (by simp)]
      have l1 : ((a :: b :: xs).take (((a :: b :: xs).length + 1) / 2)).length ≤ f := by simp at h ⊢; omega
      have l2 : ((a :: b :: xs).drop (((a :: b :: xs).length + 1) / 2)).length ≤ f := by simp at h ⊢; omega
      rw [msF_eq f _ l1, msF_eq f _ l2, mgF_eq]
      · rw [List.mergeSort]
        simp
      · rw [(List.mergeSort_perm _ _).length_eq, (List.mergeSort_perm _ _).length_eq, List.length_take, List.length_drop]
        omega
end
theorem sortT_F (l : List D) : sortT l = msF (PySem.W.dataLe false id) l.length l := (msF_eq _ _ l (Nat.le_refl _)).symm
/-! a block in two parts -/
def appS : Sx → Sx → Sx
  | .cons a b, q => .cons a (appS b q)
  | _, q => q
def nilEnd : Sx → Bool
  | .cons _ b => nilEnd b
  | .nil => true
  | _ => false
theorem app_stm {w : Nat} {C : Calls} {q : Sx} : ∀ (p : Sx), nilEnd p = true → ∀ {s s' : S}, stm w C p s = some (.nx, s') → stm w C (appS p q) s = stm w C q s'
  | .cons a b, h, s, s', e => by
    show stm w C (.cons a (appS b q)) s = _
    rw [stm_cons] at e ⊢
    simp only [bnd_run] at e ⊢
    cases ha : stm w C a s with
    | none => rw [ha] at e; cases e
    | some r =>
      obtain ⟨f, s1⟩ := r
      rw [ha] at e
      cases f with
      | nx => exact app_stm b h e
      | _ => cases e
  | .nil, _, s, s', e => by
    cases e
    rfl
  | .set _ _, h, _, _, _ => by cases h
  | .seto _ _, h, _, _, _ => by cases h
  | .par _ _, h, _, _, _ => by cases h
  | .unp _ _, h, _, _, _ => by cases h
  | .sub _ _ _, h, _, _, _ => by cases h
  | .aug _ _ _, h, _, _, _ => by cases h
  | .expr _, h, _, _, _ => by cases h
  | .ret _, h, _, _, _ => by cases h
  | .reto _, h, _, _, _ => by cases h
  | .retv _, h, _, _, _ => by cases h
  | .retn, h, _, _, _ => by cases h
  | .ife _ _ _, h, _, _, _ => by cases h
  | .for_ _ _ _, h, _, _, _ => by cases h
  | .while_ _ _, h, _, _, _ => by cases h
  | .pass, h, _, _, _ => by cases h
  | .brk, h, _, _, _ => by cases h
  | .cont, h, _, _, _ => by cases h
  | .nev, h, _, _, _ => by cases h
/-- the first statements -/
def takeS : Nat → Sx → Sx
  | 0, _ => .nil
  | n + 1, .cons a b => .cons a (takeS n b)
  | _ + 1, q => .nil
def dropS : Nat → Sx → Sx
  | 0, q => q
  | n + 1, .cons _ b => dropS n b
  | _ + 1, q => q
end FC

/-! Part 28: what must hold behind a run: frames of what is left to be done. -/
namespace FC
open PySem
theorem sl_eq : sizeLine = 16777216 := rfl
def W {α : Type} (o : Option (α × S)) (K : α → S → Prop) : Prop := ∃ a s, o = some (a, s) ∧ K a s
def Wc (o : Option (D × List D)) (K : D → List D → Prop) : Prop := ∃ r ls, o = some (r, ls) ∧ K r ls
def Wo (o : Option D) (K : D → S → Prop) (s : S) : Prop := ∃ d, o = some d ∧ K d s
section
variable {α β : Type} {a : α} {s : S} {K K' : α → S → Prop}
theorem W_some : W (some (a, s)) K ↔ K a s := by
  unfold W
  constructor
  · rintro ⟨_, _, h, k⟩; cases h; exact k
  · intro k; exact ⟨_, _, rfl, k⟩
theorem W_none : W (none : Option (α × S)) K ↔ False := by
  unfold W
  constructor
  · rintro ⟨_, _, h, _⟩; cases h
  · exact False.elim
theorem W_mono {o : Option (α × S)} (h : W o K) (k : ∀ a s, K a s → K' a s) : W o K' := by
  obtain ⟨a, s, e, h⟩ := h
  exact ⟨a, s, e, k a s h⟩
theorem W_bnd {m : M α} {f : α → M β} {K : β → S → Prop} : W (bnd m f s) K ↔ W (m s) (fun a s' => W (f a s') K) := by
  unfold bnd
  cases m s with
  | none => simp only [W_none]
  | some p => obtain ⟨a, s'⟩ := p; simp only [W_some]
end
section
variable {K K' : D → List D → Prop} {r : D} {ls : List D} {o : Option (D × List D)}
theorem Wc_some : Wc (some (r, ls)) K ↔ K r ls := by
  unfold Wc
  constructor
  · rintro ⟨_, _, h, k⟩; cases h; exact k
  · intro k; exact ⟨_, _, rfl, k⟩
theorem Wc.mono (h : Wc o K) (k : ∀ r ls, K r ls → K' r ls) : Wc o K' := by
  obtain ⟨a, s, e, h⟩ := h
  exact ⟨a, s, e, k a s h⟩
theorem Wc_eq (e : o = some (r, ls)) (k : K r ls) : Wc o K := ⟨_, _, e, k⟩
theorem Wc.eq (h : Wc o fun r' ls' => r' = r ∧ ls' = ls) : o = some (r, ls) := by
  obtain ⟨a, s, e, rfl, rfl⟩ := h
  exact e
end
section
variable {K : D → S → Prop} {d : D} {s : S} {o : Option D}
theorem Wo_some : Wo (some d) K s ↔ K d s := by
  unfold Wo
  constructor
  · rintro ⟨_, h, k⟩; cases h; exact k
  · intro k; exact ⟨_, rfl, k⟩
theorem Wo_none : Wo none K s ↔ False := by
  unfold Wo
  constructor
  · rintro ⟨_, h, _⟩; cases h
  · exact False.elim
theorem Wo_if {c : Prop} [Decidable c] : Wo (if c then o else none) K s ↔ (c ∧ Wo o K s) := by
  by_cases h : c <;> simp [h, Wo_none]
theorem Wo_eq (e : o = some d) (k : K d s) : Wo o K s := ⟨_, e, k⟩
end
def WV (C : Calls) (e : Ex) (s : S) (K : D → S → Prop) : Prop := W ((sem C e).v s) K
def WT (C : Calls) (e : Ex) (s : S) (K : Bool → S → Prop) : Prop := W ((sem C e).t s) K
def WA (C : Calls) (e : Ex) (s : S) (K : Ar → S → Prop) : Prop := W ((sem C e).a s) K
def WAs (C : Calls) (e : Ex) (s : S) (K : List Ar → S → Prop) : Prop := W ((sem C e).as s) K
def WI (C : Calls) (e : Ex) (s : S) (K : List D → S → Prop) : Prop := W ((sem C e).it s) K
def WTs (C : Calls) (e : Ex) (s : S) (K : Bool → S → Prop) : Prop := W ((sem C e).ts s) K
def WS (w : Nat) (C : Calls) (p : Sx) (s : S) (K : Fl → S → Prop) : Prop := W (stm w C p s) K
/-- a slot is read -/
def KRd (o : Option (Option B)) (i : Nat) (K : D → S → Prop) (s : S) : Prop := match o with
  | some (some (.val d)) => K d s
  | some (some (.own d)) => K d (s.set i (some (.val d)))
  | _ => False
def KVl (K : Ar → S → Prop) (d : D) (s : S) : Prop := K (.vl d) s
def KTru (K : Bool → S → Prop) (d : D) (s : S) : Prop := W (lift (truD d) s) K
def KGive (K : Ar → S → Prop) (d : D) (s : S) : Prop := newObj d = true ∧ K (.ow d) s
def KSlot (o : Option D) (a : Ar) (K : Ar → S → Prop) (s : S) : Prop := o.isSome = true ∧ K a s
def KOp1 (o : Op) (K : D → S → Prop) (x : Option (List D)) (s : S) : Prop := ∃ ds, x = some ds ∧ Wo (opD o ds) K s
def KOp (o : Op) (K : D → S → Prop) (l : List Ar) (s : S) : Prop := KOp1 o K (resAs s l) s
def KAs2 (x : Ar) (K : List Ar → S → Prop) (l : List Ar) (s : S) : Prop := K (x :: l) s
def KAs (C : Calls) (es : Ex) (K : List Ar → S → Prop) (x : Ar) (s : S) : Prop := WAs C es s (KAs2 x K)
def KTs (C : Calls) (es : Ex) (K : Bool → S → Prop) (k : Bool) (s : S) : Prop := (k = true → WTs C es s K) ∧ (k = false → K false s)
def KNotV (K : D → S → Prop) (k : Bool) (s : S) : Prop := K (.bool (!k)) s
def KNotT (K : Bool → S → Prop) (k : Bool) (s : S) : Prop := K (!k) s
def KAndT (C : Calls) (b : Ex) (K : Bool → S → Prop) (k : Bool) (s : S) : Prop := (k = true → WT C b s K) ∧ (k = false → K false s)
def KOrT (C : Calls) (b : Ex) (K : Bool → S → Prop) (k : Bool) (s : S) : Prop := (k = false → WT C b s K) ∧ (k = true → K true s)
def KAndV1 (C : Calls) (b : Ex) (K : D → S → Prop) (x : D) (k : Bool) (s : S) : Prop := (k = true → WV C b s K) ∧ (k = false → K x s)
def KOrV1 (C : Calls) (b : Ex) (K : D → S → Prop) (x : D) (k : Bool) (s : S) : Prop := (k = false → WV C b s K) ∧ (k = true → K x s)
def KAndV (C : Calls) (b : Ex) (K : D → S → Prop) (x : D) (s : S) : Prop := KTru (KAndV1 C b K x) x s
def KOrV (C : Calls) (b : Ex) (K : D → S → Prop) (x : D) (s : S) : Prop := KTru (KOrV1 C b K x) x s
def KIfV (C : Calls) (a b : Ex) (K : D → S → Prop) (k : Bool) (s : S) : Prop := (k = true → WV C a s K) ∧ (k = false → WV C b s K)
def KIf (w : Nat) (C : Calls) (a b : Sx) (K : Fl → S → Prop) (k : Bool) (s : S) : Prop := (k = true → WS w C a s K) ∧ (k = false → WS w C b s K)
def KCh4 (o : Op) (y : D) (K : D → S → Prop) (z : D) (s : S) : Prop := Wo (op2 o y z) K s
def KCh3 (C : Calls) (o : Op) (c : Ex) (y : D) (K : D → S → Prop) (r : D) (s : S) : Prop := ∃ k, r = .bool k ∧ (k = true → WV C c s (KCh4 o y K)) ∧ (k = false → K (.bool false) s)
def KCh2 (C : Calls) (o o' : Op) (c : Ex) (x : D) (K : D → S → Prop) (y : D) (s : S) : Prop := Wo (op2 o x y) (KCh3 C o' c y K) s
def KCh1 (C : Calls) (o o' : Op) (b c : Ex) (K : D → S → Prop) (x : D) (s : S) : Prop := WV C b s (KCh2 C o o' c x K)
def KTup1 (K : D → S → Prop) (x : Option (List D)) (s : S) : Prop := ∃ ds, x = some ds ∧ ds.length ≤ sizeLine ∧ K (.tuple ds) s
def KTup (K : D → S → Prop) (l : List Ar) (s : S) : Prop := KTup1 K (valsA l) s
def KLst1 (K : D → S → Prop) (x : Option (List D)) (s : S) : Prop := ∃ ds, x = some ds ∧ ds.length ≤ sizeLine ∧ K (.list ds) s
def KLst (K : D → S → Prop) (l : List Ar) (s : S) : Prop := KLst1 K (valsA l) s
def KDct2 (k : D) (K : D → S → Prop) (v : D) (s : S) : Prop := (keyOf k).isSome = true ∧ K (.dict [(k, v)]) s
def KDct1 (C : Calls) (b : Ex) (K : D → S → Prop) (k : D) (s : S) : Prop := WV C b s (KDct2 k K)
def KBk (o : Option S) (K : D → S → Prop) (r : D) : Prop := ∃ s', o = some s' ∧ K r s'
def KRet (l : List Ar) (K : D → S → Prop) (s : S) (r : D) (ls : List D) : Prop := KBk (backS l ls s) K r
def KCall3 (C : Calls) (f : Nat) (K : D → S → Prop) (l : List Ar) (x : Option (List D)) (s : S) : Prop := ∃ ds, x = some ds ∧ Wc (C f ds) (KRet l K s)
def KCall2 (C : Calls) (f : Nat) (K : D → S → Prop) (x : Option (List Ar)) (s : S) : Prop := ∃ l, x = some l ∧ KCall3 C f K l (resAs s l) s
def KCall (C : Calls) (f : Nat) (pm : List Nat) (K : D → S → Prop) (l : List Ar) (s : S) : Prop := KCall2 C f K (permL pm l) s
def KMu2 (i : Nat) (x : Option (D × D)) (K : D → S → Prop) (s : S) : Prop := ∃ r x', x = some (r, x') ∧ KBk (mutS i x' s) K r
def KMu1 (m : Mu) (i : Nat) (K : D → S → Prop) (x : Option (List D)) (y : Option D) (s : S) : Prop := ∃ ds d, x = some ds ∧ y = some d ∧ KMu2 i (muD m d ds) K s
def KMu (m : Mu) (i : Nat) (K : D → S → Prop) (l : List Ar) (s : S) : Prop := KMu1 m i K (valsA l) (resA s (.ln i)) s
def KMt3 (m : Mt) (K : D → S → Prop) (x : Option D) (y : Option (List D)) (s : S) : Prop := ∃ d ds, x = some d ∧ y = some ds ∧ Wo (mtD m d ds) K s
def KMt2 (m : Mt) (a : Ar) (K : D → S → Prop) (l : List Ar) (s : S) : Prop := KMt3 m K (resA s a) (resAs s l) s
def KMt1 (C : Calls) (m : Mt) (es : Ex) (K : D → S → Prop) (a : Ar) (s : S) : Prop := isListA s a m.ty = true ∧ WAs C es s (KMt2 m a K)
def KSl4 (i j : Int) (K : D → S → Prop) (o : Option D) (s : S) : Prop := ∃ d, o = some d ∧ Wo (opSl (some i) (some j) d) K s
def KSl3 (x : Ar) (i : Int) (K : D → S → Prop) (h : D) (s : S) : Prop := ∃ j, intD h = some j ∧ KSl4 i j K (resA s x) s
def KSl2 (C : Calls) (hi : Ex) (x : Ar) (K : D → S → Prop) (l : D) (s : S) : Prop := ∃ i, intD l = some i ∧ WV C hi s (KSl3 x i K)
def KSl1 (C : Calls) (lo hi : Ex) (K : D → S → Prop) (x : Ar) (s : S) : Prop := WV C lo s (KSl2 C hi x K)
def KComp (C : Calls) (e : Ex) (t : Tg) (ifs : Ex) (K : D → S → Prop) (ds : List D) (s : S) : Prop :=
  t.slots.all (plainS s) = true ∧ ∃ ys s', compLoop t (sem C ifs).ts (sem C e).v ds [] s = some (ys, s') ∧ K (.list ys) (restS s s' t.slots)
def KDComp (C : Calls) (ke ve : Ex) (t : Tg) (ifs : Ex) (K : D → S → Prop) (ds : List D) (s : S) : Prop :=
  t.slots.all (plainS s) = true ∧ ∃ ys s', dcompLoop t (sem C ifs).ts (sem C ke).v (sem C ve).v ds [] s = some (ys, s') ∧ K (.dict ys) (restS s s' t.slots)
def KWalk (K : List D → S → Prop) (d : D) (s : S) : Prop := ∃ ds, walkOf d = some ds ∧ K ds s
def KRg1 (K : List D → S → Prop) (x : Option (List D)) (s : S) : Prop :=
  (∃ n, x = some [.int n] ∧ smallI n = true ∧ K (rgD n) s) ∨ (∃ a b, x = some [.int a, .int b] ∧ smallI a = true ∧ smallI b = true ∧ K (rgD2 a b) s)
def KRg (K : List D → S → Prop) (l : List Ar) (s : S) : Prop := KRg1 K (valsA l) s
def KEnum (K : List D → S → Prop) (d : D) (s : S) : Prop := ∃ xs, d = .list xs ∧ K (enumD 0 xs) s
def KZip1 (K : List D → S → Prop) (x : Option (List D)) (s : S) : Prop := ∃ xs ys, (x = some [.list xs, .list ys] ∨ x = some [.tuple xs, .tuple ys]) ∧ K (zipD xs ys) s
def KZip (K : List D → S → Prop) (l : List Ar) (s : S) : Prop := KZip1 K (valsA l) s
def KVals (K : List D → S → Prop) (d : D) (s : S) : Prop := ∃ kvs, d = .dict kvs ∧ K (kvs.map (·.2)) s
def KItems (K : List D → S → Prop) (d : D) (s : S) : Prop := ∃ kvs, d = .dict kvs ∧ K (kvs.map fun kv => .tuple [kv.1, kv.2]) s
def KPut (o : Option S) (K : Fl → S → Prop) : Prop := ∃ s, o = some s ∧ K .nx s
def KSet (i : Nat) (K : Fl → S → Prop) (d : D) (s : S) : Prop := KPut (putS i (.val d) s) K
def KSeto (i : Nat) (K : Fl → S → Prop) (d : D) (s : S) : Prop := newObj d = true ∧ KPut (putS i (.own d) s) K
def KPar1 (is : List Nat) (K : Fl → S → Prop) (x : Option (List B)) (s : S) : Prop := ∃ bs, x = some bs ∧ bs.length = is.length ∧ KPut (putAll (is.zip bs) s) K
def KPar (is : List Nat) (K : Fl → S → Prop) (l : List Ar) (s : S) : Prop := KPar1 is K (bsOf l) s
def KUnp (is : List Nat) (K : Fl → S → Prop) (d : D) (s : S) : Prop := KPut (bindT (.tp is) d s) K
def KSub4 (i : Nat) (K : Fl → S → Prop) (x : Option D) (s : S) : Prop := ∃ x', x = some x' ∧ KPut (mutS i x' s) K
def KSub3 (i : Nat) (d kd : D) (K : Fl → S → Prop) (x : Option D) (s : S) : Prop := ∃ y, x = some y ∧ KSub4 i K (subD y kd d) s
def KSub2 (i : Nat) (d : D) (K : Fl → S → Prop) (kd : D) (s : S) : Prop := KSub3 i d kd K (resA s (.ln i)) s
def KSub1 (C : Calls) (i : Nat) (k : Ex) (K : Fl → S → Prop) (d : D) (s : S) : Prop := (resA s (.ln i)).isSome = true ∧ WV C k s (KSub2 i d K)
def KAug2 (i : Nat) (o : Op) (x : D) (K : Fl → S → Prop) (y : D) (s : S) : Prop := Wo (augD o x y) (KSet i K) s
def KAug (C : Calls) (i : Nat) (o : Op) (e : Ex) (K : Fl → S → Prop) (x : D) (s : S) : Prop := WV C e s (KAug2 i o x K)
def KExpr (K : Fl → S → Prop) (_ : D) (s : S) : Prop := K .nx s
def KRtn (K : Fl → S → Prop) (d : D) (s : S) : Prop := K (.rt false d) s
def KRto (K : Fl → S → Prop) (d : D) (s : S) : Prop := newObj d = true ∧ K (.rt true d) s
def KRtv (o : Option (Option B)) (i : Nat) (K : Fl → S → Prop) (s : S) : Prop := ∃ d, o = some (some (.own d)) ∧ K (.rt true d) (s.set i none)
def KSeq (w : Nat) (C : Calls) (q : Sx) (K : Fl → S → Prop) (f : Fl) (s : S) : Prop := match f with
  | .nx => WS w C q s K
  | f => K f s
def KFor (w : Nat) (C : Calls) (t : Tg) (b : Sx) (K : Fl → S → Prop) (ds : List D) (s : S) : Prop := W (forLoop t (stm w C b) ds s) K
def KWhile (w : Nat) (C : Calls) (c : Ex) (b : Sx) (K : Fl → S → Prop) (s : S) : Prop := W (whileLoop (sem C c).t (stm w C b) w s) K
def KFin2 (R : D → List D → Prop) (d : D) (x : Option (List D)) : Prop := ∃ ls, x = some ls ∧ R d ls
def KFin (own : Bool) (modes : List Bool) (R : D → List D → Prop) (f : Fl) (s : S) : Prop := match f with
  | .rt o d => o = own ∧ KFin2 R d (lentsOf modes s)
  | .nx => own = false ∧ KFin2 R .none (lentsOf modes s)
  | _ => False

/-! ### the equations -/
section
variable {C : Calls} {w : Nat} {s : S} {d : D} {x : Str} {i j f : Nat} {e es a b c o it ifs lo hi : Ex} {t : Tg} {p q : Sx} {pm is : List Nat}
  {K : D → S → Prop} {KB : Bool → S → Prop} {KA : Ar → S → Prop} {KL : List Ar → S → Prop} {KI : List D → S → Prop} {KF : Fl → S → Prop}
theorem W_gives {α : Type} {a : α} {K : α → S → Prop} : W (gives a s) K ↔ K a s := W_some
theorem W_fails {α : Type} {K : α → S → Prop} : W ((fails : M α) s) K ↔ False := W_none
theorem W_lift {α : Type} {o : Option α} {K : α → S → Prop} : W (lift o s) K ↔ ∃ a, o = some a ∧ K a s := by
  cases o with
  | none => exact W_none.trans ⟨False.elim, fun ⟨_, h, _⟩ => nomatch h⟩
  | some a => exact W_some.trans ⟨fun k => ⟨a, rfl, k⟩, fun ⟨_, h, k⟩ => by cases h; exact k⟩
theorem W_mkv {m : M D} : W ((mk m).a s) KA ↔ W (m s) (KVl KA) := by
  rw [mk_a, W_bnd]
  exact ⟨fun h => W_mono h fun a s (k : W (some _) _) => (W_some (a := Ar.vl a)).mp k, fun h => W_mono h fun a s k => (W_some (a := Ar.vl a)).mpr k⟩
theorem W_mkt {m : M D} : W ((mk m).t s) KB ↔ W (m s) (KTru KB) := by
  rw [mk_t, W_bnd]
  exact Iff.rfl
theorem v_con : WV C (.con d) s K ↔ K d s := W_gives
theorem v_glob : WV C (.glob x d) s K ↔ K d s := W_gives
theorem v_var : WV C (.var i) s K ↔ KRd (s[i]?) i K s := by
  show W (rdV i s) K ↔ _
  unfold rdV KRd
  cases h : s[i]? with
  | none => exact W_none
  | some o => cases o with
    | none => exact W_none
    | some b => cases b <;> first | exact W_some | exact W_none
theorem W_cases {α : Type} {o : Option (α × S)} {K : α → S → Prop} {Q : Prop} (h1 : ∀ a s, o = some (a, s) → (K a s ↔ Q)) (h2 : o = none → ¬ Q) : W o K ↔ Q := by
  cases o with
  | none => exact W_none.trans ⟨False.elim, fun q => h2 rfl q⟩
  | some r => obtain ⟨a, s⟩ := r; exact W_some.trans (h1 a s rfl)
theorem v_op {k : Op} : WV C (.op k es) s K ↔ WAs C es s (KOp k K) := by
  show W (opM k (sem C es).as s) K ↔ _
  unfold opM
  rw [W_bnd]
  have key : ∀ (l : List Ar) (s : S), W ((fun (s : S) => match resAs s l with
    | none => none
    | some ds => match opD k ds with
      | none => none
      | some d => some (d, s)) s) K ↔ KOp k K l s := by
    intro l s
    unfold KOp KOp1 Wo
    simp only
    cases h1 : resAs s l with
    | none => simp [W_none]
    | some ds =>
      cases h2 : opD k ds with
      | none => simp [W_none, h2]
      | some d => simp [W_some, h2]
  exact ⟨fun h => W_mono h fun l s k => (key l s).mp k, fun h => W_mono h fun l s k => (key l s).mpr k⟩
theorem t_op {k : Op} : WT C (.op k es) s KB ↔ WAs C es s (KOp k (KTru KB)) := by
  show W (bnd (opM k (sem C es).as) (fun d => lift (truD d)) s) KB ↔ _
  rw [W_bnd]
  exact v_op
theorem v_not : WV C (.not a) s K ↔ WV C a s (KTru (KNotV K)) := by
  show W (bnd (sem C a).v (fun x => bnd (lift (truD x)) fun k => gives (.bool (!k))) s) K ↔ _
  rw [W_bnd]
  have key : ∀ (d : D) (s : S), W (bnd (lift (truD d)) (fun k => gives (PyData.bool (!k))) s) K ↔ KTru (KNotV K) d s := by
    intro d s
    rw [W_bnd]
    exact ⟨fun h => W_mono h fun k _ q => (W_some (a := PyData.bool (!k))).mp q, fun h => W_mono h fun k _ q => (W_some (a := PyData.bool (!k))).mpr q⟩
  exact ⟨fun h => W_mono h fun l s k => (key l s).mp k, fun h => W_mono h fun l s k => (key l s).mpr k⟩
theorem t_not : WT C (.not a) s KB ↔ WT C a s (KNotT KB) := by
  show W (bnd (sem C a).t (fun k => gives (!k)) s) KB ↔ _
  rw [W_bnd]
  exact ⟨fun h => W_mono h fun k _ q => (W_some (a := !k)).mp q, fun h => W_mono h fun k _ q => (W_some (a := !k)).mpr q⟩
theorem ite_iff {k : Bool} {A B : Prop} : (if k = true then A else B) ↔ ((k = true → A) ∧ (k = false → B)) := by cases k <;> simp
theorem W_congr {α : Type} {o : Option (α × S)} {K K' : α → S → Prop} (h : ∀ a s, K a s ↔ K' a s) : W o K ↔ W o K' :=
  ⟨fun q => W_mono q fun a s => (h a s).mp, fun q => W_mono q fun a s => (h a s).mpr⟩
theorem W_ite {α : Type} {k : Bool} {m n : M α} {K : α → S → Prop} : W ((if k = true then m else n) s) K ↔ ((k = true → W (m s) K) ∧ (k = false → W (n s) K)) := by cases k <;> simp
theorem v_and : WV C (.and a b) s K ↔ WV C a s (KAndV C b K) := by
  show W (bnd (sem C a).v (fun x => bnd (lift (truD x)) fun k => if k then (sem C b).v else gives x) s) K ↔ _
  rw [W_bnd]
  refine W_congr fun d s => ?_
  rw [W_bnd]
  refine W_congr fun k s => ?_
  rw [W_ite]
  simp only [W_gives]
  exact Iff.rfl
theorem v_or : WV C (.or a b) s K ↔ WV C a s (KOrV C b K) := by
  show W (bnd (sem C a).v (fun x => bnd (lift (truD x)) fun k => if k then gives x else (sem C b).v) s) K ↔ _
  rw [W_bnd]
  refine W_congr fun d s => ?_
  rw [W_bnd]
  refine W_congr fun k s => ?_
  rw [W_ite]
  simp only [W_gives]
  exact and_comm
theorem t_and' : WT C (.and a b) s KB ↔ WT C a s (KAndT C b KB) := by
  show W (bnd (sem C a).t (fun k => if k then (sem C b).t else gives false) s) KB ↔ _
  rw [W_bnd]
  refine W_congr fun k s => ?_
  rw [W_ite]
  simp only [W_gives]
  exact Iff.rfl
theorem t_or' : WT C (.or a b) s KB ↔ WT C a s (KOrT C b KB) := by
  show W (bnd (sem C a).t (fun k => if k then gives true else (sem C b).t) s) KB ↔ _
  rw [W_bnd]
  refine W_congr fun k s => ?_
  rw [W_ite]
  simp only [W_gives]
  exact and_comm
theorem v_chain {k l : Op} : WV C (.chain k l a b c) s K ↔ WV C a s (KCh1 C k l b c K) := by
  show W ((sem C (.chain k l a b c)).v s) K ↔ _
  rw [sem_chain, mk_v, W_bnd]
  refine W_congr fun x s => ?_
  rw [W_bnd]
  refine W_congr fun y s => ?_
  rw [W_bnd, W_lift]
  show (∃ r, op2 k x y = some r ∧ _) ↔ ∃ r, op2 k x y = some r ∧ _
  refine exists_congr fun r => and_congr_right fun _ => ?_
  unfold KCh3
  cases r with
  | bool k =>
    cases k with
    | false => simp [W_some]
    | true =>
      simp only [W_bnd, W_lift]
      constructor
      · intro h; exact ⟨true, rfl, fun _ => h, fun z => nomatch z⟩
      · rintro ⟨k, e, h, _⟩; cases e; exact h rfl
  | _ => simp [W_none]
theorem v_ife : WV C (.ife c a b) s K ↔ WT C c s (KIfV C a b K) := by
  show W (bnd (sem C c).t (fun k => if k then (sem C a).v else (sem C b).v) s) K ↔ _
  rw [W_bnd]
  exact W_congr fun k s => W_ite
theorem v_tup : WV C (.tup es) s K ↔ WAs C es s (KTup K) := by
  show W ((sem C (.tup es)).v s) K ↔ _
  rw [sem_tup, mk_v, W_bnd]
  refine W_congr fun l s => ?_
  rw [W_bnd, W_lift]
  refine exists_congr fun ds => and_congr_right fun _ => ?_
  by_cases h : ds.length ≤ sizeLine <;> simp [h, W_some, W_none, and_assoc]
theorem v_lst : WV C (.lst es) s K ↔ WAs C es s (KLst K) := by
  show W ((sem C (.lst es)).v s) K ↔ _
  rw [sem_lst, mk_v, W_bnd]
  refine W_congr fun l s => ?_
  rw [W_bnd, W_lift]
  refine exists_congr fun ds => and_congr_right fun _ => ?_
  by_cases h : ds.length ≤ sizeLine <;> simp [h, W_some, W_none, and_assoc]
theorem v_dct0 : WV C .dct0 s K ↔ K (.dict []) s := W_gives
theorem v_dct1 : WV C (.dct1 a b) s K ↔ WV C a s (KDct1 C b K) := by
  show W ((sem C (.dct1 a b)).v s) K ↔ _
  rw [sem_dct1, mk_v, W_bnd]
  refine W_congr fun x s => ?_
  rw [W_bnd]
  refine W_congr fun y s => ?_
  unfold KDct2
  cases keyOf x <;> simp [W_some, W_none, and_assoc]
theorem v_call : WV C (.call f pm es) s K ↔ WAs C es s (KCall C f pm K) := by
  show W ((sem C (.call f pm es)).v s) K ↔ _
  rw [sem_call, mk_v, callM_run, W_bnd]
  refine W_congr fun l s => ?_
  unfold KCall KCall2 KCall3 Wc KRet KBk
  cases permL pm l with
  | none => simp [W_none]
  | some l' =>
    simp only
    cases h1 : resAs s l' with
    | none => simp [W_none, h1]
    | some ds =>
      simp only
      cases h2 : C f ds with
      | none => simp [W_none, h2, h1]
      | some r =>
        obtain ⟨r, ls⟩ := r
        simp only
        cases h3 : backS l' ls s with
        | none => simp [W_none, h2, h1, h3]
        | some s' => simp [W_some, h2, h1, h3, and_assoc]
theorem v_mu {m : Mu} : WV C (.mu m i es) s K ↔ (isListA s (.ln i) .list = true ∧ WAs C es s (KMu m i K)) := by
  show W (muM m i (sem C es).as s) K ↔ _
  unfold muM
  by_cases h0 : isListA s (.ln i) .list = true
  · rw [if_pos h0]
    simp only [h0, true_and]
    show W (match (sem C es).as s with
    | none => none
    | some (l, s) => _) K ↔ W ((sem C es).as s) _
    cases (sem C es).as s with
    | none => simp [W_none]
    | some r =>
      obtain ⟨l, s⟩ := r
      simp only [W_some]
      unfold KMu KMu1 KMu2 KBk
      cases h1 : valsA l with
      | none => simp [W_none]
      | some ds =>
        cases h2 : resA s (.ln i) with
        | none => simp [W_none]
        | some x =>
          simp only
          cases h3 : muD m x ds with
          | none => simp [W_none, h3]
          | some r =>
            obtain ⟨r, x'⟩ := r
            simp only
            cases h4 : mutS i x' s with
            | none => simp [W_none, h3, -mutS_run, and_assoc, h4]
            | some s' => simp [W_some, h3, -mutS_run, and_assoc, h4]
  · rw [if_neg h0]
    simp [W_none, h0]
theorem v_mt {m : Mt} : WV C (.mt m o es) s K ↔ WA C o s (KMt1 C m es K) := by
  show W (mtM m (sem C o).a (sem C es).as s) K ↔ _
  unfold mtM
  rw [W_bnd]
  refine W_congr fun a s => ?_
  unfold KMt1
  by_cases h0 : isListA s a m.ty = true
  · rw [if_pos h0]
    simp only [h0, true_and]
    show W (match (sem C es).as s with
    | none => none
    | some (l, s) => _) K ↔ W ((sem C es).as s) _
    cases (sem C es).as s with
    | none => simp [W_none]
    | some r =>
      obtain ⟨l, s⟩ := r
      simp only [W_some]
      unfold KMt2 KMt3 Wo
      cases h1 : resA s a with
      | none => simp [W_none]
      | some x =>
        cases h2 : resAs s l with
        | none => simp [W_none]
        | some ds =>
          simp only
          cases h3 : mtD m x ds with
          | none => simp [W_none, h3]
          | some r => simp [W_some, h3]
  · rw [if_neg h0]
    simp [W_none, h0]
theorem v_sl2 : WV C (.sl2 a lo hi) s K ↔ WA C a s (KSl1 C lo hi K) := by
  show W ((sem C (.sl2 a lo hi)).v s) K ↔ _
  rw [sem_sl2, mk_v, W_bnd]
  refine W_congr fun x s => ?_
  rw [W_bnd]
  refine W_congr fun l s => ?_
  rw [W_bnd, W_lift]
  refine exists_congr fun i => and_congr_right fun _ => ?_
  rw [W_bnd]
  refine W_congr fun h s => ?_
  rw [W_bnd, W_lift]
  refine exists_congr fun j => and_congr_right fun _ => ?_
  unfold KSl4 Wo
  cases h1 : resA s x with
  | none => simp [W_none, h1]
  | some d =>
    simp only [h1]
    cases h2 : opSl (some i) (some j) d with
    | none => simp [W_none, h2]
    | some r => simp [W_some, h2]
theorem v_comp : WV C (.comp e t it ifs) s K ↔ WI C it s (KComp C e t ifs K) := by
  show W (compM t (sem C it).it (sem C ifs).ts (sem C e).v s) K ↔ W ((sem C it).it s) _
  unfold compM
  cases (sem C it).it s with
  | none => simp [W_none]
  | some r =>
    obtain ⟨ds, s1⟩ := r
    simp only [W_some]
    unfold KComp
    by_cases h : t.slots.all (plainS s1) = true
    · simp only [h, if_true, true_and]
      cases compLoop t (sem C ifs).ts (sem C e).v ds [] s1 with
      | none => simp [W_none]
      | some r => obtain ⟨ys, s2⟩ := r; simp [W_some, and_assoc]
    · simp only [h]
      simp [W_none]
theorem v_dcomp : WV C (.dcomp a b t it ifs) s K ↔ WI C it s (KDComp C a b t ifs K) := by
  show W (dcompM t (sem C it).it (sem C ifs).ts (sem C a).v (sem C b).v s) K ↔ W ((sem C it).it s) _
  unfold dcompM
  cases (sem C it).it s with
  | none => simp [W_none]
  | some r =>
    obtain ⟨ds, s1⟩ := r
    simp only [W_some]
    unfold KDComp
    by_cases h : t.slots.all (plainS s1) = true
    · simp only [h, if_true, true_and]
      cases dcompLoop t (sem C ifs).ts (sem C a).v (sem C b).v ds [] s1 with
      | none => simp [W_none]
      | some r => obtain ⟨ys, s2⟩ := r; simp [W_some, and_assoc]
    · simp only [h]
      simp [W_none]
/-! operands -/
theorem a_pk : WA C (.pk i) s KA ↔ KSlot (resA s (.pl i)) (.pl i) KA s := by
  show W (slotA (.pl i) s) KA ↔ _
  unfold slotA KSlot
  cases resA s (.pl i) <;> simp [W_some, W_none]
theorem a_lend : WA C (.lend i) s KA ↔ KSlot (resA s (.ln i)) (.ln i) KA s := by
  show W (slotA (.ln i) s) KA ↔ _
  unfold slotA KSlot
  cases resA s (.ln i) <;> simp [W_some, W_none]
theorem a_give : WA C (.give e) s KA ↔ WV C e s (KGive KA) := by
  show W (bnd (sem C e).v (fun d => if newObj d then gives (.ow d) else fails) s) KA ↔ _
  rw [W_bnd]
  refine W_congr fun d s => ?_
  unfold KGive
  by_cases h : newObj d = true <;> simp [h, W_some, W_none, and_assoc]
theorem a_con : WA C (.con d) s KA ↔ KA (.vl d) s := W_mkv.trans W_gives
theorem a_glob : WA C (.glob x d) s KA ↔ KA (.vl d) s := W_mkv.trans W_gives
theorem a_var : WA C (.var i) s KA ↔ WV C (.var i) s (KVl KA) := W_mkv
theorem a_op {k : Op} : WA C (.op k es) s KA ↔ WV C (.op k es) s (KVl KA) := W_mkv
theorem a_not : WA C (.not a) s KA ↔ WV C (.not a) s (KVl KA) := W_mkv
theorem a_and : WA C (.and a b) s KA ↔ WV C (.and a b) s (KVl KA) := W_mkv
theorem a_or : WA C (.or a b) s KA ↔ WV C (.or a b) s (KVl KA) := W_mkv
theorem a_chain {k l : Op} : WA C (.chain k l a b c) s KA ↔ WV C (.chain k l a b c) s (KVl KA) := W_mkv
theorem a_ife : WA C (.ife c a b) s KA ↔ WV C (.ife c a b) s (KVl KA) := W_mkv
theorem a_tup : WA C (.tup es) s KA ↔ WV C (.tup es) s (KVl KA) := W_mkv
theorem a_lst : WA C (.lst es) s KA ↔ WV C (.lst es) s (KVl KA) := W_mkv
theorem a_dct0 : WA C .dct0 s KA ↔ WV C .dct0 s (KVl KA) := W_mkv
theorem a_dct1 : WA C (.dct1 a b) s KA ↔ WV C (.dct1 a b) s (KVl KA) := W_mkv
theorem a_call : WA C (.call f pm es) s KA ↔ WV C (.call f pm es) s (KVl KA) := W_mkv
theorem a_mu {m : Mu} : WA C (.mu m i es) s KA ↔ WV C (.mu m i es) s (KVl KA) := W_mkv
theorem a_mt {m : Mt} : WA C (.mt m o es) s KA ↔ WV C (.mt m o es) s (KVl KA) := W_mkv
theorem a_sl2 : WA C (.sl2 a lo hi) s KA ↔ WV C (.sl2 a lo hi) s (KVl KA) := W_mkv
theorem a_dcomp : WA C (.dcomp a b t it ifs) s KA ↔ WV C (.dcomp a b t it ifs) s (KVl KA) := W_mkv
theorem a_comp : WA C (.comp e t it ifs) s KA ↔ WV C (.comp e t it ifs) s (KVl KA) := W_mkv
theorem t_con : WT C (.con d) s KB ↔ KTru KB d s := W_mkt.trans W_gives
theorem t_glob : WT C (.glob x d) s KB ↔ KTru KB d s := W_mkt.trans W_gives
theorem t_var : WT C (.var i) s KB ↔ WV C (.var i) s (KTru KB) := W_mkt
theorem t_chain {k l : Op} : WT C (.chain k l a b c) s KB ↔ WV C (.chain k l a b c) s (KTru KB) := W_mkt
theorem t_call : WT C (.call f pm es) s KB ↔ WV C (.call f pm es) s (KTru KB) := W_mkt
theorem t_mt {m : Mt} : WT C (.mt m o es) s KB ↔ WV C (.mt m o es) s (KTru KB) := W_mkt
theorem t_sl2 : WT C (.sl2 a lo hi) s KB ↔ WV C (.sl2 a lo hi) s (KTru KB) := W_mkt
theorem t_comp : WT C (.comp e t it ifs) s KB ↔ WV C (.comp e t it ifs) s (KTru KB) := W_mkt
theorem t_tup : WT C (.tup es) s KB ↔ WV C (.tup es) s (KTru KB) := W_mkt
theorem t_lst : WT C (.lst es) s KB ↔ WV C (.lst es) s (KTru KB) := W_mkt
theorem t_pk : WT C (.pk i) s KB ↔ ∃ d, resA s (.pl i) = some d ∧ KTru KB d s := by
  show W ((sem C (.pk i)).t s) KB ↔ _
  rw [sem_pk_t]
  cases h : resA s (.pl i) with
  | none => simp [W_none]
  | some d =>
    simp only [Option.some.injEq, exists_eq_left']
    unfold KTru
    rw [W_lift]
    cases truD d <;> simp [W_none, W_some]
theorem as_nil : WAs C .nil s KL ↔ KL [] s := W_gives
theorem as_cons : WAs C (.cons e es) s KL ↔ WA C e s (KAs C es KL) := by
  show W ((sem C (.cons e es)).as s) KL ↔ _
  rw [sem_cons_as, W_bnd]
  refine W_congr fun x s => ?_
  rw [W_bnd]
  exact W_congr fun l s => W_gives
theorem ts_nil : WTs C .nil s KB ↔ KB true s := W_gives
theorem ts_cons : WTs C (.cons e es) s KB ↔ WT C e s (KTs C es KB) := by
  show W ((sem C (.cons e es)).ts s) KB ↔ _
  rw [sem_cons_ts, W_bnd]
  refine W_congr fun k s => ?_
  rw [W_ite]
  simp only [W_gives]
  exact Iff.rfl
/-! what is walked -/
theorem i_of : WI C (.itOf e) s KI ↔ WV C e s (KWalk KI) := by
  show W (bnd (sem C e).v (fun d => lift (walkOf d)) s) KI ↔ _
  rw [W_bnd]
  exact W_congr fun d s => W_lift
theorem i_range : WI C (.itRange es) s KI ↔ WAs C es s (KRg KI) := by
  show W ((sem C (.itRange es)).it s) KI ↔ _
  rw [sem_itRange, W_bnd]
  refine W_congr fun l s => ?_
  rw [W_bnd, W_lift]
  unfold KRg KRg1
  cases valsA l with
  | none => simp
  | some ds =>
    simp only [Option.some.injEq, exists_eq_left']
    split
    · rename_i n
      by_cases h : smallI n = true <;> simp [h, W_some, W_none, and_assoc]
    · rename_i a b
      by_cases h : smallI a = true <;> by_cases h' : smallI b = true <;> simp [h, h', W_some, W_none, and_assoc]
    · rename_i h1 h2
      rw [W_fails]
      constructor
      · exact False.elim
      · rintro (⟨n, h, _⟩ | ⟨a, b, h, _⟩)
        · exact h1 n h
        · exact h2 a b h
theorem i_enum : WI C (.itEnum e) s KI ↔ WV C e s (KEnum KI) := by
  show W ((sem C (.itEnum e)).it s) KI ↔ _
  rw [sem_itEnum, W_bnd]
  refine W_congr fun d s => ?_
  unfold KEnum
  cases d <;> simp [W_some, W_none, and_assoc]
theorem i_zip : WI C (.itZip es) s KI ↔ WAs C es s (KZip KI) := by
  show W ((sem C (.itZip es)).it s) KI ↔ _
  rw [sem_itZip, W_bnd]
  refine W_congr fun l s => ?_
  rw [W_bnd, W_lift]
  unfold KZip KZip1
  cases valsA l with
  | none => simp
  | some ds =>
    simp only [Option.some.injEq, exists_eq_left']
    split
    · rename_i xs ys
      rw [W_gives]
      exact ⟨fun h => ⟨xs, ys, .inl rfl, h⟩, fun ⟨_, _, e, h⟩ => by rcases e with e | e <;> cases e; exact h⟩
    · rename_i xs ys
      rw [W_gives]
      exact ⟨fun h => ⟨xs, ys, .inr rfl, h⟩, fun ⟨_, _, e, h⟩ => by rcases e with e | e <;> cases e; exact h⟩
    · rename_i h1 h2
      rw [W_fails]
      constructor
      · exact False.elim
      · rintro ⟨xs, ys, h | h, _⟩
        · exact h1 xs ys h
        · exact h2 xs ys h
theorem i_vals : WI C (.itVals e) s KI ↔ WV C e s (KVals KI) := by
  show W (bnd (sem C e).v (fun d => match d with
      | .dict kvs => gives (kvs.map (·.2))
      | _ => fails) s) KI ↔ _
  rw [W_bnd]
  refine W_congr fun d s => ?_
  unfold KVals
  cases d <;> simp [W_some, W_none, and_assoc]
theorem i_items : WI C (.itItems e) s KI ↔ WV C e s (KItems KI) := by
  show W (bnd (sem C e).v (fun d => match d with
      | .dict kvs => gives (kvs.map fun kv => .tuple [kv.1, kv.2])
      | _ => fails) s) KI ↔ _
  rw [W_bnd]
  refine W_congr fun d s => ?_
  unfold KItems
  cases d <;> simp [W_some, W_none, and_assoc]
/-! statements -/
theorem s_set : WS w C (.set i e) s KF ↔ WV C e s (KSet i KF) := by
  show W (stm w C (.set i e) s) KF ↔ _
  rw [stm_set, W_bnd]
  refine W_congr fun d s => ?_
  unfold KSet KPut
  cases putS i (.val d) s <;> simp [W_none, W_some]
theorem s_seto : WS w C (.seto i e) s KF ↔ WV C e s (KSeto i KF) := by
  show W (stm w C (.seto i e) s) KF ↔ _
  rw [stm_seto, W_bnd]
  refine W_congr fun d s => ?_
  unfold KSeto KPut
  by_cases h : newObj d = true
  · cases h2 : putS i (.own d) s with
    | none => rw [if_pos h]; simp only [h2]; simp [W_none]
    | some s' => rw [if_pos h]; simp only [h2]; simp [W_some, h]
  · rw [if_neg h]; simp [W_none, h]
theorem s_par : WS w C (.par is es) s KF ↔ WAs C es s (KPar is KF) := by
  show W (stm w C (.par is es) s) KF ↔ _
  rw [stm_par, W_bnd]
  refine W_congr fun l s => ?_
  unfold KPar KPar1 KPut
  cases bsOf l with
  | none => simp [W_none]
  | some bs =>
    by_cases h : bs.length = is.length
    · cases h2 : putAll (is.zip bs) s with
      | none => simp only [h, if_true, h2]; simp [W_none, h2]
      | some s' => simp only [h, if_true, h2]; simp [W_some, h, h2]
    · simp only [h, if_false]; simp [W_none, h]
theorem s_unp : WS w C (.unp is e) s KF ↔ WV C e s (KUnp is KF) := by
  show W (stm w C (.unp is e) s) KF ↔ _
  rw [stm_unp, W_bnd]
  refine W_congr fun d s => ?_
  unfold KUnp KPut
  cases bindT (.tp is) d s <;> simp [W_none, W_some]
theorem s_sub : WS w C (.sub i a e) s KF ↔ WV C e s (KSub1 C i a KF) := by
  show W (stm w C (.sub i a e) s) KF ↔ _
  rw [stm_sub, W_bnd]
  refine W_congr fun d s => ?_
  unfold KSub1
  rw [W_bnd, slotA_run]
  cases h : resA s (.ln i) with
  | none => simp [W_none]
  | some y =>
    simp only [W_some, Option.isSome_some, true_and]
    rw [W_bnd]
    refine W_congr fun kd s => ?_
    unfold KSub2 KSub3 KSub4 KPut
    cases h1 : resA s (.ln i) with
    | none => simp [W_none]
    | some x =>
      simp only
      cases h2 : subD x kd d with
      | none => simp [W_none, h2]
      | some x' =>
        simp only
        cases h3 : mutS i x' s <;> simp [W_none, W_some, h2, -mutS_run, h3]
theorem s_aug {k : Op} : WS w C (.aug i k e) s KF ↔ WV C (.var i) s (KAug C i k e KF) := by
  show W (stm w C (.aug i k e) s) KF ↔ _
  rw [stm_aug, W_bnd]
  refine W_congr fun x s => ?_
  rw [W_bnd]
  refine W_congr fun y s => ?_
  rw [W_bnd, W_lift]
  refine exists_congr fun z => and_congr_right fun _ => ?_
  unfold KSet KPut
  cases putS i (.val z) s <;> simp [W_none, W_some]
theorem s_expr : WS w C (.expr e) s KF ↔ WV C e s (KExpr KF) := by
  show W (stm w C (.expr e) s) KF ↔ _
  rw [stm_expr, W_bnd]
  exact W_congr fun d s => W_gives
theorem s_ret : WS w C (.ret e) s KF ↔ WV C e s (KRtn KF) := by
  show W (stm w C (.ret e) s) KF ↔ _
  rw [stm_ret, W_bnd]
  exact W_congr fun d s => W_gives
theorem s_reto : WS w C (.reto e) s KF ↔ WV C e s (KRto KF) := by
  show W (stm w C (.reto e) s) KF ↔ _
  rw [stm_reto, W_bnd]
  refine W_congr fun d s => ?_
  unfold KRto
  by_cases h : newObj d = true <;> simp [h, W_some, W_none, and_assoc]
theorem s_retv : WS w C (.retv i) s KF ↔ KRtv (s[i]?) i KF s := by
  show W (stm w C (.retv i) s) KF ↔ _
  rw [stm_retv]
  unfold KRtv
  cases h : s[i]? with
  | none => simp [W_none]
  | some o => cases o with
    | none => simp [W_none]
    | some b => cases b <;> simp [W_none, W_some]
theorem s_retn : WS w C .retn s KF ↔ KF (.rt false .none) s := W_gives
theorem s_ife : WS w C (.ife c p q) s KF ↔ WT C c s (KIf w C p q KF) := by
  show W (stm w C (.ife c p q) s) KF ↔ _
  rw [stm_ife, W_bnd]
  exact W_congr fun k s => W_ite
theorem s_for : WS w C (.for_ t it p) s KF ↔ WI C it s (KFor w C t p KF) := by
  show W (stm w C (.for_ t it p) s) KF ↔ _
  rw [stm_for, W_bnd]
  exact Iff.rfl
theorem s_while : WS w C (.while_ c p) s KF ↔ KWhile w C c p KF s := Iff.rfl
theorem s_pass : WS w C .pass s KF ↔ KF .nx s := W_gives
theorem s_brk : WS w C .brk s KF ↔ KF .bk s := W_gives
theorem s_cont : WS w C .cont s KF ↔ KF .ct s := W_gives
theorem s_nil : WS w C .nil s KF ↔ KF .nx s := W_gives
theorem s_cons : WS w C (.cons p q) s KF ↔ WS w C p s (KSeq w C q KF) := by
  show W (stm w C (.cons p q) s) KF ↔ _
  rw [stm_cons, W_bnd]
  refine W_congr fun f s => ?_
  cases f <;> first | exact Iff.rfl | exact W_gives
end

/-! ### the frames worked out -/
section
variable {C : Calls} {w : Nat} {s s' : S} {d d' r : D} {z : Str} {i j f : Nat} {k l : Int} {bb : Bool} {ar : Ar} {e es a b c : Ex} {p q : Sx} {ds xs ys ls : List D} {al : List Ar} {is : List Nat} {bs : List B} {o : Op} {kvs : List (D × D)}
  {K : D → S → Prop} {KB : Bool → S → Prop} {KA : Ar → S → Prop} {KL : List Ar → S → Prop} {KI : List D → S → Prop} {KF : Fl → S → Prop} {R : D → List D → Prop}
theorem ex_some {α : Type} {x : α} {Q : α → Prop} : (∃ y, some x = some y ∧ Q y) ↔ Q x := by simp
theorem k_rdv : KRd (some (some (.val d))) i K s ↔ K d s := Iff.rfl
theorem k_rdo : KRd (some (some (.own d))) i K s ↔ K d (s.set i (some (.val d))) := Iff.rfl
theorem k_vl : KVl KA d s ↔ KA (.vl d) s := Iff.rfl
theorem k_trub : KTru KB (.bool bb) s ↔ KB bb s := W_some
theorem k_trun : KTru KB .none s ↔ KB false s := W_some
theorem k_trui : KTru KB (.int k) s ↔ KB (k != 0) s := W_some
theorem k_trul : KTru KB (.list xs) s ↔ KB (!xs.isEmpty) s := W_some
theorem k_trut : KTru KB (.tuple xs) s ↔ KB (!xs.isEmpty) s := W_some
theorem k_give : KGive KA d s ↔ (newObj d = true ∧ KA (.ow d) s) := Iff.rfl
theorem k_slot : KSlot (some d) ar KA s ↔ KA ar s := by simp [KSlot]
theorem k_op : KOp o K al s ↔ KOp1 o K (resAs s al) s := Iff.rfl
theorem k_op1 : KOp1 o K (some [d]) s ↔ Wo (op1 o d) K s := ex_some
theorem k_op2 : KOp1 o K (some [d, d']) s ↔ Wo (op2 o d d') K s := ex_some
theorem k_as : KAs C es KL ar s ↔ WAs C es s (KAs2 ar KL) := Iff.rfl
theorem k_as2 : KAs2 ar KL al s ↔ KL (ar :: al) s := Iff.rfl
theorem k_tst : KTs C es KB true s ↔ WTs C es s KB := by simp [KTs]
theorem k_tsf : KTs C es KB false s ↔ KB false s := by simp [KTs]
theorem k_notV : KNotV K bb s ↔ K (.bool (!bb)) s := Iff.rfl
theorem k_notT : KNotT KB bb s ↔ KB (!bb) s := Iff.rfl
theorem k_andTt : KAndT C b KB true s ↔ WT C b s KB := by simp [KAndT]
theorem k_andTf : KAndT C b KB false s ↔ KB false s := by simp [KAndT]
theorem k_orTt : KOrT C b KB true s ↔ KB true s := by simp [KOrT]
theorem k_orTf : KOrT C b KB false s ↔ WT C b s KB := by simp [KOrT]
theorem k_andV : KAndV C b K d s ↔ KTru (KAndV1 C b K d) d s := Iff.rfl
theorem k_orV : KOrV C b K d s ↔ KTru (KOrV1 C b K d) d s := Iff.rfl
theorem k_andVt : KAndV1 C b K d true s ↔ WV C b s K := by simp [KAndV1]
theorem k_andVf : KAndV1 C b K d false s ↔ K d s := by simp [KAndV1]
theorem k_orVt : KOrV1 C b K d true s ↔ K d s := by simp [KOrV1]
theorem k_orVf : KOrV1 C b K d false s ↔ WV C b s K := by simp [KOrV1]
theorem k_ifVt : KIfV C a b K true s ↔ WV C a s K := by simp [KIfV]
theorem k_ifVf : KIfV C a b K false s ↔ WV C b s K := by simp [KIfV]
theorem k_ift : KIf w C p q KF true s ↔ WS w C p s KF := by simp [KIf]
theorem k_iff : KIf w C p q KF false s ↔ WS w C q s KF := by simp [KIf]
theorem k_ch1 {o o' : Op} : KCh1 C o o' b c K d s ↔ WV C b s (KCh2 C o o' c d K) := Iff.rfl
theorem k_ch2 {o o' : Op} : KCh2 C o o' c d K d' s ↔ Wo (op2 o d d') (KCh3 C o' c d' K) s := Iff.rfl
theorem k_ch3t : KCh3 C o c d K (.bool true) s ↔ WV C c s (KCh4 o d K) := by simp [KCh3]
theorem k_ch3f : KCh3 C o c d K (.bool false) s ↔ K (.bool false) s := by simp [KCh3]
theorem k_ch4 : KCh4 o d K d' s ↔ Wo (op2 o d d') K s := Iff.rfl
theorem k_tup : KTup K al s ↔ KTup1 K (valsA al) s := Iff.rfl
theorem k_tup1 : KTup1 K (some ds) s ↔ (ds.length ≤ sizeLine ∧ K (.tuple ds) s) := ex_some
theorem k_lst : KLst K al s ↔ KLst1 K (valsA al) s := Iff.rfl
theorem k_lst1 : KLst1 K (some ds) s ↔ (ds.length ≤ sizeLine ∧ K (.list ds) s) := ex_some
theorem k_dct1 : KDct1 C b K d s ↔ WV C b s (KDct2 d K) := Iff.rfl
theorem k_dct2i : KDct2 (.int k) K d s ↔ K (.dict [(.int k, d)]) s := by simp [KDct2, keyOf]
theorem k_dct2s : KDct2 (.str z) K d s ↔ K (.dict [(.str z, d)]) s := by simp [KDct2, keyOf]
theorem k_bk : KBk (some s') K r ↔ K r s' := ex_some
theorem k_ret : KRet al K s r ls ↔ KBk (backS al ls s) K r := Iff.rfl
theorem k_call3 : KCall3 C f K al (some ds) s ↔ Wc (C f ds) (KRet al K s) := ex_some
theorem k_call2 : KCall2 C f K (some al) s ↔ KCall3 C f K al (resAs s al) s := ex_some
theorem k_call : KCall C f is K al s ↔ KCall2 C f K (permL is al) s := Iff.rfl
theorem k_mu2 : KMu2 i (some (r, d)) K s ↔ KBk (mutS i d s) K r := by simp [KMu2, and_assoc, -mutS_run]
theorem k_mu2if {c : Prop} [Decidable c] {x : Option (D × D)} : KMu2 i (if c then x else none) K s ↔ (c ∧ KMu2 i x K s) := by
  by_cases h : c <;> simp [h, KMu2]
theorem k_mu1 {m : Mu} : KMu1 m i K (some ds) (some d) s ↔ KMu2 i (muD m d ds) K s := by simp [KMu1]
theorem k_mu {m : Mu} : KMu m i K al s ↔ KMu1 m i K (valsA al) (resA s (.ln i)) s := Iff.rfl
theorem k_mt3 {m : Mt} : KMt3 m K (some d) (some ds) s ↔ Wo (mtD m d ds) K s := by simp [KMt3]
theorem k_mt2 {m : Mt} : KMt2 m ar K al s ↔ KMt3 m K (resA s ar) (resAs s al) s := Iff.rfl
theorem k_mt1 {m : Mt} : KMt1 C m es K ar s ↔ (isListA s ar m.ty = true ∧ WAs C es s (KMt2 m ar K)) := Iff.rfl
theorem k_sl4 : KSl4 k l K (some d) s ↔ Wo (opSl (some k) (some l) d) K s := ex_some
theorem k_sl3 : KSl3 ar k K (.int l) s ↔ KSl4 k l K (resA s ar) s := by simp [KSl3]
theorem k_sl2 : KSl2 C e ar K (.int k) s ↔ WV C e s (KSl3 ar k K) := by simp [KSl2]
theorem k_sl1 : KSl1 C a b K ar s ↔ WV C a s (KSl2 C b ar K) := Iff.rfl
theorem k_walkl : KWalk KI (.list xs) s ↔ KI xs s := by simp [KWalk]
theorem k_walkt : KWalk KI (.tuple xs) s ↔ KI xs s := by simp [KWalk]
theorem k_walkd : KWalk KI (.dict kvs) s ↔ KI (kvs.map (·.1)) s := by simp [KWalk, walkOf]
theorem k_rg : KRg KI al s ↔ KRg1 KI (valsA al) s := Iff.rfl
theorem k_rg1 : KRg1 KI (some [.int k]) s ↔ (smallI k = true ∧ KI (rgD k) s) := by simp [KRg1]
theorem k_rg2 : KRg1 KI (some [.int k, .int l]) s ↔ (smallI k = true ∧ smallI l = true ∧ KI (rgD2 k l) s) := by simp [KRg1, and_assoc]
theorem k_enum : KEnum KI (.list xs) s ↔ KI (enumD 0 xs) s := by simp [KEnum]
theorem k_zip : KZip KI al s ↔ KZip1 KI (valsA al) s := Iff.rfl
theorem k_zipl : KZip1 KI (some [.list xs, .list ys]) s ↔ KI (zipD xs ys) s := by simp [KZip1, and_assoc]
theorem k_zipt : KZip1 KI (some [.tuple xs, .tuple ys]) s ↔ KI (zipD xs ys) s := by simp [KZip1, and_assoc]
theorem k_vals : KVals KI (.dict kvs) s ↔ KI (kvs.map (·.2)) s := by simp [KVals]
theorem k_items : KItems KI (.dict kvs) s ↔ KI (kvs.map fun kv => .tuple [kv.1, kv.2]) s := by simp [KItems]
theorem k_put : KPut (some s) KF ↔ KF .nx s := ex_some
theorem k_set : KSet i KF d s ↔ KPut (putS i (.val d) s) KF := Iff.rfl
theorem k_seto : KSeto i KF d s ↔ (newObj d = true ∧ KPut (putS i (.own d) s) KF) := Iff.rfl
theorem k_par : KPar is KF al s ↔ KPar1 is KF (bsOf al) s := Iff.rfl
theorem k_par1 : KPar1 is KF (some bs) s ↔ (bs.length = is.length ∧ KPut (putAll (is.zip bs) s) KF) := ex_some
theorem k_unp : KUnp is KF d s ↔ KPut (bindT (.tp is) d s) KF := Iff.rfl
theorem k_sub4 : KSub4 i KF (some d) s ↔ KPut (mutS i d s) KF := ex_some
theorem k_sub4if {c : Prop} [Decidable c] {x : Option D} : KSub4 i KF (if c then x else none) s ↔ (c ∧ KSub4 i KF x s) := by
  by_cases h : c <;> simp [h, KSub4]
theorem k_sub3 {x : D} : KSub3 i d d' KF (some x) s ↔ KSub4 i KF (subD x d' d) s := ex_some
theorem k_sub2 : KSub2 i d KF d' s ↔ KSub3 i d d' KF (resA s (.ln i)) s := Iff.rfl
theorem k_sub1 : KSub1 C i e KF d s ↔ ((resA s (.ln i)).isSome = true ∧ WV C e s (KSub2 i d KF)) := Iff.rfl
theorem k_aug2 : KAug2 i o d KF d' s ↔ Wo (augD o d d') (KSet i KF) s := Iff.rfl
theorem k_aug : KAug C i o e KF d s ↔ WV C e s (KAug2 i o d KF) := Iff.rfl
theorem k_expr : KExpr KF d s ↔ KF .nx s := Iff.rfl
theorem k_rtn : KRtn KF d s ↔ KF (.rt false d) s := Iff.rfl
theorem k_rto : KRto KF d s ↔ (newObj d = true ∧ KF (.rt true d) s) := Iff.rfl
theorem k_rtv : KRtv (some (some (.own d))) i KF s ↔ KF (.rt true d) (s.set i none) := by simp [KRtv]
theorem k_seqn : KSeq w C q KF .nx s ↔ WS w C q s KF := Iff.rfl
theorem k_seqb : KSeq w C q KF .bk s ↔ KF .bk s := Iff.rfl
theorem k_seqc : KSeq w C q KF .ct s ↔ KF .ct s := Iff.rfl
theorem k_seqr : KSeq w C q KF (.rt bb d) s ↔ KF (.rt bb d) s := Iff.rfl
theorem k_finr {ow : Bool} {ms : List Bool} : KFin ow ms R (.rt bb d) s ↔ (bb = ow ∧ KFin2 R d (lentsOf ms s)) := Iff.rfl
theorem k_finn {ow : Bool} {ms : List Bool} : KFin ow ms R .nx s ↔ (ow = false ∧ KFin2 R .none (lentsOf ms s)) := Iff.rfl
theorem k_fin2 : KFin2 R d (some ls) ↔ R d ls := ex_some
theorem l_nil : lentsOf [] s = some [] := rfl
theorem l_f {ms : List Bool} {o : Option B} : lentsOf (false :: ms) (o :: s) = lentsOf ms s := rfl
theorem l_t {ms : List Bool} : lentsOf (true :: ms) (some (.lent d) :: s) = (match lentsOf ms s with
      | some ds => some (d :: ds)
      | none => none) := rfl
theorem lent_plain {x : Option B} (h : isPlain x = true) : isLent x = false := by
  cases x with
  | none => rfl
  | some b => cases b <;> first | rfl | cases h
end
/-! ### rules -/
/-- a def -/
theorem fn_rule {T : List FnI} {w n f : Nat} {fi : FnI} {ds : List D} {R : D → List D → Prop} (h : T[f]? = some fi) (hn : 1 ≤ n) (hl : ds.length = fi.modes.length) (k : WS w (run T w (n - 1)) fi.body (startS fi ds) (KFin fi.own fi.modes R)) : Wc (run T w n f ds) R := by
  rw [run_at' h hn hl]
  obtain ⟨f, s, e, k⟩ := k
  rw [e]
  unfold Wc endD
  cases f with
  | nx =>
    obtain ⟨h1, ls, h2, h3⟩ := k
    exact ⟨.none, ls, by simp [h1, h2], h3⟩
  | rt o d =>
    obtain ⟨h1, ls, h2, h3⟩ := k
    exact ⟨d, ls, by simp [h1, h2], h3⟩
  | bk => exact k.elim
  | ct => exact k.elim
/-- what a loop's body owes -/
def KBody (P : S → Prop) (K : Fl → S → Prop) (f : Fl) (s : S) : Prop := match f with
  | .nx => P s
  | .ct => P s
  | .bk => K .nx s
  | .rt o d => K (.rt o d) s
theorem k_bodyn {P : S → Prop} {K : Fl → S → Prop} {s : S} : KBody P K .nx s ↔ P s := Iff.rfl
theorem k_bodyc {P : S → Prop} {K : Fl → S → Prop} {s : S} : KBody P K .ct s ↔ P s := Iff.rfl
theorem k_bodyb {P : S → Prop} {K : Fl → S → Prop} {s : S} : KBody P K .bk s ↔ K .nx s := Iff.rfl
theorem k_bodyr {P : S → Prop} {K : Fl → S → Prop} {s : S} {o : Bool} {d : D} : KBody P K (.rt o d) s ↔ K (.rt o d) s := Iff.rfl
def KBind (o : Option S) (K : S → Prop) : Prop := ∃ s, o = some s ∧ K s
theorem k_bind {s : S} {K : S → Prop} : KBind (some s) K ↔ K s := by simp [KBind]
theorem for_rule {w : Nat} {C : Calls} {t : Tg} {b : Sx} {K : Fl → S → Prop} (P : Nat → S → Prop) : ∀ {ds : List D} {s : S} (i : Nat),
    P i s → (∀ j d s, ds[j]? = some d → P (i + j) s → KBind (bindT t d s) fun s1 => WS w C b s1 (KBody (P (i + j + 1)) K)) → (∀ s, P (i + ds.length) s → K .nx s) → KFor w C t b K ds s
  | [], s, i, h0, _, he => W_some.mpr (he s h0)
  | d :: ds, s, i, h0, hb, he => by
    obtain ⟨s1, e1, f, s2, e2, k⟩ := hb 0 d s rfl h0
    have ih : ∀ s2, P (i + 1) s2 → KFor w C t b K ds s2 := fun s2 h2 => for_rule P (i + 1) h2 (fun j d s hd hp => by
      have := hb (j + 1) d s (by simpa using hd) (by rw [show i + (j + 1) = i + 1 + j by omega]; exact hp)
      rw [show i + (j + 1) + 1 = i + 1 + j + 1 by omega] at this
      exact this) (fun s hp => he s (by rw [List.length_cons, show i + (ds.length + 1) = i + 1 + ds.length by omega]; exact hp))
    unfold KFor forLoop
    simp only [e1, e2]
    cases f with
    | nx => exact ih s2 k
    | ct => exact ih s2 k
    | bk => exact W_some.mpr k
    | rt o d => exact W_some.mpr k
/-- a loop with a law by the turn -/
theorem for_ix {w : Nat} {C : Calls} {t : Tg} {b : Sx} {K : Fl → S → Prop} {ds : List D} {s : S} (P : Nat → S → Prop) (h0 : P 0 s)
    (hb : ∀ i d s, ds[i]? = some d → P i s → KBind (bindT t d s) fun s1 => WS w C b s1 (KBody (P (i + 1)) K)) (he : ∀ s, P ds.length s → K .nx s) : KFor w C t b K ds s :=
  for_rule P 0 h0 (fun j d s hd hp => by rw [Nat.zero_add] at hp ⊢; exact hb j d s hd hp) (fun s hp => he s (by rwa [Nat.zero_add] at hp))
/-- a loop over values -/
theorem for_map {α : Type} {g : α → D} {xs : List α} {w : Nat} {C : Calls} {t : Tg} {b : Sx} {K : Fl → S → Prop} {s : S} (P : Nat → S → Prop) (h0 : P 0 s)
    (hb : ∀ i x s, xs[i]? = some x → P i s → KBind (bindT t (g x) s) fun s1 => WS w C b s1 (KBody (P (i + 1)) K)) (he : ∀ s, P xs.length s → K .nx s) : KFor w C t b K (xs.map g) s :=
  for_ix P h0 (fun i d s hd hp => by
    obtain ⟨x, hx, rfl⟩ := map_get hd
    exact hb i x s hx hp) (fun s hp => he s (by rwa [List.length_map] at hp))
/-- for .. in range(n) -/
theorem for_rg {n : Nat} {w : Nat} {C : Calls} {t : Tg} {b : Sx} {K : Fl → S → Prop} {s : S} (P : Nat → S → Prop) (h0 : P 0 s)
    (hb : ∀ i s, i < n → P i s → KBind (bindT t (.int (i : Int)) s) fun s1 => WS w C b s1 (KBody (P (i + 1)) K)) (he : ∀ s, P n s → K .nx s) : KFor w C t b K (rgD (n : Int)) s := by
  rw [rgD_nat]
  refine for_map P h0 (fun i x s hx hp => ?_) (fun s hp => he s (by rwa [List.length_range] at hp))
  obtain ⟨h1, h2⟩ := List.getElem?_eq_some_iff.mp hx
  rw [List.length_range] at h1
  rw [List.getElem_range] at h2
  subst h2
  exact hb i s h1 hp
theorem while_rule {w : Nat} {C : Calls} {c : Ex} {b : Sx} {K : Fl → S → Prop} {s : S} (P : Nat → S → Prop) (m : Nat) (hm : m < w) (h0 : P m s)
    (hb : ∀ m s, P m s → WT C c s fun k s1 => (k = true → WS w C b s1 (KBody (fun s2 => ∃ m', m' < m ∧ P m' s2) K)) ∧ (k = false → K .nx s1)) : KWhile w C c b K s := by
  have key : ∀ (fuel m : Nat) (s : S), m < fuel → P m s → W (whileLoop (sem C c).t (stm w C b) fuel s) K := by
    intro fuel
    induction fuel with
    | zero => intro m s h; omega
    | succ fuel ih =>
      intro m s hm hp
      obtain ⟨k, s1, e1, h1, h2⟩ := hb m s hp
      cases k with
      | false => simp only [whileLoop, e1]; exact W_some.mpr (h2 rfl)
      | true =>
        obtain ⟨f, s2, e2, k2⟩ := h1 rfl
        simp only [whileLoop, e1, e2]
        cases f with
        | nx => obtain ⟨m', h, hp'⟩ := k2; exact ih m' s2 (by omega) hp'
        | ct => obtain ⟨m', h, hp'⟩ := k2; exact ih m' s2 (by omega) hp'
        | bk => exact W_some.mpr k2
        | rt o d => exact W_some.mpr k2
  exact key w m s hm h0
def KItem (P : List D → S → Prop) (acc : List D) (d : D) (s : S) : Prop := P (acc ++ [d]) s
theorem k_item {P : List D → S → Prop} {acc : List D} {d : D} {s : S} : KItem P acc d s ↔ P (acc ++ [d]) s := Iff.rfl
def KFilt (C : Calls) (e : Ex) (P : List D → S → Prop) (acc : List D) (k : Bool) (s : S) : Prop := (k = true → WV C e s (KItem P acc)) ∧ (k = false → P acc s)
theorem k_filtt {C : Calls} {e : Ex} {P : List D → S → Prop} {acc : List D} {s : S} : KFilt C e P acc true s ↔ WV C e s (KItem P acc) := by simp [KFilt]
theorem k_filtf {C : Calls} {e : Ex} {P : List D → S → Prop} {acc : List D} {s : S} : KFilt C e P acc false s ↔ P acc s := by simp [KFilt]
theorem comp_rule {C : Calls} {e ifs : Ex} {t : Tg} {K : D → S → Prop} {ds : List D} {s : S} (P : Nat → List D → S → Prop) (hp : t.slots.all (plainS s) = true) (hl : ds.length ≤ sizeLine) (h0 : P 0 [] s)
    (hb : ∀ i d acc s, ds[i]? = some d → P i acc s → KBind (bindT t d (wipeS s t.slots)) fun s1 => WTs C ifs s1 (KFilt C e (P (i + 1)) acc))
    (he : ∀ ys s', ys.length ≤ ds.length → P ds.length ys s' → K (.list ys) (restS s s' t.slots)) : KComp C e t ifs K ds s := by
  refine ⟨hp, ?_⟩
  obtain ⟨ys, s', h1, h2⟩ := compLoop_ix (t := t) (ifs := (sem C ifs).ts) (e := (sem C e).v) P ds [] 0 s h0 (by simpa using hl) (by
    intro j d hd acc s p
    rw [Nat.zero_add] at p ⊢
    obtain ⟨s1, e1, k, s2, e2, h1, h2⟩ := hb j d acc s hd p
    refine ⟨s1, k, s2, e1, e2, ?_⟩
    cases k with
    | false => exact h2 rfl
    | true => exact h1 rfl)
  rw [Nat.zero_add] at h2
  exact ⟨ys, s', h1, he ys s' (by simpa using compLoop_len _ _ _ _ _ h1) h2⟩
theorem comp_map2 {α : Type} {g : α → D} {xs : List α} {C : Calls} {e ifs : Ex} {t : Tg} {K : D → S → Prop} {s : S} (P : Nat → List D → S → Prop) (hp : t.slots.all (plainS s) = true) (hl : xs.length ≤ sizeLine) (h0 : P 0 [] s)
    (hb : ∀ i x acc s, xs[i]? = some x → P i acc s → KBind (bindT t (g x) (wipeS s t.slots)) fun s1 => WTs C ifs s1 (KFilt C e (P (i + 1)) acc))
    (he : ∀ ys s', ys.length ≤ xs.length → P xs.length ys s' → K (.list ys) (restS s s' t.slots)) : KComp C e t ifs K (xs.map g) s :=
  comp_rule P hp (by simpa using hl) h0 (fun i d acc s hd hp => by
    obtain ⟨x, hx, rfl⟩ := map_get hd
    exact hb i x acc s hx hp) (fun ys s' h1 h2 => he ys s' (by simpa using h1) (by simpa using h2))
theorem comp_rg {n : Nat} {C : Calls} {e ifs : Ex} {t : Tg} {K : D → S → Prop} {s : S} (P : Nat → List D → S → Prop) (hp : t.slots.all (plainS s) = true) (hl : n ≤ sizeLine) (h0 : P 0 [] s)
    (hb : ∀ i acc s, i < n → P i acc s → KBind (bindT t (.int (i : Int)) (wipeS s t.slots)) fun s1 => WTs C ifs s1 (KFilt C e (P (i + 1)) acc))
    (he : ∀ ys s', ys.length ≤ n → P n ys s' → K (.list ys) (restS s s' t.slots)) : KComp C e t ifs K (rgD (n : Int)) s := by
  rw [rgD_nat]
  refine comp_map2 P hp (by simpa using hl) h0 (fun i x acc s hx hp => ?_) (fun ys s hl hp => he ys s (by simpa using hl) (by rwa [List.length_range] at hp))
  obtain ⟨h1, h2⟩ := List.getElem?_eq_some_iff.mp hx
  rw [List.length_range] at h1
  rw [List.getElem_range] at h2
  subst h2
  exact hb i acc s h1 hp
/-- each item by itself, the slots stay -/
theorem comp_pure {α : Type} {g : α → D} (f : α → D) {xs : List α} {C : Calls} {e ifs : Ex} {t : Tg} {K : D → S → Prop} {s : S} (hp : t.slots.all (plainS s) = true) (hl : xs.length ≤ sizeLine)
    (hb : ∀ x ∈ xs, KBind (bindT t (g x) (wipeS s t.slots)) fun s1 => WTs C ifs s1 fun k s2 => k = true ∧ WV C e s2 fun d s3 => d = f x ∧ wipeS s3 t.slots = wipeS s t.slots)
    (he : K (.list (xs.map f)) s) : KComp C e t ifs K (xs.map g) s := by
  have h := comp_mapA (C := C) (E := .comp e t (.itOf (.con (.list (xs.map g)))) ifs) (s := s) (s0 := s) rfl g f (xs := xs) (by simp) hp hl (by
    intro x hx
    obtain ⟨s1, e1, k, s2, e2, rfl, d, s3, e3, rfl, e4⟩ := hb x hx
    exact ⟨s1, s2, s3, e1, e2, e3, e4⟩)
  have h2 : WV C (.comp e t (.itOf (.con (.list (xs.map g)))) ifs) s K := by
    unfold WV
    rw [h]
    exact W_some.mpr he
  rw [v_comp, i_of, v_con, k_walkl] at h2
  exact h2
/-- some are left out, the slots stay -/
theorem comp_filt2 {α : Type} {g : α → D} (q : α → Bool) (f : α → D) {xs : List α} {C : Calls} {e ifs : Ex} {t : Tg} {K : D → S → Prop} {s : S} (hp : t.slots.all (plainS s) = true) (hl : xs.length ≤ sizeLine)
    (hb : ∀ x ∈ xs, KBind (bindT t (g x) (wipeS s t.slots)) fun s1 => WTs C ifs s1 fun k s2 => k = q x ∧ (q x = false → wipeS s2 t.slots = wipeS s t.slots) ∧ (q x = true → WV C e s2 fun d s3 => d = f x ∧ wipeS s3 t.slots = wipeS s t.slots))
    (he : K (.list ((xs.filter q).map f)) s) : KComp C e t ifs K (xs.map g) s := by
  refine comp_rule (fun i acc s' => acc = ((xs.take i).filter q).map f ∧ wipeS s' t.slots = wipeS s t.slots) hp (by simpa using hl) ⟨rfl, rfl⟩ ?_ ?_
  · rintro i d acc s' hd ⟨rfl, hw⟩
    obtain ⟨x, hx, rfl⟩ := map_get hd
    obtain ⟨s1, e1, k, s2, e2, rfl, h1, h2⟩ := hb x (List.mem_of_getElem? hx)
    rw [hw]
    refine ⟨s1, e1, _, s2, e2, ?_⟩
    rw [take_succ_get hx, List.filter_append, List.map_append]
    cases hq : q x with
    | false => exact ⟨(fun z => by cases z), fun _ => ⟨by simp [hq], h1 hq⟩⟩
    | true =>
      refine ⟨fun _ => ?_, (fun z => by cases z)⟩
      obtain ⟨d, s3, e3, rfl, hw3⟩ := h2 hq
      exact ⟨_, s3, e3, by simp [hq], hw3⟩
  · rintro ys s' _ ⟨rfl, hw⟩
    rw [List.length_map, List.take_length, restS_wipe hw rfl fun _ _ => rfl]
    exact he

def KNx (J : S → Prop) (f : Fl) (s : S) : Prop := match f with
  | .nx => J s
  | _ => False
theorem k_nx {J : S → Prop} {s : S} : KNx J .nx s ↔ J s := Iff.rfl
/-- a branch that is not known -/
theorem if_of {w : Nat} {C : Calls} {p q : Sx} {K : Fl → S → Prop} {k : Bool} {s : S} (h1 : k = true → WS w C p s K) (h2 : k = false → WS w C q s K) : KIf w C p q K k s := ⟨h1, h2⟩
theorem ifV_of {C : Calls} {p q : Ex} {K : D → S → Prop} {k : Bool} {s : S} (h1 : k = true → WV C p s K) (h2 : k = false → WV C q s K) : KIfV C p q K k s := ⟨h1, h2⟩
theorem andT_of {C : Calls} {b : Ex} {K : Bool → S → Prop} {k : Bool} {s : S} (h1 : k = true → WT C b s K) (h2 : k = false → K false s) : KAndT C b K k s := ⟨h1, h2⟩
theorem orT_of {C : Calls} {b : Ex} {K : Bool → S → Prop} {k : Bool} {s : S} (h1 : k = true → K true s) (h2 : k = false → WT C b s K) : KOrT C b K k s := ⟨h2, h1⟩
theorem andV_of {C : Calls} {b : Ex} {K : D → S → Prop} {k : Bool} {d : D} {s : S} (h1 : k = true → WV C b s K) (h2 : k = false → K d s) : KAndV1 C b K d k s := ⟨h1, h2⟩
theorem orV_of {C : Calls} {b : Ex} {K : D → S → Prop} {k : Bool} {d : D} {s : S} (h1 : k = true → K d s) (h2 : k = false → WV C b s K) : KOrV1 C b K d k s := ⟨h2, h1⟩
theorem ch3_of {C : Calls} {o : Op} {c : Ex} {y : D} {K : D → S → Prop} {k : Bool} {s : S} (h1 : k = true → WV C c s (KCh4 o y K)) (h2 : k = false → K (.bool false) s) : KCh3 C o c y K (.bool k) s := ⟨k, rfl, h1, h2⟩
theorem ts_of {C : Calls} {es : Ex} {K : Bool → S → Prop} {k : Bool} {s : S} (h1 : k = true → WTs C es s K) (h2 : k = false → K false s) : KTs C es K k s := ⟨h1, h2⟩
theorem filt_of {C : Calls} {e : Ex} {P : List D → S → Prop} {acc : List D} {k : Bool} {s : S} (h1 : k = true → WV C e s (KItem P acc)) (h2 : k = false → P acc s) : KFilt C e P acc k s := ⟨h1, h2⟩
/-- both ways come to the same -/
theorem if_join {w : Nat} {C : Calls} {p q : Sx} {K : Fl → S → Prop} {k : Bool} {s : S} (J : S → Prop) (h1 : k = true → WS w C p s (KNx J)) (h2 : k = false → WS w C q s (KNx J)) (h : ∀ s, J s → K .nx s) : KIf w C p q K k s := by
  have key : ∀ f s, KNx J f s → K f s := by
    intro f s hf
    cases f with
    | nx => exact h s hf
    | _ => exact hf.elim
  exact ⟨fun e => W_mono (h1 e) key, fun e => W_mono (h2 e) key⟩
theorem ifV_join {C : Calls} {p q : Ex} {K : D → S → Prop} {k : Bool} {s : S} (J : D → S → Prop) (h1 : k = true → WV C p s J) (h2 : k = false → WV C q s J) (h : ∀ d s, J d s → K d s) : KIfV C p q K k s :=
  ⟨fun e => W_mono (h1 e) h, fun e => W_mono (h2 e) h⟩
/-! comprehensions of dicts -/
def KDv (P : List (D × D) → S → Prop) (acc : List (D × D)) (kd : D) (vd : D) (s : S) : Prop := ∃ k, keyOf kd = some k ∧ P (putD acc k vd) s
def KDk (C : Calls) (ve : Ex) (P : List (D × D) → S → Prop) (acc : List (D × D)) (kd : D) (s : S) : Prop := WV C ve s (KDv P acc kd)
def KDf (C : Calls) (ke ve : Ex) (P : List (D × D) → S → Prop) (acc : List (D × D)) (k : Bool) (s : S) : Prop := (k = true → WV C ke s (KDk C ve P acc)) ∧ (k = false → P acc s)
theorem k_dk {C : Calls} {ve : Ex} {P : List (D × D) → S → Prop} {acc : List (D × D)} {kd : D} {s : S} : KDk C ve P acc kd s ↔ WV C ve s (KDv P acc kd) := Iff.rfl
theorem k_dvs {P : List (D × D) → S → Prop} {acc : List (D × D)} {z : Str} {vd : D} {s : S} : KDv P acc (.str z) vd s ↔ P (putD acc (.inr z) vd) s := by simp [KDv, keyOf]
theorem k_dvi {P : List (D × D) → S → Prop} {acc : List (D × D)} {z : Int} {vd : D} {s : S} : KDv P acc (.int z) vd s ↔ P (putD acc (.inl z) vd) s := by simp [KDv, keyOf]
theorem k_dft {C : Calls} {ke ve : Ex} {P : List (D × D) → S → Prop} {acc : List (D × D)} {s : S} : KDf C ke ve P acc true s ↔ WV C ke s (KDk C ve P acc) := by simp [KDf]
theorem k_dff {C : Calls} {ke ve : Ex} {P : List (D × D) → S → Prop} {acc : List (D × D)} {s : S} : KDf C ke ve P acc false s ↔ P acc s := by simp [KDf]
theorem putD_len (acc : List (D × D)) (k : Sum Int Str) (d : D) : (putD acc k d).length ≤ acc.length + 1 := by
  unfold putD
  split <;> simp
theorem dcompLoop_ix {t : Tg} {ifs : M Bool} {ke ve : M D} (P : Nat → List (D × D) → S → Prop) : ∀ (ds : List D) (acc : List (D × D)) (i : Nat) (s : S), P i acc s → acc.length + ds.length ≤ sizeLine →
    (∀ j d, ds[j]? = some d → ∀ acc s, P (i + j) acc s → ∃ s1 b s2, bindT t d (wipeS s t.slots) = some s1 ∧ ifs s1 = some (b, s2) ∧ (if b then ∃ kd s3 vd s4 k, ke s2 = some (kd, s3) ∧ ve s3 = some (vd, s4) ∧ keyOf kd = some k ∧ P (i + j + 1) (putD acc k vd) s4 else P (i + j + 1) acc s2)) →
    ∃ ys s', dcompLoop t ifs ke ve ds acc s = some (ys, s') ∧ P (i + ds.length) ys s'
  | [], acc, i, s, p, _, _ => ⟨acc, s, rfl, p⟩
  | d :: ds, acc, i, s, p, hl, h => by
    obtain ⟨s1, b, s2, e1, e2, e3⟩ := h 0 d rfl acc s p
    rw [List.length_cons] at hl
    have h' : ∀ j d', ds[j]? = some d' → ∀ acc s, P (i + 1 + j) acc s → ∃ s1 b s2, bindT t d' (wipeS s t.slots) = some s1 ∧ ifs s1 = some (b, s2) ∧ (if b then ∃ kd s3 vd s4 k, ke s2 = some (kd, s3) ∧ ve s3 = some (vd, s4) ∧ keyOf kd = some k ∧ P (i + 1 + j + 1) (putD acc k vd) s4 else P (i + 1 + j + 1) acc s2) := by
      intro j d' hd acc s p
      rw [show i + 1 + j = i + (j + 1) by omega] at p ⊢
      exact h (j + 1) d' (by simpa using hd) acc s p
    have hlen : i + (d :: ds).length = i + 1 + ds.length := by rw [List.length_cons]; omega
    rw [hlen]
    simp only [dcompLoop, e1, e2]
    cases b with
    | false => exact dcompLoop_ix P ds acc (i + 1) s2 e3 (by omega) h'
    | true =>
      obtain ⟨kd, s3, vd, s4, k, e4, e5, e6, e7⟩ := e3
      simp only [e4, e5, e6]
      rw [if_pos (by omega)]
      have := putD_len acc k vd
      exact dcompLoop_ix P ds (putD acc k vd) (i + 1) s4 e7 (by omega) h'
theorem dcomp_rule {C : Calls} {ke ve ifs : Ex} {t : Tg} {K : D → S → Prop} {ds : List D} {s : S} (P : Nat → List (D × D) → S → Prop) (hp : t.slots.all (plainS s) = true) (hl : ds.length ≤ sizeLine) (h0 : P 0 [] s)
    (hb : ∀ i d acc s, ds[i]? = some d → P i acc s → KBind (bindT t d (wipeS s t.slots)) fun s1 => WTs C ifs s1 (KDf C ke ve (P (i + 1)) acc))
    (he : ∀ ys s', P ds.length ys s' → K (.dict ys) (restS s s' t.slots)) : KDComp C ke ve t ifs K ds s := by
  refine ⟨hp, ?_⟩
  obtain ⟨ys, s', h1, h2⟩ := dcompLoop_ix (t := t) (ifs := (sem C ifs).ts) (ke := (sem C ke).v) (ve := (sem C ve).v) P ds [] 0 s h0 (by simpa using hl) (by
    intro j d hd acc s p
    rw [Nat.zero_add] at p ⊢
    obtain ⟨s1, e1, k, s2, e2, h1, h2⟩ := hb j d acc s hd p
    refine ⟨s1, k, s2, e1, e2, ?_⟩
    cases k with
    | false => exact h2 rfl
    | true =>
      obtain ⟨kd, s3, e3, vd, s4, e4, key, e5, p5⟩ := h1 rfl
      exact ⟨kd, s3, vd, s4, key, e3, e4, e5, p5⟩)
  rw [Nat.zero_add] at h2
  exact ⟨ys, s', h1, he ys s' h2⟩
theorem dcomp_map {α : Type} {g : α → D} {xs : List α} {C : Calls} {ke ve ifs : Ex} {t : Tg} {K : D → S → Prop} {s : S} (P : Nat → List (D × D) → S → Prop) (hp : t.slots.all (plainS s) = true) (hl : xs.length ≤ sizeLine) (h0 : P 0 [] s)
    (hb : ∀ i x acc s, xs[i]? = some x → P i acc s → KBind (bindT t (g x) (wipeS s t.slots)) fun s1 => WTs C ifs s1 (KDf C ke ve (P (i + 1)) acc))
    (he : ∀ ys s', P xs.length ys s' → K (.dict ys) (restS s s' t.slots)) : KDComp C ke ve t ifs K (xs.map g) s :=
  dcomp_rule P hp (by simpa using hl) h0 (fun i d acc s hd hp => by
    obtain ⟨x, hx, rfl⟩ := map_get hd
    exact hb i x acc s hx hp) (fun ys s' h2 => he ys s' (by simpa using h2))
end FC

local macro_rules | `(tactic| dsimp?) => `(tactic| simp only [FC.k_nx, FC.v_dcomp, FC.a_dcomp, FC.k_dk, FC.k_dvs, FC.k_dvi, FC.k_dft, FC.k_dff, FC.v_con, FC.v_glob, FC.v_var, FC.v_op, FC.t_op, FC.v_not, FC.t_not, FC.v_and, FC.v_or, FC.v_chain, FC.v_ife, FC.v_tup, FC.v_lst, FC.v_dct0, FC.v_dct1, FC.v_call, FC.v_mu, FC.v_mt, FC.v_sl2, FC.v_comp, FC.a_pk, FC.a_lend, FC.a_give, FC.a_con, FC.a_glob, FC.a_var, FC.a_op, FC.a_not, FC.a_and, FC.a_or, FC.a_chain, FC.a_ife, FC.a_tup, FC.a_lst, FC.a_dct0, FC.a_dct1, FC.a_call, FC.a_mu, FC.a_mt, FC.a_sl2, FC.a_comp, FC.t_con, FC.t_glob, FC.t_var, FC.t_chain, FC.t_call, FC.t_mt, FC.t_sl2, FC.t_comp, FC.t_tup, FC.t_lst, FC.t_pk, FC.as_nil, FC.as_cons, FC.ts_nil, FC.ts_cons, FC.i_of, FC.i_range, FC.i_enum, FC.i_zip, FC.i_vals, FC.i_items, FC.s_set, FC.s_seto, FC.s_par, FC.s_unp, FC.s_sub, FC.s_aug, FC.s_expr, FC.s_ret, FC.s_reto, FC.s_retv, FC.s_retn, FC.s_ife, FC.s_for, FC.s_while, FC.s_pass, FC.s_brk, FC.s_cont, FC.s_nil, FC.s_cons, FC.t_and', FC.t_or', FC.k_rdv, FC.k_rdo, FC.k_vl, FC.k_trub, FC.k_trun, FC.k_trui, FC.k_trul, FC.k_trut, FC.k_give, FC.k_slot, FC.k_op, FC.k_op1, FC.k_op2, FC.k_as, FC.k_as2, FC.k_tst, FC.k_tsf, FC.k_notV, FC.k_notT, FC.k_andTt, FC.k_andTf, FC.k_orTt, FC.k_orTf, FC.k_andV, FC.k_orV, FC.k_andVt, FC.k_andVf, FC.k_orVt, FC.k_orVf, FC.k_ifVt, FC.k_ifVf, FC.k_ift, FC.k_iff, FC.k_ch1, FC.k_ch2, FC.k_ch3t, FC.k_ch3f, FC.k_ch4, FC.k_tup, FC.k_tup1, FC.k_lst, FC.k_lst1, FC.k_dct1, FC.k_dct2i, FC.k_dct2s, FC.k_bk, FC.k_ret, FC.k_call3, FC.k_call2, FC.k_call, FC.k_mu2, FC.k_mu2if, FC.k_mu1, FC.k_mu, FC.k_mt3, FC.k_mt2, FC.k_mt1, FC.k_sl4, FC.k_sl3, FC.k_sl2, FC.k_sl1, FC.k_walkl, FC.k_walkt, FC.k_walkd, FC.k_rg, FC.k_rg1, FC.k_rg2, FC.k_enum, FC.k_zip, FC.k_zipl, FC.k_zipt, FC.k_vals, FC.k_items, FC.k_put, FC.k_set, FC.k_seto, FC.k_par, FC.k_par1, FC.k_unp, FC.k_sub4, FC.k_sub4if, FC.k_sub3, FC.k_sub2, FC.k_sub1, FC.k_aug2, FC.k_aug, FC.k_expr, FC.k_rtn, FC.k_rto, FC.k_rtv, FC.k_seqn, FC.k_seqb, FC.k_seqc, FC.k_seqr, FC.k_finr, FC.k_finn, FC.k_fin2, FC.k_bodyn, FC.k_bodyc, FC.k_bodyb, FC.k_bodyr, FC.k_bind, FC.k_item, FC.k_filtt, FC.k_filtf, FC.e_add, FC.e_sub, FC.e_mul, FC.e_fdiv, FC.e_mod, FC.e_pow, FC.e_lt, FC.e_le, FC.e_gt, FC.e_ge, FC.e_eq, FC.e_ne, FC.e_ix, FC.e_sl1, FC.e_sl2, FC.e_inn, FC.e_notin, FC.e_listZ, FC.e_listR2, FC.n_dict, FC.e_neg, FC.e_isN, FC.e_notN, FC.e_sl0, FC.e_rev, FC.e_len, FC.e_abs, FC.e_int, FC.e_list, FC.e_tuple, FC.e_listR, FC.e_tupleR, FC.e_sorted, FC.e_sum, FC.e_max1, FC.e_min1, FC.e_all, FC.e_any, FC.e_isi, FC.e_isis, FC.f_add, FC.f_sub, FC.f_mul, FC.f_fdiv, FC.f_mod, FC.f_lt, FC.f_le, FC.f_neg, FC.f_ixL, FC.f_ixT, FC.f_abs, FC.f_int, FC.f_intB, FC.f_listL, FC.f_listT, FC.f_tupL, FC.f_tupT, FC.f_lenL, FC.f_lenT, FC.f_revL, FC.f_revT, FC.f_sl1a, FC.f_sl1b, FC.f_slL, FC.f_slT, FC.n_list, FC.W_some, FC.W_none, FC.Wo_some, FC.Wo_none, FC.Wo_if, FC.Wc_some, FC.l_nil, FC.l_f, FC.l_t, FC.lent_plain, FC.resA_pl, FC.resA_ln, FC.resA_vl, FC.resA_ow, FC.resAs_nil, FC.resAs_cons, FC.valsA_nil, FC.valsA_cons, FC.B_val, FC.B_own, FC.B_lent, FC.permL_nil, FC.permL_cons, FC.backS_nil, FC.backS_ln, FC.backS_ow, FC.backS_vl, FC.mutS_run, FC.putS_run, FC.lent_lent, FC.lent_val, FC.lent_own, FC.lent_none, FC.isPl_val, FC.isPl_none, FC.isPl_own, FC.isPl_lent, FC.bindT_nm, FC.bindT, FC.putAll, FC.itemsOf, FC.bsOf, FC.bOf, FC.slots_nm, FC.slots_tp, FC.wipe_nil, FC.wipe_cons, FC.rest_nil, FC.rest_cons, FC.plain_run, FC.ix0, FC.atI1, FC.atI2, FC.sub0, FC.sub2, FC.isListA, FC.isTy, FC.Mt.ty, FC.muD, FC.sl_eq, FC.isNone, FC.startS, FC.inB, List.zipWith_cons_cons, List.zipWith_nil_left, List.zipWith_nil_right, List.map_cons, List.map_nil, List.replicate_succ, List.replicate_zero, List.cons_append, List.nil_append, List.getElem?_cons_succ, List.getElem?_cons_zero, List.set_cons_succ, List.set_cons_zero, List.length_cons, List.length_nil, List.zip_cons_cons, List.zip_nil_left, List.zip_nil_right, List.all_cons, List.all_nil, Option.isSome_some, Option.bind_some, Option.getD_some, Option.map_some, Bool.and_true, Bool.true_and, Bool.and_self, Bool.false_eq_true, if_true, if_false, true_and, and_true, Bool.not_true, Bool.not_false, decide_true, decide_false, eq_self, reduceCtorEq, List.isEmpty_nil, List.isEmpty_cons, ne_eq, not_false_eq_true, not_true_eq_false, ite_true, ite_false, Nat.zero_le, List.length_map, exists_eq_left', Option.some.injEq, Bool.true_eq_false, Nat.reduceAdd, Nat.reduceSub, Nat.reduceLeDiff, Nat.reduceLT, Nat.reduceEqDiff, Int.reduceLT, Int.reduceLE, Int.reduceEq, Int.reduceBEq, Int.reduceBNe, Int.reduceAdd, Int.reduceSub, Int.reduceNeg, Int.reduceMul, reduceIte, Nat.zero_add, List.tail_cons, List.head?_cons])
local macro_rules | `(tactic| dsimp? [$ls,*]) => `(tactic| simp only [FC.k_nx, FC.v_dcomp, FC.a_dcomp, FC.k_dk, FC.k_dvs, FC.k_dvi, FC.k_dft, FC.k_dff, FC.v_con, FC.v_glob, FC.v_var, FC.v_op, FC.t_op, FC.v_not, FC.t_not, FC.v_and, FC.v_or, FC.v_chain, FC.v_ife, FC.v_tup, FC.v_lst, FC.v_dct0, FC.v_dct1, FC.v_call, FC.v_mu, FC.v_mt, FC.v_sl2, FC.v_comp, FC.a_pk, FC.a_lend, FC.a_give, FC.a_con, FC.a_glob, FC.a_var, FC.a_op, FC.a_not, FC.a_and, FC.a_or, FC.a_chain, FC.a_ife, FC.a_tup, FC.a_lst, FC.a_dct0, FC.a_dct1, FC.a_call, FC.a_mu, FC.a_mt, FC.a_sl2, FC.a_comp, FC.t_con, FC.t_glob, FC.t_var, FC.t_chain, FC.t_call, FC.t_mt, FC.t_sl2, FC.t_comp, FC.t_tup, FC.t_lst, FC.t_pk, FC.as_nil, FC.as_cons, FC.ts_nil, FC.ts_cons, FC.i_of, FC.i_range, FC.i_enum, FC.i_zip, FC.i_vals, FC.i_items, FC.s_set, FC.s_seto, FC.s_par, FC.s_unp, FC.s_sub, FC.s_aug, FC.s_expr, FC.s_ret, FC.s_reto, FC.s_retv, FC.s_retn, FC.s_ife, FC.s_for, FC.s_while, FC.s_pass, FC.s_brk, FC.s_cont, FC.s_nil, FC.s_cons, FC.t_and', FC.t_or', FC.k_rdv, FC.k_rdo, FC.k_vl, FC.k_trub, FC.k_trun, FC.k_trui, FC.k_trul, FC.k_trut, FC.k_give, FC.k_slot, FC.k_op, FC.k_op1, FC.k_op2, FC.k_as, FC.k_as2, FC.k_tst, FC.k_tsf, FC.k_notV, FC.k_notT, FC.k_andTt, FC.k_andTf, FC.k_orTt, FC.k_orTf, FC.k_andV, FC.k_orV, FC.k_andVt, FC.k_andVf, FC.k_orVt, FC.k_orVf, FC.k_ifVt, FC.k_ifVf, FC.k_ift, FC.k_iff, FC.k_ch1, FC.k_ch2, FC.k_ch3t, FC.k_ch3f, FC.k_ch4, FC.k_tup, FC.k_tup1, FC.k_lst, FC.k_lst1, FC.k_dct1, FC.k_dct2i, FC.k_dct2s, FC.k_bk, FC.k_ret, FC.k_call3, FC.k_call2, FC.k_call, FC.k_mu2, FC.k_mu2if, FC.k_mu1, FC.k_mu, FC.k_mt3, FC.k_mt2, FC.k_mt1, FC.k_sl4, FC.k_sl3, FC.k_sl2, FC.k_sl1, FC.k_walkl, FC.k_walkt, FC.k_walkd, FC.k_rg, FC.k_rg1, FC.k_rg2, FC.k_enum, FC.k_zip, FC.k_zipl, FC.k_zipt, FC.k_vals, FC.k_items, FC.k_put, FC.k_set, FC.k_seto, FC.k_par, FC.k_par1, FC.k_unp, FC.k_sub4, FC.k_sub4if, FC.k_sub3, FC.k_sub2, FC.k_sub1, FC.k_aug2, FC.k_aug, FC.k_expr, FC.k_rtn, FC.k_rto, FC.k_rtv, FC.k_seqn, FC.k_seqb, FC.k_seqc, FC.k_seqr, FC.k_finr, FC.k_finn, FC.k_fin2, FC.k_bodyn, FC.k_bodyc, FC.k_bodyb, FC.k_bodyr, FC.k_bind, FC.k_item, FC.k_filtt, FC.k_filtf, FC.e_add, FC.e_sub, FC.e_mul, FC.e_fdiv, FC.e_mod, FC.e_pow, FC.e_lt, FC.e_le, FC.e_gt, FC.e_ge, FC.e_eq, FC.e_ne, FC.e_ix, FC.e_sl1, FC.e_sl2, FC.e_inn, FC.e_notin, FC.e_listZ, FC.e_listR2, FC.n_dict, FC.e_neg, FC.e_isN, FC.e_notN, FC.e_sl0, FC.e_rev, FC.e_len, FC.e_abs, FC.e_int, FC.e_list, FC.e_tuple, FC.e_listR, FC.e_tupleR, FC.e_sorted, FC.e_sum, FC.e_max1, FC.e_min1, FC.e_all, FC.e_any, FC.e_isi, FC.e_isis, FC.f_add, FC.f_sub, FC.f_mul, FC.f_fdiv, FC.f_mod, FC.f_lt, FC.f_le, FC.f_neg, FC.f_ixL, FC.f_ixT, FC.f_abs, FC.f_int, FC.f_intB, FC.f_listL, FC.f_listT, FC.f_tupL, FC.f_tupT, FC.f_lenL, FC.f_lenT, FC.f_revL, FC.f_revT, FC.f_sl1a, FC.f_sl1b, FC.f_slL, FC.f_slT, FC.n_list, FC.W_some, FC.W_none, FC.Wo_some, FC.Wo_none, FC.Wo_if, FC.Wc_some, FC.l_nil, FC.l_f, FC.l_t, FC.lent_plain, FC.resA_pl, FC.resA_ln, FC.resA_vl, FC.resA_ow, FC.resAs_nil, FC.resAs_cons, FC.valsA_nil, FC.valsA_cons, FC.B_val, FC.B_own, FC.B_lent, FC.permL_nil, FC.permL_cons, FC.backS_nil, FC.backS_ln, FC.backS_ow, FC.backS_vl, FC.mutS_run, FC.putS_run, FC.lent_lent, FC.lent_val, FC.lent_own, FC.lent_none, FC.isPl_val, FC.isPl_none, FC.isPl_own, FC.isPl_lent, FC.bindT_nm, FC.bindT, FC.putAll, FC.itemsOf, FC.bsOf, FC.bOf, FC.slots_nm, FC.slots_tp, FC.wipe_nil, FC.wipe_cons, FC.rest_nil, FC.rest_cons, FC.plain_run, FC.ix0, FC.atI1, FC.atI2, FC.sub0, FC.sub2, FC.isListA, FC.isTy, FC.Mt.ty, FC.muD, FC.sl_eq, FC.isNone, FC.startS, FC.inB, List.zipWith_cons_cons, List.zipWith_nil_left, List.zipWith_nil_right, List.map_cons, List.map_nil, List.replicate_succ, List.replicate_zero, List.cons_append, List.nil_append, List.getElem?_cons_succ, List.getElem?_cons_zero, List.set_cons_succ, List.set_cons_zero, List.length_cons, List.length_nil, List.zip_cons_cons, List.zip_nil_left, List.zip_nil_right, List.all_cons, List.all_nil, Option.isSome_some, Option.bind_some, Option.getD_some, Option.map_some, Bool.and_true, Bool.true_and, Bool.and_self, Bool.false_eq_true, if_true, if_false, true_and, and_true, Bool.not_true, Bool.not_false, decide_true, decide_false, eq_self, reduceCtorEq, List.isEmpty_nil, List.isEmpty_cons, ne_eq, not_false_eq_true, not_true_eq_false, ite_true, ite_false, Nat.zero_le, List.length_map, exists_eq_left', Option.some.injEq, Bool.true_eq_false, Nat.reduceAdd, Nat.reduceSub, Nat.reduceLeDiff, Nat.reduceLT, Nat.reduceEqDiff, Int.reduceLT, Int.reduceLE, Int.reduceEq, Int.reduceBEq, Int.reduceBNe, Int.reduceAdd, Int.reduceSub, Int.reduceNeg, Int.reduceMul, reduceIte, Nat.zero_add, List.tail_cons, List.head?_cons, $ls,*])

namespace L01
open PySem FC
def x_is_number : Nat := 0
def x_notes : Nat := 1
def x_note_of : Nat := 2
def x_is_deed : Nat := 3
def x_is_word : Nat := 4
def x_is_program : Nat := 5
def x_is_row : Nat := 6
def x__law_box : Nat := 7
def x__law_take : Nat := 8
def x__law_cells : Nat := 9
def x__law_of : Nat := 10
def x__law_pick : Nat := 11
def x__law_lists : Nat := 12
def x__law_same : Nat := 13
def x__law_turning : Nat := 14
def x__law_kit : Nat := 15
def x__law_breath : Nat := 16
def x__law_known_kit : Nat := 17
def x__law_deeds : Nat := 18
def x__law_line : Nat := 19
def x__law_is_count : Nat := 20
def x__law_is_deed : Nat := 21
def x__law_is_word : Nat := 22
def x__law_is_program : Nat := 23
def x__law_is_line : Nat := 24
def x__law_spoilt : Nat := 25
def x__law_hand_right : Nat := 26
def x__law_right : Nat := 27
def x_law : Nat := 28
def kk_box : Int := 350
def B_is_number : Sx := (.cons (.ret (.and (.op (.isi .int) (.cons (.var 0) .nil)) (.not (.op (.isi .bool) (.cons (.var 0) .nil)))))
  .nil)
def I_is_number : FnI := { modes := [false], own := false, n := 1, body := B_is_number }
def E_notes_0 : Ex := (.comp (.op .ix (.cons (.var 1) (.cons (.con (.int 0)) .nil))) (.nm 1) (.itOf (.op .ix (.cons (.var 0) (.cons (.con (.int 1)) .nil)))) .nil)
@[simp] theorem E_notes_0_a {C : Calls} : (sem C E_notes_0).a = bnd (sem C E_notes_0).v fun d => gives (.vl d) := rfl
@[simp] theorem E_notes_0_t {C : Calls} : (sem C E_notes_0).t = bnd (sem C E_notes_0).v fun d => lift (truD d) := rfl
def B_notes : Sx := (.cons (.ret (.op .tuple (.cons E_notes_0 .nil)))
  .nil)
def I_notes : FnI := { modes := [false], own := false, n := 2, body := B_notes }
def B_note_of : Sx := (.cons (.ret (.ife (.mt .endswith (.var 0) (.cons (.glob "NONE" (.str "-")) .nil)) (.op (.sl false true) (.cons (.var 0) (.cons (.op .neg (.cons (.con (.int 1)) .nil)) .nil))) (.var 0)))
  .nil)
def I_note_of : FnI := { modes := [false], own := false, n := 1, body := B_note_of }
def B_is_deed : Sx := (.cons (.ret (.and (.op (.isi .str) (.cons (.var 1) .nil)) (.op .inn (.cons (.call x_note_of [0] (.cons (.var 1) .nil)) (.cons (.call x_notes [0] (.cons (.var 0) .nil)) .nil)))))
  .nil)
def I_is_deed : FnI := { modes := [false, false], own := false, n := 2, body := B_is_deed }
def E_is_word_0 : Ex := (.comp (.call x_is_deed [0, 1] (.cons (.var 0) (.cons (.var 2) .nil))) (.nm 2) (.itOf (.var 1)) .nil)
@[simp] theorem E_is_word_0_a {C : Calls} : (sem C E_is_word_0).a = bnd (sem C E_is_word_0).v fun d => gives (.vl d) := rfl
@[simp] theorem E_is_word_0_t {C : Calls} : (sem C E_is_word_0).t = bnd (sem C E_is_word_0).v fun d => lift (truD d) := rfl
def B_is_word : Sx := (.cons (.ret (.and (.op (.isi .tuple) (.cons (.var 1) .nil)) (.op .all (.cons E_is_word_0 .nil))))
  .nil)
def I_is_word : FnI := { modes := [false, false], own := false, n := 3, body := B_is_word }
def E_is_program_0 : Ex := (.comp (.and (.op (.isi .tuple) (.cons (.var 2) .nil)) (.op .eq (.cons (.op .len (.cons (.var 2) .nil)) (.cons (.glob "PAIR" (.int 2)) .nil)))) (.nm 2) (.itOf (.var 1)) .nil)
@[simp] theorem E_is_program_0_a {C : Calls} : (sem C E_is_program_0).a = bnd (sem C E_is_program_0).v fun d => gives (.vl d) := rfl
@[simp] theorem E_is_program_0_t {C : Calls} : (sem C E_is_program_0).t = bnd (sem C E_is_program_0).v fun d => lift (truD d) := rfl
def E_is_program_1 : Ex := (.comp (.and (.call x_is_word [0, 1] (.cons (.var 0) (.cons (.op .ix (.cons (.var 2) (.cons (.con (.int 0)) .nil))) .nil))) (.call x_is_number [0] (.cons (.op .ix (.cons (.var 2) (.cons (.con (.int 1)) .nil))) .nil))) (.nm 2) (.itOf (.var 1)) .nil)
@[simp] theorem E_is_program_1_a {C : Calls} : (sem C E_is_program_1).a = bnd (sem C E_is_program_1).v fun d => gives (.vl d) := rfl
@[simp] theorem E_is_program_1_t {C : Calls} : (sem C E_is_program_1).t = bnd (sem C E_is_program_1).v fun d => lift (truD d) := rfl
def B_is_program : Sx := (.cons (.ife (.not (.op (.isi .tuple) (.cons (.var 1) .nil)))
  (.cons (.ret (.con (.bool false)))
  .nil)
  .nil)
  (.cons (.ife (.not (.op .all (.cons E_is_program_0 .nil)))
  (.cons (.ret (.con (.bool false)))
  .nil)
  .nil)
  (.cons (.ret (.op .all (.cons E_is_program_1 .nil)))
  .nil)))
def I_is_program : FnI := { modes := [false, false], own := false, n := 3, body := B_is_program }
def E_is_row_0 : Ex := (.comp (.and (.call x_is_number [0] (.cons (.var 2) .nil)) (.chain .le .lt (.con (.int 0)) (.var 2) (.op .ix (.cons (.var 0) (.cons (.con (.int 0)) .nil))))) (.nm 2) (.itOf (.var 1)) .nil)
@[simp] theorem E_is_row_0_a {C : Calls} : (sem C E_is_row_0).a = bnd (sem C E_is_row_0).v fun d => gives (.vl d) := rfl
@[simp] theorem E_is_row_0_t {C : Calls} : (sem C E_is_row_0).t = bnd (sem C E_is_row_0).v fun d => lift (truD d) := rfl
def B_is_row : Sx := (.cons (.ret (.and (.op (.isi .tuple) (.cons (.var 1) .nil)) (.op .all (.cons E_is_row_0 .nil))))
  .nil)
def I_is_row : FnI := { modes := [false, false], own := false, n := 3, body := B_is_row }
def B__law_box : Sx := (.cons (.set 2 (.ife (.op .lt (.cons (.var 1) (.cons (.op .len (.cons (.var 0) .nil)) .nil))) (.op .ix (.cons (.var 0) (.cons (.var 1) .nil))) (.con (.int 0))))
  (.cons (.reto (.lst (.cons (.op .mul (.cons (.op .abs (.cons (.var 2) .nil)) (.cons (.op .int (.cons (.op .ge (.cons (.op .abs (.cons (.var 2) .nil)) (.cons (.op .pow (.cons (.con (.int 10)) (.cons (.con (.int 18)) .nil))) .nil))) .nil)) .nil))) (.cons (.op .add (.cons (.op .add (.cons (.op .mod (.cons (.op .int (.cons (.var 2) .nil)) (.cons (.con (.int 2305843009213693951)) .nil))) (.cons (.op .mul (.cons (.con (.int 39373)) (.cons (.var 1) .nil))) .nil))) (.cons (.con (.int kk_box)) .nil))) (.cons (.con (.int 0)) .nil)))))
  .nil))
def I__law_box : FnI := { modes := [false, false], own := true, n := 3, body := B__law_box }
def B__law_take : Sx := (.cons (.ife (.op .gt (.cons (.op .ix (.cons (.pk 0) (.cons (.con (.int 0)) .nil))) (.cons (.con (.int 0)) .nil)))
  (.cons (.set 5 (.op .mod (.cons (.op .int (.cons (.op .ix (.cons (.pk 0) (.cons (.con (.int 0)) .nil))) .nil)) (.cons (.var 1) .nil))))
  (.cons (.sub 0 (.con (.int 0)) (.op .fdiv (.cons (.op .ix (.cons (.pk 0) (.cons (.con (.int 0)) .nil))) (.cons (.var 1) .nil))))
  (.cons (.ret (.var 5))
  .nil)))
  .nil)
  (.cons (.sub 0 (.con (.int 2)) (.op .add (.cons (.op .ix (.cons (.pk 0) (.cons (.con (.int 2)) .nil))) (.cons (.con (.int 1)) .nil))))
  (.cons (.set 2 (.op .mod (.cons (.op .int (.cons (.op .mul (.cons (.op .add (.cons (.op .ix (.cons (.pk 0) (.cons (.con (.int 1)) .nil))) (.cons (.op .mul (.cons (.con (.int 48271)) (.cons (.op .ix (.cons (.pk 0) (.cons (.con (.int 2)) .nil))) .nil))) .nil))) (.cons (.op .add (.cons (.con (.int 39373)) (.cons (.op .ix (.cons (.pk 0) (.cons (.con (.int 2)) .nil))) .nil))) .nil))) .nil)) (.cons (.con (.int 2147483647)) .nil))))
  (.cons (.set 3 (.op .add (.cons (.op .mod (.cons (.op .int (.cons (.var 2) .nil)) (.cons (.con (.int 40009)) .nil))) (.cons (.con (.int 7)) .nil))))
  (.cons (.set 4 (.op .mod (.cons (.op .int (.cons (.op .mul (.cons (.op .add (.cons (.op .add (.cons (.var 2) (.cons (.op .ix (.cons (.pk 0) (.cons (.con (.int 2)) .nil))) .nil))) (.cons (.op .fdiv (.cons (.op .ix (.cons (.pk 0) (.cons (.con (.int 1)) .nil))) (.cons (.con (.int 1000003)) .nil))) .nil))) (.cons (.var 3) .nil))) .nil)) (.cons (.con (.int 2147483629)) .nil))))
  (.cons (.ret (.op .mod (.cons (.op .int (.cons (.op .fdiv (.cons (.op .mod (.cons (.op .int (.cons (.op .add (.cons (.op .mul (.cons (.var 4) (.cons (.con (.int 48271)) .nil))) (.cons (.var 2) .nil))) .nil)) (.cons (.con (.int 2147483587)) .nil))) (.cons (.con (.int 64)) .nil))) .nil)) (.cons (.var 1) .nil))))
  .nil))))))
def I__law_take : FnI := { modes := [true, false], own := false, n := 6, body := B__law_take }
def S__law_cells_0 : Sx := (.cons (.set 5 (.op .mod (.cons (.op .int (.cons (.var 3) .nil)) (.cons (.var 1) .nil))))
  (.cons (.sub 2 (.var 5) (.op .add (.cons (.op .ix (.cons (.pk 2) (.cons (.var 5) .nil))) (.cons (.op .mul (.cons (.var 4) (.cons (.op .add (.cons (.var 3) (.cons (.con (.int 2)) .nil))) .nil))) .nil))))
  .nil))
def B__law_cells : Sx := (.cons (.seto 2 (.or (.op .list (.cons (.op (.sl false true) (.cons (.var 0) (.cons (.var 1) .nil))) .nil)) (.lst (.cons (.con (.int 0)) .nil))))
  (.cons (.for_ (.tp [3, 4]) (.itEnum (.sl2 (.var 0) (.var 1) (.con (.int 63))))
  S__law_cells_0)
  (.cons (.ret (.var 2))
  .nil)))
def I__law_cells : FnI := { modes := [false, false], own := false, n := 6, body := B__law_cells }
def B__law_of : Sx := (.cons (.ret (.op .ix (.cons (.var 1) (.cons (.call x__law_take [0, 1] (.cons (.lend 0) (.cons (.op .len (.cons (.var 1) .nil)) .nil))) .nil))))
  .nil)
def I__law_of : FnI := { modes := [true, false], own := false, n := 2, body := B__law_of }
def S__law_pick_0 : Sx := (.cons (.expr (.mu .append 5 (.cons (.mu .pop1 4 (.cons (.call x__law_take [0, 1] (.cons (.lend 0) (.cons (.op .len (.cons (.pk 4) .nil)) .nil))) .nil)) .nil)))
  .nil)
def B__law_pick : Sx := (.cons (.par [4, 5] (.cons (.give (.op .list (.cons (.var 1) .nil))) (.cons (.give (.lst .nil)) .nil)))
  (.cons (.for_ (.nm 3) (.itRange (.cons (.op .min2 (.cons (.var 2) (.cons (.op .len (.cons (.pk 4) .nil)) .nil))) .nil))
  S__law_pick_0)
  (.cons (.ret (.var 5))
  .nil)))
def I__law_pick : FnI := { modes := [true, false, false], own := false, n := 6, body := B__law_pick }
def E__law_lists_0 : Ex := (.comp (.call x__law_lists [0] (.cons (.var 1) .nil)) (.nm 1) (.itOf (.var 0)) .nil)
@[simp] theorem E__law_lists_0_a {C : Calls} : (sem C E__law_lists_0).a = bnd (sem C E__law_lists_0).v fun d => gives (.vl d) := rfl
@[simp] theorem E__law_lists_0_t {C : Calls} : (sem C E__law_lists_0).t = bnd (sem C E__law_lists_0).v fun d => lift (truD d) := rfl
def B__law_lists : Sx := (.cons (.ret (.ife (.op (.isis [.list, .tuple]) (.cons (.var 0) .nil)) E__law_lists_0 (.var 0)))
  .nil)
def I__law_lists : FnI := { modes := [false], own := false, n := 2, body := B__law_lists }
def E__law_same_0 : Ex := (.comp (.call x__law_same [0, 1] (.cons (.var 3) (.cons (.var 4) .nil))) (.tp [3, 4]) (.itZip (.cons (.var 0) (.cons (.var 1) .nil))) .nil)
@[simp] theorem E__law_same_0_a {C : Calls} : (sem C E__law_same_0).a = bnd (sem C E__law_same_0).v fun d => gives (.vl d) := rfl
@[simp] theorem E__law_same_0_t {C : Calls} : (sem C E__law_same_0).t = bnd (sem C E__law_same_0).v fun d => lift (truD d) := rfl
def E__law_same_1 : Ex := (.comp (.call x__law_same [0, 1] (.cons (.op .ix (.cons (.var 0) (.cons (.var 2) .nil))) (.cons (.op .ix (.cons (.var 1) (.cons (.var 2) .nil))) .nil))) (.nm 2) (.itOf (.var 1)) .nil)
@[simp] theorem E__law_same_1_a {C : Calls} : (sem C E__law_same_1).a = bnd (sem C E__law_same_1).v fun d => gives (.vl d) := rfl
@[simp] theorem E__law_same_1_t {C : Calls} : (sem C E__law_same_1).t = bnd (sem C E__law_same_1).v fun d => lift (truD d) := rfl
def B__law_same : Sx := (.cons (.ife (.op (.isis [.list, .tuple]) (.cons (.var 1) .nil))
  (.cons (.ife (.or (.op .ne (.cons (.op (.isi .list) (.cons (.var 0) .nil)) (.cons (.op (.isi .list) (.cons (.var 1) .nil)) .nil))) (.op .ne (.cons (.op (.isi .tuple) (.cons (.var 0) .nil)) (.cons (.op (.isi .tuple) (.cons (.var 1) .nil)) .nil))))
  (.cons (.ret (.con (.bool false)))
  .nil)
  .nil)
  (.cons (.ret (.and (.op .eq (.cons (.op .len (.cons (.var 0) .nil)) (.cons (.op .len (.cons (.var 1) .nil)) .nil))) (.op .all (.cons E__law_same_0 .nil))))
  .nil))
  .nil)
  (.cons (.ife (.op (.isi .dict) (.cons (.var 1) .nil))
  (.cons (.ife (.or (.not (.op (.isi .dict) (.cons (.var 0) .nil))) (.op .ne (.cons (.op .sorted (.cons (.var 0) .nil)) (.cons (.op .sorted (.cons (.var 1) .nil)) .nil))))
  (.cons (.ret (.con (.bool false)))
  .nil)
  .nil)
  (.cons (.ret (.op .all (.cons E__law_same_1 .nil)))
  .nil))
  .nil)
  (.cons (.ife (.or (.op .isN (.cons (.var 1) .nil)) (.op (.isis [.bool, .str]) (.cons (.var 1) .nil)))
  (.cons (.ret (.and (.op .eq (.cons (.var 0) (.cons (.var 1) .nil))) (.and (.op .eq (.cons (.op (.isi .bool) (.cons (.var 0) .nil)) (.cons (.op (.isi .bool) (.cons (.var 1) .nil)) .nil))) (.op .eq (.cons (.op .isN (.cons (.var 0) .nil)) (.cons (.op .isN (.cons (.var 1) .nil)) .nil))))))
  .nil)
  .nil)
  (.cons (.ret (.and (.op (.isi .int) (.cons (.var 0) .nil)) (.and (.not (.op (.isi .bool) (.cons (.var 0) .nil))) (.op .eq (.cons (.var 0) (.cons (.var 1) .nil))))))
  .nil))))
def I__law_same : FnI := { modes := [false, false], own := false, n := 5, body := B__law_same }
def B__law_turning : Sx := (.cons (.ret (.op .tuple (.cons (.call x__law_pick [0, 1, 2] (.cons (.lend 0) (.cons (.op .listR (.cons (.var 1) .nil)) (.cons (.var 1) .nil)))) .nil)))
  .nil)
def I__law_turning : FnI := { modes := [true, false], own := false, n := 2, body := B__law_turning }
def S__law_breath_0 : Sx := (.cons (.ife (.op .ne (.cons (.var 7) (.cons (.con (.str "-")) .nil)))
  (.cons (.sub 5 (.var 7) (.op .add (.cons (.mt .get2 (.pk 5) (.cons (.var 7) (.cons (.con (.int 0)) .nil))) (.cons (.mt .get2 (.var 4) (.cons (.op .ix (.cons (.var 6) (.cons (.con (.int 0)) .nil))) (.cons (.con (.int 0)) .nil))) .nil))))
  .nil)
  .nil)
  .nil)
def S__law_breath_1 : Sx := (.cons (.for_ (.nm 7) (.itOf (.op .ix (.cons (.var 6) (.cons (.con (.int 2)) .nil))))
  S__law_breath_0)
  .nil)
def E__law_breath_2 : Ex := (.comp (.op .ix (.cons (.pk 5) (.cons (.var 6) .nil))) (.nm 6) (.itOf (.var 5)) .nil)
@[simp] theorem E__law_breath_2_a {C : Calls} : (sem C E__law_breath_2).a = bnd (sem C E__law_breath_2).v fun d => gives (.vl d) := rfl
@[simp] theorem E__law_breath_2_t {C : Calls} : (sem C E__law_breath_2).t = bnd (sem C E__law_breath_2).v fun d => lift (truD d) := rfl
def S__law_breath_3 : Sx := (.cons (.seto 5 .dct0)
  (.cons (.for_ (.nm 6) (.itOf (.op .ix (.cons (.var 0) (.cons (.con (.int 1)) .nil))))
  S__law_breath_1)
  (.cons (.par [4, 3] (.cons (.var 5) (.cons (.op .max2 (.cons (.var 3) (.cons (.op .sum (.cons E__law_breath_2 .nil)) .nil))) .nil)))
  .nil)))
def B__law_breath : Sx := (.cons (.par [3, 4] (.cons (.con (.int 1)) (.cons (.dct1 (.var 1) (.con (.int 1))) .nil)))
  (.cons (.for_ (.nm 2) (.itRange (.cons (.con (.int 12)) .nil))
  S__law_breath_3)
  (.cons (.ret (.var 3))
  .nil)))
def I__law_breath : FnI := { modes := [false, false], own := false, n := 8, body := B__law_breath }
def E__law_known_kit_0 : Ex := (.comp (.tup (.cons (.op .ix (.cons (.var 4) (.cons (.var 10) .nil))) (.cons (.op .ix (.cons (.var 4) (.cons (.op .ix (.cons (.var 7) (.cons (.var 10) .nil))) .nil))) (.cons (.op .ix (.cons (.var 8) (.cons (.var 10) .nil))) .nil)))) (.nm 10) (.itRange (.cons (.op .ix (.cons (.var 3) (.cons (.con (.int 0)) .nil))) .nil)) .nil)
@[simp] theorem E__law_known_kit_0_a {C : Calls} : (sem C E__law_known_kit_0).a = bnd (sem C E__law_known_kit_0).v fun d => gives (.vl d) := rfl
@[simp] theorem E__law_known_kit_0_t {C : Calls} : (sem C E__law_known_kit_0).t = bnd (sem C E__law_known_kit_0).v fun d => lift (truD d) := rfl
def E__law_known_kit_1 : Ex := (.comp (.op .ix (.cons (.var 11) (.cons (.con (.int 1)) .nil))) (.nm 11) (.itOf (.var 9)) .nil)
@[simp] theorem E__law_known_kit_1_a {C : Calls} : (sem C E__law_known_kit_1).a = bnd (sem C E__law_known_kit_1).v fun d => gives (.vl d) := rfl
@[simp] theorem E__law_known_kit_1_t {C : Calls} : (sem C E__law_known_kit_1).t = bnd (sem C E__law_known_kit_1).v fun d => lift (truD d) := rfl
def E__law_known_kit_2 : Ex := (.comp (.op .ix (.cons (.var 11) (.cons (.con (.int 2)) .nil))) (.nm 11) (.itOf (.var 9)) .nil)
@[simp] theorem E__law_known_kit_2_a {C : Calls} : (sem C E__law_known_kit_2).a = bnd (sem C E__law_known_kit_2).v fun d => gives (.vl d) := rfl
@[simp] theorem E__law_known_kit_2_t {C : Calls} : (sem C E__law_known_kit_2).t = bnd (sem C E__law_known_kit_2).v fun d => lift (truD d) := rfl
def S__law_known_kit_3 : Sx := (.cons (.set 9 E__law_known_kit_0)
  (.cons (.set 9 (.op .sorted (.cons (.var 9) .nil)))
  (.cons (.expr (.mu .append 5 (.cons (.tup (.cons (.var 6) (.cons (.op .tuple (.cons E__law_known_kit_1 .nil)) (.cons (.op .tuple (.cons E__law_known_kit_2 .nil)) .nil)))) .nil)))
  .nil)))
def B__law_known_kit : Sx := (.cons (.seto 1 (.lst (.cons (.tup (.cons (.con (.int 2)) (.cons (.tup (.cons (.tup (.cons (.con (.str "c")) (.cons (.tup (.cons (.con (.int 1)) (.cons (.con (.int 0)) .nil))) (.cons (.tup (.cons (.con (.str "-")) (.cons (.con (.str "c")) .nil))) .nil)))) .nil)) .nil))) (.cons (.tup (.cons (.con (.int 3)) (.cons (.tup (.cons (.tup (.cons (.con (.str "c")) (.cons (.tup (.cons (.con (.int 1)) (.cons (.con (.int 2)) (.cons (.con (.int 0)) .nil)))) (.cons (.tup (.cons (.con (.str "-")) (.cons (.con (.str "-")) (.cons (.con (.str "c")) .nil)))) .nil)))) .nil)) .nil))) .nil))))
  (.cons (.expr (.mu .append 1 (.cons (.tup (.cons (.con (.int 2)) (.cons (.tup (.cons (.tup (.cons (.con (.str "c")) (.cons (.tup (.cons (.con (.int 1)) (.cons (.con (.int 0)) .nil))) (.cons (.tup (.cons (.con (.str "c")) (.cons (.con (.str "-")) .nil))) .nil)))) .nil)) .nil))) .nil)))
  (.cons (.set 2 (.tup (.cons (.tup (.cons (.con (.str "p")) (.cons (.tup (.cons (.con (.int 1)) (.cons (.con (.int 0)) (.cons (.con (.int 2)) .nil)))) (.cons (.tup (.cons (.con (.str "-")) (.cons (.con (.str "-")) (.cons (.con (.str "p")) .nil)))) .nil)))) (.cons (.tup (.cons (.con (.str "q")) (.cons (.tup (.cons (.con (.int 0)) (.cons (.con (.int 2)) (.cons (.con (.int 1)) .nil)))) (.cons (.tup (.cons (.con (.str "q")) (.cons (.con (.str "-")) (.cons (.con (.str "-")) .nil)))) .nil)))) (.cons (.tup (.cons (.con (.str "r")) (.cons (.tup (.cons (.con (.int 2)) (.cons (.con (.int 1)) (.cons (.con (.int 0)) .nil)))) (.cons (.tup (.cons (.con (.str "-")) (.cons (.con (.str "r")) (.cons (.con (.str "-")) .nil)))) .nil)))) .nil)))))
  (.cons (.set 3 (.call x__law_of [0, 1] (.cons (.lend 0) (.cons (.op .add (.cons (.pk 1) (.cons (.lst (.cons (.tup (.cons (.con (.int 3)) (.cons (.var 2) .nil))) (.cons (.tup (.cons (.con (.int 2)) (.cons (.tup (.cons (.tup (.cons (.con (.str "a")) (.cons (.tup (.cons (.con (.int 1)) (.cons (.con (.int 0)) .nil))) (.cons (.tup (.cons (.con (.str "-")) (.cons (.con (.str "-")) .nil))) .nil)))) (.cons (.tup (.cons (.con (.str "b")) (.cons (.tup (.cons (.con (.int 0)) (.cons (.con (.int 1)) .nil))) (.cons (.tup (.cons (.con (.str "b")) (.cons (.con (.str "a")) .nil))) .nil)))) .nil))) .nil))) .nil))) .nil))) .nil))))
  (.cons (.set 4 (.call x__law_turning [0, 1] (.cons (.lend 0) (.cons (.op .ix (.cons (.var 3) (.cons (.con (.int 0)) .nil))) .nil))))
  (.cons (.seto 5 (.lst .nil))
  (.cons (.for_ (.tp [6, 7, 8]) (.itOf (.op .ix (.cons (.var 3) (.cons (.con (.int 1)) .nil))))
  S__law_known_kit_3)
  (.cons (.ret (.tup (.cons (.op .ix (.cons (.var 3) (.cons (.con (.int 0)) .nil))) (.cons (.op .tuple (.cons (.pk 5) .nil)) .nil))))
  .nil))))))))
def I__law_known_kit : FnI := { modes := [true], own := false, n := 12, body := B__law_known_kit }
def E__law_kit_0 : Ex := (.comp (.call x__law_of [0, 1] (.cons (.lend 0) (.cons (.lst (.cons (.con (.int 0)) (.cons (.con (.int 1)) (.cons (.con (.int 1)) (.cons (.con (.int 2)) .nil))))) .nil))) (.nm 8) (.itOf (.var 3)) .nil)
@[simp] theorem E__law_kit_0_a {C : Calls} : (sem C E__law_kit_0).a = bnd (sem C E__law_kit_0).v fun d => gives (.vl d) := rfl
@[simp] theorem E__law_kit_0_t {C : Calls} : (sem C E__law_kit_0).t = bnd (sem C E__law_kit_0).v fun d => lift (truD d) := rfl
def E__law_kit_1 : Ex := (.comp (.op .ix (.cons (.var 3) (.cons (.var 12) .nil))) (.nm 12) (.itRange (.cons (.op .len (.cons (.var 3) .nil)) .nil)) (.cons (.and (.op .eq (.cons (.op .ix (.cons (.var 4) (.cons (.var 12) .nil))) (.cons (.con (.int 2)) .nil))) (.or (.op .lt (.cons (.op .ix (.cons (.var 4) (.cons (.var 7) .nil))) (.cons (.con (.int 2)) .nil))) (.op .gt (.cons (.var 12) (.cons (.var 7) .nil))))) .nil))
@[simp] theorem E__law_kit_1_a {C : Calls} : (sem C E__law_kit_1).a = bnd (sem C E__law_kit_1).v fun d => gives (.vl d) := rfl
@[simp] theorem E__law_kit_1_t {C : Calls} : (sem C E__law_kit_1).t = bnd (sem C E__law_kit_1).v fun d => lift (truD d) := rfl
def E__law_kit_2 : Ex := (.comp (.op .ix (.cons (.var 3) (.cons (.var 12) .nil))) (.nm 12) (.itRange (.cons (.op .len (.cons (.var 3) .nil)) .nil)) (.cons (.or (.op .eq (.cons (.op .ix (.cons (.var 4) (.cons (.var 12) .nil))) (.cons (.con (.int 1)) .nil))) (.and (.op .eq (.cons (.op .ix (.cons (.var 4) (.cons (.var 12) .nil))) (.cons (.con (.int 0)) .nil))) (.op .gt (.cons (.var 12) (.cons (.var 7) .nil))))) .nil))
@[simp] theorem E__law_kit_2_a {C : Calls} : (sem C E__law_kit_2).a = bnd (sem C E__law_kit_2).v fun d => gives (.vl d) := rfl
@[simp] theorem E__law_kit_2_t {C : Calls} : (sem C E__law_kit_2).t = bnd (sem C E__law_kit_2).v fun d => lift (truD d) := rfl
def E__law_kit_3 : Ex := (.comp (.call x__law_of [0, 1] (.cons (.lend 0) (.cons (.var 10) .nil))) (.nm 13) (.itRange (.cons (.var 2) .nil)) .nil)
@[simp] theorem E__law_kit_3_a {C : Calls} : (sem C E__law_kit_3).a = bnd (sem C E__law_kit_3).v fun d => gives (.vl d) := rfl
@[simp] theorem E__law_kit_3_t {C : Calls} : (sem C E__law_kit_3).t = bnd (sem C E__law_kit_3).v fun d => lift (truD d) := rfl
def S__law_kit_4 : Sx := (.cons (.set 9 E__law_kit_1)
  (.cons (.set 10 (.op .add (.cons (.lst (.cons (.con (.str "-")) .nil)) (.cons (.var 9) .nil))))
  (.cons (.ife (.op .eq (.cons (.op .ix (.cons (.var 4) (.cons (.var 7) .nil))) (.cons (.con (.int 0)) .nil)))
  (.cons (.set 10 (.op .add (.cons (.var 10) (.cons E__law_kit_2 .nil))))
  .nil)
  .nil)
  (.cons (.seto 11 E__law_kit_3)
  (.cons (.ife (.op .eq (.cons (.op .ix (.cons (.var 4) (.cons (.var 7) .nil))) (.cons (.con (.int 1)) .nil)))
  (.cons (.sub 11 (.call x__law_take [0, 1] (.cons (.lend 0) (.cons (.var 2) .nil))) (.var 8))
  .nil)
  .nil)
  (.cons (.expr (.mu .append 5 (.cons (.tup (.cons (.var 8) (.cons (.call x__law_turning [0, 1] (.cons (.lend 0) (.cons (.var 2) .nil))) (.cons (.op .tuple (.cons (.pk 11) .nil)) .nil)))) .nil)))
  .nil))))))
def E__law_kit_5 : Ex := (.comp (.call x__law_breath [0, 1] (.cons (.var 6) (.cons (.var 8) .nil))) (.nm 8) (.itOf (.var 3)) .nil)
@[simp] theorem E__law_kit_5_a {C : Calls} : (sem C E__law_kit_5).a = bnd (sem C E__law_kit_5).v fun d => gives (.vl d) := rfl
@[simp] theorem E__law_kit_5_t {C : Calls} : (sem C E__law_kit_5).t = bnd (sem C E__law_kit_5).v fun d => lift (truD d) := rfl
def B__law_kit : Sx := (.cons (.set 2 (.call x__law_of [0, 1] (.cons (.lend 0) (.cons (.lst (.cons (.con (.int 2)) (.cons (.con (.int 2)) (.cons (.con (.int 2)) (.cons (.con (.int 3)) .nil))))) .nil))))
  (.cons (.set 3 (.op .sorted (.cons (.call x__law_pick [0, 1, 2] (.cons (.lend 0) (.cons (.lst (.cons (.con (.str "a")) (.cons (.con (.str "b.1")) (.cons (.con (.str "c")) (.cons (.con (.str "k")) (.cons (.con (.str "m2")) (.cons (.con (.str "q")) (.cons (.con (.str "z")) .nil)))))))) (.cons (.op .add (.cons (.con (.int 1)) (.cons (.call x__law_take [0, 1] (.cons (.lend 0) (.cons (.var 1) .nil))) .nil))) .nil)))) .nil)))
  (.cons (.set 4 E__law_kit_0)
  (.cons (.seto 5 (.lst .nil))
  (.cons (.for_ (.tp [7, 8]) (.itEnum (.var 3))
  S__law_kit_4)
  (.cons (.set 6 (.tup (.cons (.var 2) (.cons (.op .tuple (.cons (.pk 5) .nil)) .nil))))
  (.cons (.ret (.ife (.op .lt (.cons (.op .max1 (.cons E__law_kit_5 .nil)) (.cons (.con (.int 17)) .nil))) (.var 6) (.call x__law_known_kit [0] (.cons (.lend 0) .nil))))
  .nil)))))))
def I__law_kit : FnI := { modes := [true, false], own := false, n := 14, body := B__law_kit }
def S__law_deeds_0 : Sx := (.cons (.set 6 (.op .ix (.cons (.call x__law_of [0, 1] (.cons (.lend 0) (.cons (.op .ix (.cons (.var 1) (.cons (.con (.int 1)) .nil))) .nil))) (.cons (.con (.int 0)) .nil))))
  (.cons (.set 7 (.call x__law_breath [0, 1] (.cons (.var 1) (.cons (.var 6) .nil))))
  (.cons (.ife (.op .le (.cons (.var 7) (.cons (.var 5) .nil)))
  (.cons (.expr (.mu .append 4 (.cons (.ife (.op .eq (.cons (.call x__law_take [0, 1] (.cons (.lend 0) (.cons (.con (.int 3)) .nil))) (.cons (.con (.int 0)) .nil))) (.op .add (.cons (.var 6) (.cons (.con (.str "-")) .nil))) (.var 6)) .nil)))
  (.cons (.set 5 (.op .sub (.cons (.var 5) (.cons (.var 7) .nil))))
  .nil))
  .nil)
  .nil)))
def B__law_deeds : Sx := (.cons (.par [4, 5] (.cons (.give (.lst .nil)) (.cons (.con (.int 24)) .nil)))
  (.cons (.for_ (.nm 3) (.itRange (.cons (.call x__law_take [0, 1] (.cons (.lend 0) (.cons (.op .add (.cons (.var 2) (.cons (.con (.int 1)) .nil))) .nil))) .nil))
  S__law_deeds_0)
  (.cons (.ret (.op .tuple (.cons (.pk 4) .nil)))
  .nil)))
def I__law_deeds : FnI := { modes := [true, false, false], own := false, n := 8, body := B__law_deeds }
def E__law_line_0 : Ex := (.comp (.call x__law_take [0, 1] (.cons (.lend 0) (.cons (.op .ix (.cons (.var 1) (.cons (.con (.int 0)) .nil))) .nil))) (.nm 3) (.itRange (.cons (.var 2) .nil)) .nil)
@[simp] theorem E__law_line_0_a {C : Calls} : (sem C E__law_line_0).a = bnd (sem C E__law_line_0).v fun d => gives (.vl d) := rfl
@[simp] theorem E__law_line_0_t {C : Calls} : (sem C E__law_line_0).t = bnd (sem C E__law_line_0).v fun d => lift (truD d) := rfl
def B__law_line : Sx := (.cons (.ret (.op .tuple (.cons E__law_line_0 .nil)))
  .nil)
def I__law_line : FnI := { modes := [true, false, false], own := false, n := 4, body := B__law_line }
def B__law_is_count : Sx := (.cons (.ret (.and (.op (.isi .int) (.cons (.var 0) .nil)) (.not (.op (.isi .bool) (.cons (.var 0) .nil)))))
  .nil)
def I__law_is_count : FnI := { modes := [false], own := false, n := 1, body := B__law_is_count }
def E__law_is_deed_0 : Ex := (.comp (.op .ix (.cons (.var 3) (.cons (.con (.int 0)) .nil))) (.nm 3) (.itOf (.op .ix (.cons (.var 0) (.cons (.con (.int 1)) .nil)))) .nil)
@[simp] theorem E__law_is_deed_0_a {C : Calls} : (sem C E__law_is_deed_0).a = bnd (sem C E__law_is_deed_0).v fun d => gives (.vl d) := rfl
@[simp] theorem E__law_is_deed_0_t {C : Calls} : (sem C E__law_is_deed_0).t = bnd (sem C E__law_is_deed_0).v fun d => lift (truD d) := rfl
def B__law_is_deed : Sx := (.cons (.set 2 E__law_is_deed_0)
  (.cons (.ife (.or (.not (.op (.isi .str) (.cons (.var 1) .nil))) (.op .eq (.cons (.var 1) (.cons (.con (.str "")) .nil))))
  (.cons (.ret (.con (.bool false)))
  .nil)
  .nil)
  (.cons (.ret (.or (.op .inn (.cons (.var 1) (.cons (.var 2) .nil))) (.and (.op .eq (.cons (.op .ix (.cons (.var 1) (.cons (.op .neg (.cons (.con (.int 1)) .nil)) .nil))) (.cons (.con (.str "-")) .nil))) (.op .inn (.cons (.op (.sl false true) (.cons (.var 1) (.cons (.op .neg (.cons (.con (.int 1)) .nil)) .nil))) (.cons (.var 2) .nil))))))
  .nil)))
def I__law_is_deed : FnI := { modes := [false, false], own := false, n := 4, body := B__law_is_deed }
def E__law_is_word_0 : Ex := (.comp (.var 2) (.nm 2) (.itOf (.var 1)) (.cons (.not (.call x__law_is_deed [0, 1] (.cons (.var 0) (.cons (.var 2) .nil)))) .nil))
@[simp] theorem E__law_is_word_0_a {C : Calls} : (sem C E__law_is_word_0).a = bnd (sem C E__law_is_word_0).v fun d => gives (.vl d) := rfl
@[simp] theorem E__law_is_word_0_t {C : Calls} : (sem C E__law_is_word_0).t = bnd (sem C E__law_is_word_0).v fun d => lift (truD d) := rfl
def B__law_is_word : Sx := (.cons (.ret (.and (.op (.isi .tuple) (.cons (.var 1) .nil)) (.op .eq (.cons E__law_is_word_0 (.cons (.lst .nil) .nil)))))
  .nil)
def I__law_is_word : FnI := { modes := [false, false], own := false, n := 3, body := B__law_is_word }
def S__law_is_program_0 : Sx := (.cons (.ife (.or (.not (.op (.isi .tuple) (.cons (.var 2) .nil))) (.or (.op .ne (.cons (.op .len (.cons (.var 2) .nil)) (.cons (.con (.int 2)) .nil))) (.or (.not (.call x__law_is_word [0, 1] (.cons (.var 0) (.cons (.op .ix (.cons (.var 2) (.cons (.con (.int 0)) .nil))) .nil)))) (.not (.call x__law_is_count [0] (.cons (.op .ix (.cons (.var 2) (.cons (.con (.int 1)) .nil))) .nil))))))
  (.cons (.ret (.con (.bool false)))
  .nil)
  .nil)
  .nil)
def B__law_is_program : Sx := (.cons (.ife (.not (.op (.isi .tuple) (.cons (.var 1) .nil)))
  (.cons (.ret (.con (.bool false)))
  .nil)
  .nil)
  (.cons (.for_ (.nm 2) (.itOf (.var 1))
  S__law_is_program_0)
  (.cons (.ret (.con (.bool true)))
  .nil)))
def I__law_is_program : FnI := { modes := [false, false], own := false, n := 3, body := B__law_is_program }
def E__law_is_line_0 : Ex := (.comp (.var 2) (.nm 2) (.itOf (.var 1)) (.cons (.or (.not (.call x__law_is_count [0] (.cons (.var 2) .nil))) (.not (.chain .le .lt (.con (.int 0)) (.var 2) (.op .ix (.cons (.var 0) (.cons (.con (.int 0)) .nil)))))) .nil))
@[simp] theorem E__law_is_line_0_a {C : Calls} : (sem C E__law_is_line_0).a = bnd (sem C E__law_is_line_0).v fun d => gives (.vl d) := rfl
@[simp] theorem E__law_is_line_0_t {C : Calls} : (sem C E__law_is_line_0).t = bnd (sem C E__law_is_line_0).v fun d => lift (truD d) := rfl
def B__law_is_line : Sx := (.cons (.ife (.not (.op (.isi .tuple) (.cons (.var 1) .nil)))
  (.cons (.ret (.con (.bool false)))
  .nil)
  .nil)
  (.cons (.ret (.op .eq (.cons E__law_is_line_0 (.cons (.lst .nil) .nil))))
  .nil))
def I__law_is_line : FnI := { modes := [false, false], own := false, n := 3, body := B__law_is_line }
def B__law_spoilt : Sx := (.cons (.ife (.or (.op .eq (.cons (.var 3) (.cons (.con (.int 0)) .nil))) (.or (.not (.op (.isi .tuple) (.cons (.var 1) .nil))) (.or (.op .eq (.cons (.op .len (.cons (.var 1) .nil)) (.cons (.con (.int 0)) .nil))) (.op .eq (.cons (.call x__law_take [0, 1] (.cons (.lend 0) (.cons (.con (.int 5)) .nil))) (.cons (.con (.int 0)) .nil))))))
  (.cons (.ret (.call x__law_of [0, 1] (.cons (.lend 0) (.cons (.var 2) .nil))))
  .nil)
  .nil)
  (.cons (.par [4, 5] (.cons (.call x__law_take [0, 1] (.cons (.lend 0) (.cons (.op .len (.cons (.var 1) .nil)) .nil))) (.cons (.call x__law_take [0, 1] (.cons (.lend 0) (.cons (.con (.int 8)) .nil))) .nil)))
  (.cons (.ife (.op .eq (.cons (.var 5) (.cons (.con (.int 0)) .nil)))
  (.cons (.ret (.op .add (.cons (.op (.sl false true) (.cons (.var 1) (.cons (.var 4) .nil))) (.cons (.op (.sl true false) (.cons (.var 1) (.cons (.op .add (.cons (.var 4) (.cons (.con (.int 1)) .nil))) .nil))) .nil))))
  .nil)
  .nil)
  (.cons (.ife (.op .eq (.cons (.var 5) (.cons (.con (.int 1)) .nil)))
  (.cons (.ret (.op .add (.cons (.op .add (.cons (.op (.sl false true) (.cons (.var 1) (.cons (.var 4) .nil))) (.cons (.tup (.cons (.op .ix (.cons (.var 1) (.cons (.var 4) .nil))) .nil)) .nil))) (.cons (.op (.sl true false) (.cons (.var 1) (.cons (.var 4) .nil))) .nil))))
  .nil)
  .nil)
  (.cons (.ife (.op .eq (.cons (.var 5) (.cons (.con (.int 2)) .nil)))
  (.cons (.ret (.op .list (.cons (.var 1) .nil)))
  .nil)
  .nil)
  (.cons (.ret (.op .add (.cons (.op .add (.cons (.op (.sl false true) (.cons (.var 1) (.cons (.var 4) .nil))) (.cons (.tup (.cons (.call x__law_spoilt [0, 1, 2, 3] (.cons (.lend 0) (.cons (.op .ix (.cons (.var 1) (.cons (.var 4) .nil))) (.cons (.var 2) (.cons (.op .sub (.cons (.var 3) (.cons (.con (.int 1)) .nil))) .nil))))) .nil)) .nil))) (.cons (.op (.sl true false) (.cons (.var 1) (.cons (.op .add (.cons (.var 4) (.cons (.con (.int 1)) .nil))) .nil))) .nil))))
  .nil))))))
def I__law_spoilt : FnI := { modes := [true, false, false, false], own := false, n := 6, body := B__law_spoilt }
def E__law_hand_right_0 : Ex := (.comp (.call x_is_deed [0, 1] (.cons (.var 0) (.cons (.var 2) .nil))) (.nm 2) (.itOf (.var 1)) .nil)
@[simp] theorem E__law_hand_right_0_a {C : Calls} : (sem C E__law_hand_right_0).a = bnd (sem C E__law_hand_right_0).v fun d => gives (.vl d) := rfl
@[simp] theorem E__law_hand_right_0_t {C : Calls} : (sem C E__law_hand_right_0).t = bnd (sem C E__law_hand_right_0).v fun d => lift (truD d) := rfl
def E__law_hand_right_1 : Ex := (.comp (.call x_is_word [0, 1] (.cons (.var 0) (.cons (.var 2) .nil))) (.nm 2) (.itOf (.var 1)) .nil)
@[simp] theorem E__law_hand_right_1_a {C : Calls} : (sem C E__law_hand_right_1).a = bnd (sem C E__law_hand_right_1).v fun d => gives (.vl d) := rfl
@[simp] theorem E__law_hand_right_1_t {C : Calls} : (sem C E__law_hand_right_1).t = bnd (sem C E__law_hand_right_1).v fun d => lift (truD d) := rfl
def E__law_hand_right_2 : Ex := (.comp (.call x_is_program [0, 1] (.cons (.var 0) (.cons (.var 2) .nil))) (.nm 2) (.itOf (.var 1)) .nil)
@[simp] theorem E__law_hand_right_2_a {C : Calls} : (sem C E__law_hand_right_2).a = bnd (sem C E__law_hand_right_2).v fun d => gives (.vl d) := rfl
@[simp] theorem E__law_hand_right_2_t {C : Calls} : (sem C E__law_hand_right_2).t = bnd (sem C E__law_hand_right_2).v fun d => lift (truD d) := rfl
def E__law_hand_right_3 : Ex := (.comp (.call x_is_row [0, 1] (.cons (.var 0) (.cons (.var 2) .nil))) (.nm 2) (.itOf (.var 1)) .nil)
@[simp] theorem E__law_hand_right_3_a {C : Calls} : (sem C E__law_hand_right_3).a = bnd (sem C E__law_hand_right_3).v fun d => gives (.vl d) := rfl
@[simp] theorem E__law_hand_right_3_t {C : Calls} : (sem C E__law_hand_right_3).t = bnd (sem C E__law_hand_right_3).v fun d => lift (truD d) := rfl
def B__law_hand_right : Sx := (.cons (.set 0 (.tup (.cons (.con (.int 2)) (.cons (.tup (.cons (.tup (.cons (.con (.str "c")) (.cons (.tup (.cons (.con (.int 1)) (.cons (.con (.int 0)) .nil))) (.cons (.tup (.cons (.con (.str "-")) (.cons (.con (.str "c")) .nil))) .nil)))) (.cons (.tup (.cons (.con (.str "d.1")) (.cons (.tup (.cons (.con (.int 0)) (.cons (.con (.int 1)) .nil))) (.cons (.tup (.cons (.con (.str "c")) (.cons (.con (.str "-")) .nil))) .nil)))) .nil))) .nil))))
  (.cons (.set 1 (.lst (.cons (.con (.str "c")) (.cons (.con (.str "c-")) (.cons (.con (.str "d.1-")) (.cons (.con (.str "-")) (.cons (.con (.str "")) (.cons (.con (.str "--")) (.cons (.con (.str "c--")) (.cons (.con (.str "d")) (.cons (.con (.str "C")) (.cons (.con .none) (.cons (.con (.int 0)) (.cons (.tup (.cons (.con (.str "c")) .nil)) (.cons (.lst (.cons (.con (.str "c")) .nil)) (.cons (.con (.str "-c")) (.cons (.con (.str "c -")) .nil)))))))))))))))))
  (.cons (.ife (.not (.call x__law_same [0, 1] (.cons E__law_hand_right_0 (.cons (.op .add (.cons (.op .mul (.cons (.lst (.cons (.con (.bool true)) .nil)) (.cons (.con (.int 3)) .nil))) (.cons (.op .mul (.cons (.lst (.cons (.con (.bool false)) .nil)) (.cons (.con (.int 12)) .nil))) .nil))) .nil))))
  (.cons (.ret (.con (.bool false)))
  .nil)
  .nil)
  (.cons (.set 1 (.lst (.cons (.tup .nil) (.cons (.tup (.cons (.con (.str "c")) .nil)) (.cons (.tup (.cons (.con (.str "c-")) (.cons (.con (.str "c")) (.cons (.con (.str "d.1")) .nil)))) (.cons (.lst (.cons (.con (.str "c")) .nil)) (.cons (.con (.str "c")) (.cons (.tup (.cons (.con (.str "c")) (.cons (.con (.str "e")) .nil))) (.cons (.tup (.cons (.con (.str "c")) (.cons (.con .none) .nil))) (.cons (.tup (.cons (.tup (.cons (.con (.str "c")) .nil)) .nil)) (.cons (.con .none) (.cons (.tup (.cons (.con (.str "c")) (.cons (.con (.int 1)) .nil))) (.cons (.lst .nil) (.cons (.con (.str "cc")) .nil))))))))))))))
  (.cons (.ife (.not (.call x__law_same [0, 1] (.cons E__law_hand_right_1 (.cons (.op .add (.cons (.op .mul (.cons (.lst (.cons (.con (.bool true)) .nil)) (.cons (.con (.int 3)) .nil))) (.cons (.op .mul (.cons (.lst (.cons (.con (.bool false)) .nil)) (.cons (.con (.int 9)) .nil))) .nil))) .nil))))
  (.cons (.ret (.con (.bool false)))
  .nil)
  .nil)
  (.cons (.set 1 (.lst (.cons (.tup .nil) (.cons (.tup (.cons (.tup (.cons (.tup .nil) (.cons (.con (.int 0)) .nil))) .nil)) (.cons (.tup (.cons (.tup (.cons (.tup (.cons (.con (.str "c")) (.cons (.con (.str "c-")) .nil))) (.cons (.op .neg (.cons (.op .pow (.cons (.con (.int 10)) (.cons (.con (.int 30)) .nil))) .nil)) .nil))) (.cons (.tup (.cons (.tup (.cons (.con (.str "d.1")) .nil)) (.cons (.con (.int 3)) .nil))) .nil))) (.cons (.tup (.cons (.tup (.cons (.con (.str "c")) (.cons (.con (.int 3)) .nil))) .nil)) (.cons (.tup (.cons (.tup (.cons (.tup (.cons (.con (.str "c")) .nil)) (.cons (.con (.bool true)) .nil))) .nil)) (.cons (.tup (.cons (.tup (.cons (.tup (.cons (.con (.str "c")) .nil)) (.cons (.con (.str "3")) .nil))) .nil)) .nil))))))))
  (.cons (.set 1 (.op .add (.cons (.var 1) (.cons (.lst (.cons (.tup (.cons (.tup (.cons (.tup (.cons (.con (.str "c")) .nil)) .nil)) .nil)) (.cons (.tup (.cons (.tup (.cons (.tup (.cons (.con (.str "c")) .nil)) (.cons (.con (.int 1)) (.cons (.con (.int 1)) .nil)))) .nil)) (.cons (.lst (.cons (.tup (.cons (.tup (.cons (.con (.str "c")) .nil)) (.cons (.con (.int 1)) .nil))) .nil)) (.cons (.tup (.cons (.lst (.cons (.tup (.cons (.con (.str "c")) .nil)) (.cons (.con (.int 1)) .nil))) .nil)) (.cons (.tup (.cons (.tup (.cons (.lst (.cons (.con (.str "c")) .nil)) (.cons (.con (.int 1)) .nil))) .nil)) (.cons (.con .none) (.cons (.tup (.cons (.con (.str "c")) (.cons (.con (.int 1)) .nil))) .nil)))))))) .nil))))
  (.cons (.set 1 (.op .add (.cons (.var 1) (.cons (.lst (.cons (.con (.str "c")) (.cons (.tup (.cons (.tup (.cons (.con (.int 1)) (.cons (.tup (.cons (.con (.str "c")) .nil)) .nil))) .nil)) .nil))) .nil))))
  (.cons (.ife (.not (.call x__law_same [0, 1] (.cons E__law_hand_right_2 (.cons (.op .add (.cons (.op .mul (.cons (.lst (.cons (.con (.bool true)) .nil)) (.cons (.con (.int 3)) .nil))) (.cons (.op .mul (.cons (.lst (.cons (.con (.bool false)) .nil)) (.cons (.con (.int 12)) .nil))) .nil))) .nil))))
  (.cons (.ret (.con (.bool false)))
  .nil)
  .nil)
  (.cons (.set 1 (.lst (.cons (.tup .nil) (.cons (.tup (.cons (.con (.int 0)) (.cons (.con (.int 1)) (.cons (.con (.int 1)) .nil)))) (.cons (.op .mul (.cons (.tup (.cons (.con (.int 1)) .nil)) (.cons (.con (.int 50)) .nil))) (.cons (.lst (.cons (.con (.int 0)) (.cons (.con (.int 1)) .nil))) (.cons (.tup (.cons (.con (.int 0)) (.cons (.con (.int 2)) .nil))) (.cons (.tup (.cons (.con (.int 0)) (.cons (.op .neg (.cons (.con (.int 1)) .nil)) .nil))) (.cons (.tup (.cons (.con (.bool true)) .nil)) (.cons (.tup (.cons (.con (.str "0")) .nil)) (.cons (.tup (.cons (.con (.int 0)) (.cons (.con .none) .nil))) (.cons (.con (.int 0)) (.cons (.con .none) (.cons (.con (.str "01")) (.cons (.tup (.cons (.tup (.cons (.con (.int 0)) .nil)) .nil)) .nil)))))))))))))))
  (.cons (.ret (.call x__law_same [0, 1] (.cons E__law_hand_right_3 (.cons (.op .add (.cons (.op .mul (.cons (.lst (.cons (.con (.bool true)) .nil)) (.cons (.con (.int 3)) .nil))) (.cons (.op .mul (.cons (.lst (.cons (.con (.bool false)) .nil)) (.cons (.con (.int 10)) .nil))) .nil))) .nil))))
  .nil)))))))))))
def I__law_hand_right : FnI := { modes := [], own := false, n := 3, body := B__law_hand_right }
def S__law_right_0 : Sx := (.cons (.expr (.mu .append 3 (.cons (.tup (.cons (.call x__law_deeds [0, 1, 2] (.cons (.lend 0) (.cons (.var 2) (.cons (.con (.int 3)) .nil)))) (.cons (.call x__law_of [0, 1] (.cons (.lend 0) (.cons (.lst (.cons (.con (.int 0)) (.cons (.con (.int 1)) (.cons (.op .neg (.cons (.con (.int 1)) .nil)) (.cons (.con (.int 7)) (.cons (.op .neg (.cons (.op .pow (.cons (.con (.int 10)) (.cons (.con (.int 30)) .nil))) .nil)) .nil)))))) .nil))) .nil))) .nil)))
  .nil)
def S__law_right_1 : Sx := (.cons (.set 7 (.lst (.cons (.call x_is_word [0, 1] (.cons (.var 2) (.cons (.var 11) .nil))) (.cons (.call x_is_program [0, 1] (.cons (.call x__law_lists [0] (.cons (.var 2) .nil)) (.cons (.var 11) .nil))) (.cons (.call x_is_row [0, 1] (.cons (.var 2) (.cons (.var 11) .nil))) (.cons (.call x_is_deed [0, 1] (.cons (.var 2) (.cons (.var 11) .nil))) .nil))))))
  (.cons (.seto 12 (.lst (.cons (.call x__law_is_word [0, 1] (.cons (.var 2) (.cons (.var 11) .nil))) (.cons (.call x__law_is_program [0, 1] (.cons (.var 2) (.cons (.var 11) .nil))) (.cons (.call x__law_is_line [0, 1] (.cons (.var 2) (.cons (.var 11) .nil))) (.cons (.con (.bool false)) .nil))))))
  (.cons (.ife (.op (.isi .str) (.cons (.var 11) .nil))
  (.cons (.sub 12 (.con (.int 3)) (.call x__law_is_deed [0, 1] (.cons (.var 2) (.cons (.var 11) .nil))))
  .nil)
  .nil)
  (.cons (.ife (.not (.call x__law_same [0, 1] (.cons (.var 7) (.cons (.var 12) .nil))))
  (.cons (.ret (.con (.bool false)))
  .nil)
  .nil)
  .nil))))
def S__law_right_2 : Sx := (.cons (.for_ (.nm 11) (.itOf (.lst (.cons (.var 6) (.cons (.call x__law_spoilt [0, 1, 2, 3] (.cons (.lend 0) (.cons (.var 6) (.cons (.var 5) (.cons (.con (.int 3)) .nil))))) (.cons (.op .list (.cons (.var 6) .nil)) .nil)))))
  S__law_right_1)
  .nil)
def S__law_right_3 : Sx := (.cons (.set 2 (.ife (.op .eq (.cons (.call x__law_take [0, 1] (.cons (.lend 0) (.cons (.con (.int 2)) .nil))) (.cons (.con (.int 0)) .nil))) (.call x__law_kit [0, 1] (.cons (.lend 0) (.cons (.con (.int 4)) .nil))) (.call x__law_known_kit [0] (.cons (.lend 0) .nil))))
  (.cons (.par [8, 9] (.cons (.call x__law_deeds [0, 1, 2] (.cons (.lend 0) (.cons (.var 2) (.cons (.con (.int 5)) .nil)))) (.cons (.call x__law_line [0, 1, 2] (.cons (.lend 0) (.cons (.var 2) (.cons (.call x__law_take [0, 1] (.cons (.lend 0) (.cons (.con (.int 7)) .nil))) .nil)))) .nil)))
  (.cons (.seto 3 (.lst .nil))
  (.cons (.for_ (.nm 4) (.itRange (.cons (.call x__law_take [0, 1] (.cons (.lend 0) (.cons (.con (.int 4)) .nil))) .nil))
  S__law_right_0)
  (.cons (.par [3, 10] (.cons (.op .tuple (.cons (.pk 3) .nil)) (.cons (.op .ix (.cons (.op .ix (.cons (.op .ix (.cons (.var 2) (.cons (.con (.int 1)) .nil))) (.cons (.con (.int 0)) .nil))) (.cons (.con (.int 0)) .nil))) .nil)))
  (.cons (.set 5 (.lst (.cons (.con (.int 0)) (.cons (.con (.int 1)) (.cons (.con (.int 2)) (.cons (.con (.int 3)) (.cons (.con (.bool true)) (.cons (.con .none) (.cons (.con (.str "")) (.cons (.con (.str "-")) (.cons (.con (.str "zz")) (.cons (.var 10) (.cons (.op .add (.cons (.var 10) (.cons (.con (.str "-")) .nil))) (.cons (.op .add (.cons (.var 10) (.cons (.con (.str "--")) .nil))) (.cons (.tup .nil) (.cons (.lst .nil) (.cons (.var 8) (.cons (.var 9) .nil))))))))))))))))))
  (.cons (.for_ (.nm 6) (.itOf (.lst (.cons (.var 8) (.cons (.var 3) (.cons (.var 9) .nil)))))
  S__law_right_2)
  (.cons (.set 7 (.lst (.cons (.call x_is_word [0, 1] (.cons (.var 2) (.cons (.var 8) .nil))) (.cons (.call x_is_program [0, 1] (.cons (.var 2) (.cons (.var 3) .nil))) (.cons (.call x_is_row [0, 1] (.cons (.var 2) (.cons (.var 9) .nil))) .nil)))))
  (.cons (.ife (.not (.call x__law_same [0, 1] (.cons (.op .add (.cons (.var 7) (.cons (.lst (.cons (.call x_is_deed [0, 1] (.cons (.var 2) (.cons (.op .add (.cons (.op .ix (.cons (.op .ix (.cons (.op .ix (.cons (.var 2) (.cons (.con (.int 1)) .nil))) (.cons (.op .neg (.cons (.con (.int 1)) .nil)) .nil))) (.cons (.con (.int 0)) .nil))) (.cons (.con (.str "-")) .nil))) .nil))) .nil)) .nil))) (.cons (.op .mul (.cons (.lst (.cons (.con (.bool true)) .nil)) (.cons (.con (.int 4)) .nil))) .nil))))
  (.cons (.ret (.con (.bool false)))
  .nil)
  .nil)
  .nil)))))))))
def B__law_right : Sx := (.cons (.ife (.not (.call x__law_hand_right [] .nil))
  (.cons (.ret (.con (.bool false)))
  .nil)
  .nil)
  (.cons (.for_ (.nm 1) (.itRange (.cons (.con (.int 10)) .nil))
  S__law_right_3)
  (.cons (.ret (.con (.bool true)))
  .nil)))
def I__law_right : FnI := { modes := [true], own := false, n := 13, body := B__law_right }
def E_law_0 : Ex := (.comp (.call x__law_right [0] (.cons (.give (.call x__law_box [0, 1] (.cons (.var 1) (.cons (.var 2) .nil)))) .nil)) (.nm 2) (.itRange (.cons (.op .len (.cons (.var 1) .nil)) .nil)) .nil)
@[simp] theorem E_law_0_a {C : Calls} : (sem C E_law_0).a = bnd (sem C E_law_0).v fun d => gives (.vl d) := rfl
@[simp] theorem E_law_0_t {C : Calls} : (sem C E_law_0).t = bnd (sem C E_law_0).v fun d => lift (truD d) := rfl
def B_law : Sx := (.cons (.set 1 (.call x__law_cells [0, 1] (.cons (.var 0) (.cons (.con (.int 3)) .nil))))
  (.cons (.ret (.op .all (.cons E_law_0 .nil)))
  .nil))
def I_law : FnI := { modes := [false], own := false, n := 3, body := B_law }
def tf : List FnI := [I_is_number, I_notes, I_note_of, I_is_deed, I_is_word, I_is_program, I_is_row, I__law_box, I__law_take, I__law_cells, I__law_of, I__law_pick, I__law_lists, I__law_same, I__law_turning, I__law_kit, I__law_breath, I__law_known_kit, I__law_deeds, I__law_line, I__law_is_count, I__law_is_deed, I__law_is_word, I__law_is_program, I__law_is_line, I__law_spoilt, I__law_hand_right, I__law_right, I_law]
theorem at_is_number : tf[x_is_number]? = some I_is_number := rfl
theorem at_notes : tf[x_notes]? = some I_notes := rfl
theorem at_note_of : tf[x_note_of]? = some I_note_of := rfl
theorem at_is_deed : tf[x_is_deed]? = some I_is_deed := rfl
theorem at_is_word : tf[x_is_word]? = some I_is_word := rfl
theorem at_is_program : tf[x_is_program]? = some I_is_program := rfl
theorem at_is_row : tf[x_is_row]? = some I_is_row := rfl
theorem at__law_box : tf[x__law_box]? = some I__law_box := rfl
theorem at__law_take : tf[x__law_take]? = some I__law_take := rfl
theorem at__law_cells : tf[x__law_cells]? = some I__law_cells := rfl
theorem at__law_of : tf[x__law_of]? = some I__law_of := rfl
theorem at__law_pick : tf[x__law_pick]? = some I__law_pick := rfl
theorem at__law_lists : tf[x__law_lists]? = some I__law_lists := rfl
theorem at__law_same : tf[x__law_same]? = some I__law_same := rfl
theorem at__law_turning : tf[x__law_turning]? = some I__law_turning := rfl
theorem at__law_kit : tf[x__law_kit]? = some I__law_kit := rfl
theorem at__law_breath : tf[x__law_breath]? = some I__law_breath := rfl
theorem at__law_known_kit : tf[x__law_known_kit]? = some I__law_known_kit := rfl
theorem at__law_deeds : tf[x__law_deeds]? = some I__law_deeds := rfl
theorem at__law_line : tf[x__law_line]? = some I__law_line := rfl
theorem at__law_is_count : tf[x__law_is_count]? = some I__law_is_count := rfl
theorem at__law_is_deed : tf[x__law_is_deed]? = some I__law_is_deed := rfl
theorem at__law_is_word : tf[x__law_is_word]? = some I__law_is_word := rfl
theorem at__law_is_program : tf[x__law_is_program]? = some I__law_is_program := rfl
theorem at__law_is_line : tf[x__law_is_line]? = some I__law_is_line := rfl
theorem at__law_spoilt : tf[x__law_spoilt]? = some I__law_spoilt := rfl
theorem at__law_hand_right : tf[x__law_hand_right]? = some I__law_hand_right := rfl
theorem at__law_right : tf[x__law_right]? = some I__law_right := rfl
theorem at_law : tf[x_law]? = some I_law := rfl
end L01

namespace L01
open PySem FC
section
variable {n : Nat}
theorem dInv_val {p : Dd} (h : okN p.1) : (if p.2 then some (.str p.1) else opAdd (dD p) (.str dash)) = some (dD (dInv p)) := by
  cases hb : p.2 with
  | false =>
    have : dD p = .str p.1 := by simp [dD, dS, hb]
    rw [this]
    simp [add_dash p.1 h.2.1, dInv, dD, dS, hb]
  | true => simp [dInv, dD, dS, hb]
theorem rangeN (b : Nat) : rgD (b : Int) = (List.range b).map nD := by
  unfold rgD nD
  rw [Int.toNat_natCast]
  simp
theorem small_nat {b : Nat} (h : b < 2 ^ 62) : smallI (b : Int) = true := by
  unfold smallI
  simp only [decide_eq_true_eq]
  omega
theorem nD_sh (x : Nat) : sh (nD x) = true := rfl
theorem findN {l : List Nat} {x : Nat} (h : x ∈ l) : findD (nD x) (l.map nD) = some (l.idxOf x) := by
  induction l with
  | nil => cases h
  | cons y l ih =>
    simp only [List.map_cons, findD, List.idxOf_cons]
    have e : PyData.eqv (nD y) (nD x) = (y == x) := by
      unfold nD
      rw [eqv_int, Bool.eq_iff_iff]
      simp only [beq_iff_eq]
      omega
    rw [e]
    by_cases hy : y = x
    · simp [hy]
    · have hx : x ∈ l := by
        rcases List.mem_cons.mp h with rfl | h
        · exact absurd rfl hy
        · exact h
      have hb : (y == x) = false := by simpa using hy
      rw [hb, ih hx]
      rfl
theorem nats_flat (l : List Nat) (h : l.length ≤ sizeLine) (m : Nat) : flat (m + 1) (.list (l.map nD)) := by
  refine ⟨by simpa using h, fun x hx => ?_⟩
  obtain ⟨y, _, rfl⟩ := List.mem_map.mp hx
  cases m <;> trivial
/-- a box as it is handed in: tuples, or lists -/
structure Boxed (v : D) (k : Bx) : Prop where
  ix0 : opIx v (.int 0) = some (nD k.b)
  ix1 : ∃ rs, opIx v (.int 1) = some rs ∧ ∃ f : (Str × List Nat × List Str) → D, walkOf rs = some (k.rows.map f) ∧
    ∀ r, ∃ a c, itemsOf (f r) = some [.str r.1, a, c] ∧ opIx (f r) (.int 0) = some (.str r.1) ∧ opList a = some (.list (r.2.1.map nD)) ∧ opListZ a c = some (.list (zipD (r.2.1.map nD) (r.2.2.map .str))) ∧ ∀ i : Int, opIx c (.int i) = L2.atI (r.2.2.map .str) i
theorem boxed_e (k : Bx) : Boxed (eB k) k := by
  refine ⟨rfl, _, rfl, rowE, rfl, fun r => ⟨_, _, rfl, rfl, rfl, rfl, fun i => rfl⟩⟩
theorem boxed_l (k : Bx) : Boxed (lB k) k := by
  refine ⟨rfl, _, rfl, rowL, rfl, fun r => ⟨_, _, rfl, rfl, rfl, rfl, fun i => rfl⟩⟩
theorem ix_tab {k : Bx} (hk : okBx k) {d : Dd} (hd : k.ok d) : opIx (tabD k) (dD d) = some (tRow k d) := tabD_look hk hd
theorem ix_row {k : Bx} {d : Dd} {x : Nat} (hx : x < k.b) : opIx (tRow k d) (nD x) = some (cellD k d x) := tRow_at hx
theorem dS_dash {d : Dd} (h : okN d.1) : dS d ≠ dash := by
  intro e
  cases hb : d.2 with
  | false => exact dash_not h (by simpa [dS, hb] using e)
  | true =>
    have e : d.1 ++ dash = dash := by simpa [dS, hb] using e
    have e2 := congrArg (fun z : Str => z.cps.toList) e
    simp only [app_list, dash_list] at e2
    obtain ⟨⟨l, c, e3, _⟩, _⟩ := h
    rw [e3] at e2
    have := congrArg List.length e2
    simp at this
theorem okWd_okW {k : Bx} (hk : okBx k) {w : List Dd} (h : okWd k w) : okW w := fun d hd => note_ok hk (h d hd)
theorem nat_mod (t m : Nat) : opMod (nD t) (nD m) = if 0 < m then some (nD (t % m)) else none := by
  unfold nD
  simp only [opMod]
  by_cases h : 0 < m
  · rw [if_pos h, if_pos (by simp; omega)]
    rfl
  · rw [if_neg h, if_neg (by simp; omega)]
theorem nat_div (t m : Nat) (h : 0 < m) (h2 : m < 2 ^ 60) : opFdiv (nD t) (nD m) = some (nD (t / m)) := by
  unfold nD
  simp only [opFdiv]
  rw [if_pos]
  · rfl
  · rw [Bool.and_eq_true]
    exact ⟨decide_eq_true (by omega), decide_eq_true (log_lt' (by omega) (by omega))⟩
theorem ixN_last {m : Nat} : L2.ixN (m + 1) (-1) = some m := by
  unfold L2.ixN
  simp
  omega
theorem sub_last {xs : List D} {x d : D} : subD (.list (xs ++ [x])) (.int (-1)) d = some (.list (xs ++ [d])) := by
  simp only [subD]
  rw [List.length_append, List.length_singleton, ixN_last]
  simp
theorem len_zero (w : List Dd) : ((w.length : Int) == 0) = decide (w.length = 0) := by
  rw [Bool.eq_iff_iff]
  simp only [beq_iff_eq, decide_eq_true_eq]
  omega
theorem nat_beq (a : Nat) (b : Nat) : ((a : Int) == (b : Int)) = decide (a = b) := by
  rw [Bool.eq_iff_iff]
  simp only [beq_iff_eq, decide_eq_true_eq]
  omega
theorem eq_n (a b : Nat) : op2 .eq (nD a) (nD b) = some (.bool (decide (a = b))) := by
  unfold nD
  rw [e_eq, eqv_int, nat_beq]
  simp
theorem len_eW (w : List Dd) : opLen (eW w) = some (nD w.length) := by simp [eW, nD]
theorem notes_sh {k : Bx} (hk : okBx k) : sh (.tuple (k.notes.map .str)) = true := by
  refine flat_sh (n := 1) ⟨?_, fun x hx => ?_⟩ (by omega)
  · have few := hk.few
    have zl : (100 : Nat) ≤ sizeLine := by decide
    simp [Bx.notes]; omega
  · obtain ⟨s, hs, rfl⟩ := List.mem_map.mp hx
    exact (note_ok hk hs).2.2
theorem notes_in {k : Bx} (hk : okBx k) {z : Str} (hz : z ∈ k.notes) : opIn (.str z) (.tuple (k.notes.map .str)) = some true := by
  have h1 : sh (.str z) = true := flat_sh (n := 0) (show flat 0 (.str z) from (note_ok hk hz).2.2) (by omega)
  simp only [opIn, h1, notes_sh hk, Bool.and_self, if_true]
  congr 1
  rw [List.any_eq_true]
  exact ⟨.str z, List.mem_map.mpr ⟨z, hz, rfl⟩, by simp⟩
/-- a row as it is handed in -/
def eR (r : List Nat) : D := .tuple (r.map nD)
def lR (r : List Nat) : D := .list (r.map nD)
/-- a program as it is handed in -/
structure Prog (v : D) (p : List (List Dd × Int)) : Prop where
  fl : flat 3 v
  pl : plainD 3 v = eP p
  wk : ∃ g : (List Dd × Int) → D, walkOf v = some (p.map g) ∧ ∀ q, ∃ a, (a = eW q.1 ∨ a = lW q.1) ∧ itemsOf (g q) = some [a, .int q.2]
theorem prog_e {p : List (List Dd × Int)} (h : okP p) (hl : p.length ≤ sizeLine) : Prog (eP p) p :=
  ⟨eP_flat h hl 0, plain_eP 0 p, _, rfl, fun q => ⟨_, .inl rfl, rfl⟩⟩
theorem prog_l {p : List (List Dd × Int)} (h : okP p) (hl : p.length ≤ sizeLine) : Prog (lP p) p :=
  ⟨lP_flat h hl 0, plain_lP 0 p, _, rfl, fun q => ⟨_, .inr rfl, rfl⟩⟩
theorem prog_1 {w : List Dd} (h : okW w) (hl : w.length ≤ sizeLine) (t : Int) {a : D} (ha : a = eW w ∨ a = lW w) : Prog (.tuple [.tuple [a, .int t]]) [(w, t)] := by
  have fa : flat 1 a := by
    rcases ha with rfl | rfl
    · exact eW_flat h hl 0
    · exact lW_flat h hl 0
  have pa : plainD 1 a = eW w := by
    rcases ha with rfl | rfl
    · exact plain_eW 0 w
    · exact plain_lW 0 w
  refine ⟨⟨by show 1 ≤ sizeLine; decide, fun x hx => ?_⟩, ?_, fun q => .tuple [if q = (w, t) then a else eW q.1, .int q.2], ?_, fun q => ?_⟩
  · rw [List.mem_singleton.mp hx]
    refine ⟨by show 2 ≤ sizeLine; decide, fun y hy => ?_⟩
    simp only [List.mem_cons, List.not_mem_nil, or_false] at hy
    rcases hy with rfl | rfl
    · exact fa
    · trivial
  · simp [plainD, pa, eP]
  · simp [walkOf]
  · refine ⟨_, ?_, rfl⟩
    by_cases hq : q = (w, t)
    · rw [if_pos hq, hq]; exact ha
    · rw [if_neg hq]; exact .inl rfl
theorem fwd_okP {k : Bx} (hk : okBx k) {p : List (List Dd × Int)} (h : ∀ q ∈ p, okWd k q.1) (hs : wsum (p.map fwd1) < sizeLine) : okP p := by
  intro q hq
  refine ⟨okWd_okW hk (h q hq), ?_⟩
  have := wsum_mem (List.mem_map.mpr ⟨q, hq, rfl⟩ : fwd1 q ∈ p.map fwd1)
  rw [fwd1_len] at this
  omega
theorem erase_perm {α : Type} : ∀ (l : List α) (i : Nat) (h : i < l.length), (l[i] :: l.eraseIdx i).Perm l
  | x :: l, 0, _ => List.Perm.refl _
  | x :: l, i + 1, h => by
    have h' : i < l.length := by simpa using h
    have ih := erase_perm l i h'
    show (l[i] :: x :: l.eraseIdx i).Perm (x :: l)
    exact (List.Perm.swap x (l[i]) (l.eraseIdx i)).trans (List.Perm.cons x ih)
theorem last_eq {p : Dd} (ok : okN p.1) : ∃ c : Nat, opIx (dD p) (.int (-1)) = some (.str ⟨#[c]⟩) ∧ sh (.str ⟨#[c]⟩) = true ∧ (((⟨#[c]⟩ : Str) == dash) = p.2) := by
  obtain ⟨c, e3, e7⟩ := last_dS p ok
  have e2 := dS_size p ok
  refine ⟨c, by simp [dD, opIx, e2, e3], ?_, ?_⟩
  · have h1 := dS_ok p ok
    unfold L2.atI at e3
    cases hi : L2.ixN (dS p).cps.toList.length (-1) with
    | none => rw [hi] at e3; cases e3
    | some j =>
      rw [hi] at e3
      have h2 : (dS p).cps.toList[j]? = some c := e3
      obtain ⟨h3, h4⟩ := List.getElem?_eq_some_iff.mp h2
      unfold PyData.strOk at h1
      rw [Array.all_eq_true] at h1
      have h5 := h1 j (by simpa using h3)
      have h6 : (dS p).cps[j]'(by simpa using h3) = c := by rw [← h4]; simp
      rw [h6] at h5
      show (PyData.canLay0 _ && _) = true
      simp [PyData.canLay0, PyData.strOk, PyData.depth]
      simpa using h5
  · rw [← e7, Bool.eq_iff_iff]
    simp only [beq_iff_eq, decide_eq_true_eq]
    constructor
    · intro h
      have := congrArg (fun z : Str => z.cps.toList) h
      rw [dash_list] at this
      simpa using this
    · intro h
      apply str_ext
      rw [dash_list, h]
/-- what a single deed sends on behind a row -/
def sent1 (k : Bx) : Option Dd → List Nat → Option Dd
  | o, [] => o
  | o, x :: r => sent1 k (o.bind fun d => (k.T d x).2) r
theorem sent1_W (k : Bx) : ∀ (r : List Nat) (o : Option Dd), sentW k.T o.toList r = (sent1 k o r).toList
  | [], o => rfl
  | x :: r, o => by
    show sentW k.T (atW k.T o.toList x).2 r = (sent1 k (o.bind fun d => (k.T d x).2) r).toList
    rw [← sent1_W k r]
    cases o with
    | none => rfl
    | some d => simp [atW]
def q0 (z : Str) : D → Bool
  | .tuple (.str y :: _) => y == z
  | _ => false
def q1 (fs : List Nat) (x : Nat) : D → Bool
  | .int i => decide (fs.getD i.toNat 0 = x)
  | _ => false
theorem filt0 {k : Bx} (hk : okBx k) {r : Str × List Nat × List Str} (hr : r ∈ k.rows) : L2.atI (((k.rows.map rowE).filter (q0 r.1)).map id) 0 = some (rowE r) := by
  have h := atI_nat (xs := ((k.rows.map rowE).filter (q0 r.1)).map id) (k := 0)
  rw [show ((0 : Nat) : Int) = 0 from rfl] at h
  rw [h, List.map_id, List.filter_map, ← List.head?_eq_getElem?, List.head?_map, List.head?_filter]
  have e : (k.rows.find? (q0 r.1 ∘ rowE)) = k.find r.1 := by
    unfold Bx.find
    congr 1
  rw [e, find_row hk hr]
  rfl
theorem filt1 {k : Bx} (hk : okBx k) {r : Str × List Nat × List Str} (hr : r ∈ k.rows) {x : Nat} (hx : x < k.b) : L2.atI ((((List.range k.b).map nD).filter (q1 r.2.1 x)).map id) 0 = some (nD (r.2.1.idxOf x)) := by
  have h := atI_nat (xs := (((List.range k.b).map nD).filter (q1 r.2.1 x)).map id) (k := 0)
  rw [show ((0 : Nat) : Int) = 0 from rfl] at h
  have mx := perm_mem (hk.fn r hr) (hk.fl r hr) (hk.fb r hr) hx
  have hj := List.idxOf_lt_length_of_mem mx
  have ej := List.getElem_idxOf hj
  have hl := hk.fl r hr
  have qn : ∀ i : Nat, (q1 r.2.1 x ∘ nD) i = decide (r.2.1.getD i 0 = x) := fun i => by simp [q1, nD]
  rw [h, List.map_id, List.filter_map, ← List.head?_eq_getElem?, List.head?_map, List.head?_filter]
  cases hf : (List.range k.b).find? (q1 r.2.1 x ∘ nD) with
  | none =>
    have := List.find?_eq_none.mp hf (r.2.1.idxOf x) (List.mem_range.mpr (by omega))
    rw [qn, List.getD_eq_getElem?_getD, List.getElem?_eq_getElem hj, Option.getD_some, ej] at this
    simp at this
  | some i =>
    have h1 := List.find?_some hf
    have h2 := List.mem_range.mp (List.mem_of_find?_eq_some hf)
    have h3 : i < r.2.1.length := by omega
    rw [qn, List.getD_eq_getElem?_getD, List.getElem?_eq_getElem h3, Option.getD_some] at h1
    have h4 : r.2.1[i] = x := of_decide_eq_true h1
    have : i = r.2.1.idxOf x := nodup_inj (hk.fn r hr) h3 hj (by rw [h4, ej])
    rw [this]
    rfl
theorem T_row {k : Bx} (hk : okBx k) {r : Str × List Nat × List Str} (hr : r ∈ k.rows) {x : Nat} (hx : x < k.b) (b : Bool) : k.T (r.1, b) x = if b then (r.2.1.idxOf x, optD (r.2.2.getD (r.2.1.idxOf x) dash) true) else (r.2.1.getD x 0, optD (r.2.2.getD x dash) false) := by
  unfold Bx.T
  rw [find_row hk hr]
  simp [hx]
theorem fwd1_nat (q : List Dd × Int) : (fwd1 q).2 = q.2.natAbs := by
  unfold fwd1
  split
  · show q.2.toNat = q.2.natAbs; omega
  · show (-q.2).toNat = q.2.natAbs; omega
theorem fwd1_wd (q : List Dd × Int) : (fwd1 q).1 = if 0 ≤ q.2 then q.1 else bw q.1 := by
  unfold fwd1
  split <;> rfl
theorem act_snoc {k : Bx} (w : List Dd) (i : Nat) (r : List Nat) : act k.T w (act k.T (pw w i) r) = act k.T (pw w (i + 1)) r := by
  rw [pw_succ', act_app]
/-- a dict with texts as keys and whole numbers as values -/
def Dc (kvs : List (D × D)) : Prop := ∀ kv ∈ kvs, (∃ z : Str, kv.1 = .str z) ∧ ∃ i : Int, kv.2 = .int i
theorem Dc_nil : Dc [] := fun _ h => nomatch h
theorem Dc_look {z : Str} : ∀ {kvs : List (D × D)}, Dc kvs → (∃ i : Int, lookD (.str z) kvs = some (.int i)) ∨ lookD (.str z) kvs = none
  | [], _ => .inr rfl
  | (a, v) :: r, h => by
    obtain ⟨⟨y, e1⟩, i, e2⟩ := h (a, v) List.mem_cons_self
    simp only at e1 e2
    subst e1; subst e2
    have ih := Dc_look (z := z) (kvs := r) fun kv hkv => h kv (List.mem_cons_of_mem _ hkv)
    simp only [lookD, keyOf]
    split
    · exact .inl ⟨i, rfl⟩
    · exact ih
theorem Dc_in {z : Str} {v : D} : ∀ {kvs : List (D × D)}, Dc kvs → (.str z, v) ∈ kvs → ∃ i : Int, lookD (.str z) kvs = some (.int i)
  | (a, w) :: r, h, hm => by
    obtain ⟨⟨y, e1⟩, i, e2⟩ := h (a, w) List.mem_cons_self
    simp only at e1 e2
    subst e1; subst e2
    simp only [lookD, keyOf]
    split
    · exact ⟨i, rfl⟩
    · rename_i hne
      rcases List.mem_cons.mp hm with e | hm
      · injection e with e _
        injection e with e
        exact absurd (by rw [e]) hne
      · exact Dc_in (kvs := r) (fun kv hkv => h kv (List.mem_cons_of_mem _ hkv)) hm
theorem Dc_get {z : Str} {kvs : List (D × D)} (h : Dc kvs) (j : Int) : ∃ i : Int, opGet (.dict kvs) (.str z) (.int j) = some (.int i) := by
  rcases Dc_look (z := z) h with ⟨i, e⟩ | e
  · exact ⟨i, by simp [opGet, keyOf, e, isObj]⟩
  · exact ⟨j, by simp [opGet, keyOf, e, isObj]⟩
theorem Dc_put {z : Str} {kvs : List (D × D)} (h : Dc kvs) (i : Int) : Dc (putD kvs (.inr z) (.int i)) ∧ (putD kvs (.inr z) (.int i)).length ≤ kvs.length + 1 := by
  unfold putD
  split
  · refine ⟨fun kv hkv => ?_, by simp⟩
    obtain ⟨kv', hkv', rfl⟩ := List.mem_map.mp hkv
    split
    · exact ⟨(h kv' hkv').1, i, rfl⟩
    · exact h kv' hkv'
  · refine ⟨fun kv hkv => ?_, by simp⟩
    rcases List.mem_append.mp hkv with hkv | hkv
    · exact h kv hkv
    · rw [List.mem_singleton.mp hkv]
      exact ⟨⟨z, rfl⟩, i, rfl⟩
def okNb (z : Str) : Bool := match z.cps.toList.getLast? with
  | some c => decide (c ≠ 45) && decide (z.length ≤ 1000) && PyData.strOk z
  | none => false
theorem okN_of {z : Str} (h : okNb z = true) : okN z := by
  unfold okNb at h
  split at h
  · rename_i c e
    obtain ⟨l, e⟩ := List.getLast?_eq_some_iff.mp e
    simp only [Bool.and_eq_true, decide_eq_true_eq] at h
    exact ⟨⟨l, c, e, h.1.1⟩, h.1.2, h.2⟩
  · cases h
theorem strsOf_map : ∀ zs : List Str, strsOf (zs.map .str) = some zs
  | [] => rfl
  | z :: zs => by
    show (strsOf (zs.map .str)).map (z :: ·) = _
    rw [strsOf_map zs]
    rfl
theorem sorted_strs {zs : List Str} (h : zs ≠ []) (hl : zs.length < 64) : opSorted (.list (zs.map .str)) = some (.list ((sortS zs).map .str)) := by
  have e : intsOf (zs.map PyData.str) = none := by
    cases zs with
    | nil => exact absurd rfl h
    | cons z zs => rfl
  simp only [opSorted, e, strsOf_map]
  rw [if_pos hl]
theorem sortS_perm (zs : List Str) : (sortS zs).Perm zs := List.mergeSort_perm _ _
theorem map_str_of {T : List Str} : ∀ {ys : List D}, (∀ y ∈ ys, y ∈ T.map PyData.str) → ∃ zs : List Str, ys = zs.map .str ∧ ∀ z ∈ zs, z ∈ T
  | [], _ => ⟨[], rfl, fun _ h => nomatch h⟩
  | y :: ys, h => by
    obtain ⟨z, hz, rfl⟩ := List.mem_map.mp (h y List.mem_cons_self)
    obtain ⟨zs, rfl, h2⟩ := map_str_of (T := T) (ys := ys) fun y hy => h y (List.mem_cons_of_mem _ hy)
    refine ⟨z :: zs, rfl, fun x hx => ?_⟩
    rcases List.mem_cons.mp hx with rfl | hx
    · exact hz
    · exact h2 x hx
theorem nodup_of_map {α β : Type} (f : α → β) : ∀ {l : List α}, (l.map f).Nodup → l.Nodup
  | [], _ => List.nodup_nil
  | x :: l, h => by
    rw [List.map_cons, List.nodup_cons] at h
    exact List.nodup_cons.mpr ⟨fun hx => h.1 (List.mem_map_of_mem hx), nodup_of_map f h.2⟩
theorem nodup_str {T : List Str} (nd : T.Nodup) : (T.map PyData.str).Nodup := by
  refine List.Pairwise.map _ (fun a b h e => h (by injection e)) nd
theorem tags_of {T : List Str} (nd : T.Nodup) {ys rest : List D} (hp : (ys ++ rest).Perm (T.map .str)) : ∃ zs : List Str, ys = zs.map .str ∧ zs.Nodup ∧ ∀ z ∈ zs, z ∈ T := by
  obtain ⟨zs, rfl, h⟩ := map_str_of (T := T) (ys := ys) fun y hy => hp.mem_iff.mp (List.mem_append_left _ hy)
  have h1 := hp.nodup_iff.mpr (nodup_str nd)
  exact ⟨zs, rfl, nodup_of_map _ (List.nodup_append.mp h1).1, h⟩
/-- a row of a box under way -/
def goodR (b : Nat) (tags : List Str) (r : Str × List Nat × List Str) : Prop := r.2.1.length = b ∧ r.2.1.Nodup ∧ (∀ x ∈ r.2.1, x < b) ∧ r.2.2.length = b ∧ ∀ s ∈ r.2.2, s = dash ∨ s ∈ tags
theorem okBx_of {b : Nat} {tags : List Str} {rs : List (Str × List Nat × List Str)} (hb : 2 ≤ b) (hb2 : b ≤ 16) (hl : tags.length ≤ 100) (nd : tags.Nodup) (ht : ∀ t ∈ tags, okN t) (e : rs.map (·.1) = tags) (h : ∀ r ∈ rs, goodR b tags r) : okBx ⟨b, rs⟩ := by
  subst e
  exact ⟨hb, hb2, by simpa using hl, nd, fun r hr => ht _ (List.mem_map_of_mem hr), fun r hr => (h r hr).1, fun r hr => (h r hr).2.2.1, fun r hr => (h r hr).2.1, fun r hr => (h r hr).2.2.2.1, fun r hr => (h r hr).2.2.2.2⟩
theorem take_snoc {α : Type} {l : List α} {i : Nat} {x : α} (h : l[i]? = some x) : l.take (i + 1) = l.take i ++ [x] := by
  rw [List.take_succ, h]
  rfl
theorem add1 (k : Nat) : opAdd (.int 1) (.int (k : Int)) = some (nD (1 + k)) := by
  show some (PyData.int _) = some (PyData.int _)
  congr 2
theorem cons_dash {tags : List Str} (h : tags.length < 1000) : opAdd (.list [.str dash]) (.list (tags.map .str)) = some (.list ((dash :: tags).map .str)) := by
  have z : 1 + tags.length ≤ sizeLine := by have : (10000 : Nat) < sizeLine := by decide
                                            omega
  simp only [opAdd, List.length_map, List.length_singleton]
  rw [if_pos z]
  rfl
def T4 : List Str := ["a", "b.1", "c", "k"]
theorem T4_nd : T4.Nodup := by decide +kernel
theorem T4_ok : ∀ t ∈ T4, okN t := fun t h => okN_of (List.all_eq_true.mp (show T4.all okNb = true by decide +kernel) t h)
abbrev Ce := Nat × Nat × Str
def cD (c : Ce) : D := .tuple [nD c.1, nD c.2.1, .str c.2.2]
def unC : D → Ce
  | .tuple [.int x, .int y, .str z] => (x.toNat, y.toNat, z)
  | _ => (0, 0, dash)
theorem unC_c (c : Ce) : unC (cD c) = c := by
  obtain ⟨x, y, z⟩ := c
  rfl
theorem sortT_c (l : List Ce) : ∃ l' : List Ce, sortT (l.map cD) = l'.map cD ∧ l'.Perm l := by
  have hp : (sortT (l.map cD)).Perm (l.map cD) := List.mergeSort_perm _ _
  refine ⟨(sortT (l.map cD)).map unC, ?_, ?_⟩
  · rw [List.map_map]
    conv => lhs; rw [← List.map_id (sortT (l.map cD))]
    refine List.map_congr_left fun y hy => ?_
    obtain ⟨c, _, rfl⟩ := List.mem_map.mp (hp.mem_iff.mp hy)
    show cD c = cD (unC (cD c))
    rw [unC_c]
  · have h2 := hp.map unC
    rw [List.map_map] at h2
    have e : l.map (unC ∘ cD) = l := by
      conv => rhs; rw [← List.map_id l]
      exact List.map_congr_left fun c _ => unC_c c
    rwa [e] at h2
theorem alike_c (a b : Ce) : PySem.W.alike (cD a) (cD b) = true := by
  simp [cD, nD, PySem.W.alike, PySem.W.alikeAll]
theorem sorted_c {l : List Ce} (h0 : l ≠ []) (hl : l.length ≤ 1000) (hs : ∀ c ∈ l, PyData.strOk c.2.2 = true) : ∃ l' : List Ce, opSorted (.list (l.map cD)) = some (.list (l'.map cD)) ∧ l'.Perm l := by
  obtain ⟨l', e, hp⟩ := sortT_c l
  refine ⟨l', ?_, hp⟩
  have e1 : intsOf (l.map cD) = none := by cases l with
    | nil => exact absurd rfl h0
    | cons c l => rfl
  have e2 : strsOf (l.map cD) = none := by cases l with
    | nil => exact absurd rfl h0
    | cons c l => rfl
  have e3 : (l.map cD).all isTup1 = true := by
    rw [List.all_map]
    exact List.all_eq_true.mpr fun c _ => rfl
  have zl : (1000 : Nat) ≤ sizeLine := by decide
  have e4 : sh (.list (l.map cD)) = true := by
    refine flat_sh (n := 2) ⟨by rw [List.length_map]; omega, fun x hx => ?_⟩ (by omega)
    obtain ⟨c, hc, rfl⟩ := List.mem_map.mp hx
    refine ⟨by show 3 ≤ sizeLine; omega, fun y hy => ?_⟩
    simp only [List.mem_cons, List.not_mem_nil, or_false] at hy
    rcases hy with rfl | rfl | rfl
    · trivial
    · trivial
    · exact hs c hc
  have e5 : ((l.map cD).all fun a => (l.map cD).all fun b => PySem.W.alike a b) = true := by
    refine List.all_eq_true.mpr fun a ha => List.all_eq_true.mpr fun b hb => ?_
    obtain ⟨c, _, rfl⟩ := List.mem_map.mp ha
    obtain ⟨c', _, rfl⟩ := List.mem_map.mp hb
    exact alike_c c c'
  simp only [opSorted, e1, e2, e3, e4, e5, Bool.and_self, if_true, e]
def okBxb (k : Bx) : Bool := decide (2 ≤ k.b) && decide (k.b ≤ 3) && decide (0 < k.rows.length) && decide (k.rows.length ≤ 100) && decide k.notes.Nodup && k.rows.all fun r => okNb r.1 && decide (r.2.1.length = k.b) && r.2.1.all (fun x => decide (x < k.b)) && decide r.2.1.Nodup && decide (r.2.2.length = k.b) && r.2.2.all fun s => decide (s = dash) || decide (s ∈ k.notes)
theorem okBx_b {k : Bx} (h : okBxb k = true) : okBx k ∧ k.rows ≠ [] ∧ k.b ≤ 3 := by
  unfold okBxb at h
  simp only [Bool.and_eq_true, decide_eq_true_eq, List.all_eq_true, Bool.or_eq_true] at h
  obtain ⟨⟨⟨⟨⟨h1, h2⟩, h3⟩, h4⟩, h5⟩, h6⟩ := h
  refine ⟨⟨h1, by omega, h4, h5, fun r hr => okN_of (h6 r hr).1.1.1.1.1, fun r hr => (h6 r hr).1.1.1.1.2, fun r hr => (h6 r hr).1.1.1.2, fun r hr => (h6 r hr).1.1.2, fun r hr => (h6 r hr).1.2, fun r hr => (h6 r hr).2⟩, ?_, h2⟩
  intro q
  rw [q] at h3
  simp at h3
def kn1 : Bx := ⟨2, [("c", [1, 0], ["-", "c"])]⟩
def kn2 : Bx := ⟨3, [("c", [1, 2, 0], ["-", "-", "c"])]⟩
def kn3 : Bx := ⟨2, [("c", [1, 0], ["c", "-"])]⟩
def kn4 : Bx := ⟨3, [("p", [1, 0, 2], ["-", "-", "p"]), ("q", [0, 2, 1], ["q", "-", "-"]), ("r", [2, 1, 0], ["-", "r", "-"])]⟩
def kn5 : Bx := ⟨2, [("a", [1, 0], ["-", "-"]), ("b", [0, 1], ["b", "a"])]⟩
def kns : List Bx := [kn1, kn2, kn3, kn4, kn5]
theorem kns_ok : ∀ k ∈ kns, okBx k ∧ k.rows ≠ [] ∧ k.b ≤ 3 := fun k hk => okBx_b (List.all_eq_true.mp (show kns.all okBxb = true by decide +kernel) k hk)
theorem nodup_range {b : Nat} {h : Nat → Nat} (inj : ∀ x, x < b → ∀ y, y < b → h x = h y → x = y) : ((List.range b).map h).Nodup := by
  refine List.pairwise_map.mpr (List.Pairwise.imp_of_mem (R := (· ≠ ·)) ?_ List.nodup_range)
  intro x y hx hy hne e
  exact hne (inj x (List.mem_range.mp hx) y (List.mem_range.mp hy) e)
theorem getD_lt {b : Nat} {l : List Nat} (hl : l.length = b) (h : ∀ x ∈ l, x < b) {x : Nat} (hx : x < b) : l.getD x 0 < b := by
  rw [List.getD_eq_getElem?_getD, List.getElem?_eq_getElem (by omega)]
  exact h _ (List.getElem_mem _)
theorem getD_inj {b : Nat} {l : List Nat} (hl : l.length = b) (nd : l.Nodup) {x y : Nat} (hx : x < b) (hy : y < b) (e : l.getD x 0 = l.getD y 0) : x = y := by
  rw [List.getD_eq_getElem?_getD, List.getElem?_eq_getElem (by omega), List.getD_eq_getElem?_getD, List.getElem?_eq_getElem (by omega)] at e
  exact nodup_inj nd (by omega) (by omega) e
theorem atI_getD {l : List Nat} {x : Nat} (hx : x < l.length) : L2.atI (l.map nD) (x : Int) = some (nD (l.getD x 0)) := by
  rw [atI_nat, List.getElem?_map, List.getElem?_eq_getElem hx, List.getD_eq_getElem?_getD, List.getElem?_eq_getElem hx]
  rfl
theorem atI_getS {l : List Str} {x : Nat} (hx : x < l.length) : L2.atI (l.map PyData.str) (x : Int) = some (.str (l.getD x dash)) := by
  rw [atI_nat, List.getElem?_map, List.getElem?_eq_getElem hx, List.getD_eq_getElem?_getD, List.getElem?_eq_getElem hx]
  rfl
theorem getS_mem {l : List Str} {x : Nat} (hx : x < l.length) : l.getD x dash ∈ l := by
  rw [List.getD_eq_getElem?_getD, List.getElem?_eq_getElem hx]
  exact List.getElem_mem _
def permR (k0 : Bx) (rs : List (Str × List Nat × List Str)) : Prop := ∀ (j : Nat) (q : Str × List Nat × List Str), rs[j]? = some q → ∃ r, k0.rows[j]? = some r ∧ q.2.2.Perm r.2.2
theorem range_getD (l : List Str) : (List.range l.length).map (fun x => l.getD x dash) = l := by
  apply List.ext_getElem?
  intro i
  rw [List.getElem?_map]
  by_cases hi : i < l.length
  · rw [List.getElem?_range hi, List.getElem?_eq_getElem hi]
    simp [List.getD_eq_getElem?_getD, List.getElem?_eq_getElem hi]
  · rw [List.getElem?_eq_none (by simpa using hi), List.getElem?_eq_none (by omega)]
    rfl
def knL (k : Bx) : List (Str × Nat) := k.notes.map fun t => (t, if t = "a" then 2 else 1)
def kindRb (L : List (Str × Nat)) (p : Str × Nat) (sent : List Str) : Bool :=
  (decide (p.2 = 2) && sent.all fun z => decide (z = dash)) || (decide (p.2 = 1) && decide (p.1 ∈ sent) && (sent.erase p.1).all fun z => decide (z = dash) || decide ((z, 2) ∈ L))
theorem kindR_b {L : List (Str × Nat)} {i : Nat} {p : Str × Nat} {sent : List Str} (h : L[i]? = some p) (hb : kindRb L p sent = true) : kindR L i sent := by
  unfold kindRb at hb
  simp only [Bool.or_eq_true, Bool.and_eq_true, decide_eq_true_eq, List.all_eq_true] at hb
  refine ⟨p.1, p.2, h, ?_⟩
  rcases hb with ⟨h2, hs⟩ | ⟨⟨h1, hm⟩, hs⟩
  · exact .inl ⟨h2, fun z hz => .inl (hs z hz)⟩
  · refine .inr (.inl ⟨h1, sent.erase p.1, List.perm_cons_erase hm, fun z hz => ?_⟩)
    rcases hs z hz with q | q
    · exact .inl q
    · exact .inr (List.mem_iff_getElem?.mp q)
theorem kindR_perm {L : List (Str × Nat)} {i : Nat} {s s' : List Str} (hp : s'.Perm s) (h : kindR L i s) : kindR L i s' := by
  obtain ⟨t, c, hl, h⟩ := h
  refine ⟨t, c, hl, ?_⟩
  rcases h with ⟨h1, h⟩ | ⟨h1, rest, h2, h⟩ | ⟨h1, h⟩
  · exact .inl ⟨h1, fun z hz => h z (hp.mem_iff.mp hz)⟩
  · exact .inr (.inl ⟨h1, rest, hp.trans h2, h⟩)
  · exact .inr (.inr ⟨h1, fun z hz => h z (hp.mem_iff.mp hz)⟩)
theorem kns_kind : ∀ k ∈ kns, ∀ (i : Nat) (r : Str × List Nat × List Str), k.rows[i]? = some r → kindR (knL k) i r.2.2 := by
  have key : kns.all (fun k => ((knL k).zip k.rows).all fun p => kindRb (knL k) p.1 p.2.2.2) = true := by decide +kernel
  intro k hk i r hr
  have h1 := List.all_eq_true.mp (List.all_eq_true.mp key k hk)
  have hi := (List.getElem?_eq_some_iff.mp hr).1
  have hl : i < (knL k).length := by simpa [knL, Bx.notes] using hi
  have hz : ((knL k).zip k.rows)[i]? = some ((knL k)[i], r) := by
    rw [List.getElem?_zip_eq_some]
    exact ⟨List.getElem?_eq_getElem hl, hr⟩
  exact kindR_b (List.getElem?_eq_getElem hl) (h1 _ (List.mem_of_getElem? hz))
theorem kns_few : ∀ k ∈ kns, k.rows.length ≤ 4 := fun k hk => of_decide_eq_true (List.all_eq_true.mp (show kns.all (fun k => decide (k.rows.length ≤ 4)) = true by decide +kernel) k hk)
def T7 : List Str := ["a", "b.1", "c", "k", "m2", "q", "z"]
theorem T7_nd : T7.Nodup := by decide +kernel
theorem T7_ok : ∀ t ∈ T7, okN t := fun t h => okN_of (List.all_eq_true.mp (show T7.all okNb = true by decide +kernel) t h)
theorem atI_int {l : List Nat} {i : Nat} (h : i < l.length) : L2.atI (l.map fun k : Nat => PyData.int (k : Int)) (i : Int) = some (.int (l.getD i 0 : Nat)) := by
  rw [atI_nat, List.getElem?_map, List.getElem?_eq_getElem h, List.getD_eq_getElem?_getD, List.getElem?_eq_getElem h]; rfl
theorem zip_at {tags : List Str} {ss : List Nat} (hl : ss.length = tags.length) {j : Nat} {z : Str} (h : tags[j]? = some z) : (tags.zip ss)[j]? = some (z, ss.getD j 0) := by
  have hj := (List.getElem?_eq_some_iff.mp h).1
  rw [List.getElem?_zip_eq_some]
  refine ⟨h, ?_⟩
  rw [List.getD_eq_getElem?_getD, List.getElem?_eq_getElem (by omega)]
  rfl
theorem int_beq {a c : Nat} (h : ((a : Int) == (c : Int)) = true) : a = c := by
  have h2 : (a : Int) = (c : Int) := by simpa using h
  omega
/-- what a note may send on -/
def poolOk (tags : List Str) (ss : List Nat) (i : Nat) (z : Str) : Prop := z = dash ∨ ∃ j, tags[j]? = some z ∧ ((ss.getD j 0 = 2 ∧ (ss.getD i 0 < 2 ∨ i < j)) ∨ (ss.getD i 0 = 0 ∧ (ss.getD j 0 = 1 ∨ (ss.getD j 0 = 0 ∧ i < j))))
theorem set_perm {α : Type} (t : α) : ∀ (l : List α) (q : Nat), q < l.length → (l.set q t).Perm (t :: l.eraseIdx q)
  | x :: l, 0, _ => List.Perm.refl _
  | x :: l, q + 1, h => by
    have ih := set_perm t l q (by simpa using h)
    show (x :: l.set q t).Perm (t :: x :: l.eraseIdx q)
    exact (List.Perm.cons x ih).trans (List.Perm.swap t x _)
theorem kind_loop {tags : List Str} {ss : List Nat} (hl : ss.length = tags.length) {i q : Nat} {t : Str} (ht : tags[i]? = some t) (h1 : ss.getD i 0 = 1) {zs : List Str} (hq : q < zs.length) (hz : ∀ z ∈ zs, poolOk tags ss i z) : kindR (tags.zip ss) i (zs.set q t) := by
  refine ⟨t, 1, by rw [zip_at hl ht, h1], .inr (.inl ⟨rfl, zs.eraseIdx q, set_perm t zs q hq, fun z h => ?_⟩)⟩
  rcases hz z ((List.eraseIdx_sublist zs q).subset h) with e | ⟨j, hj, ⟨h2, _⟩ | ⟨h2, _⟩⟩
  · exact .inl e
  · exact .inr ⟨j, by rw [zip_at hl hj, h2]⟩
  · omega
theorem kind_oth {tags : List Str} {ss : List Nat} (hl : ss.length = tags.length) {i : Nat} {t : Str} (ht : tags[i]? = some t) (h1 : ¬ ss.getD i 0 = 1) (h2 : ss.getD i 0 ≤ 2) {zs : List Str} (hz : ∀ z ∈ zs, poolOk tags ss i z) : kindR (tags.zip ss) i zs := by
  refine ⟨t, ss.getD i 0, zip_at hl ht, ?_⟩
  by_cases h0 : ss.getD i 0 = 0
  · refine .inr (.inr ⟨h0, fun z h => ?_⟩)
    rcases hz z h with e | ⟨j, hj, ⟨h3, _⟩ | ⟨_, h3 | ⟨h3, h4⟩⟩⟩
    · exact .inl e
    · exact .inr (.inl ⟨j, by rw [zip_at hl hj, h3]⟩)
    · exact .inr (.inr (.inl ⟨j, by rw [zip_at hl hj, h3]⟩))
    · exact .inr (.inr (.inr ⟨j, h4, by rw [zip_at hl hj, h3]⟩))
  · refine .inl ⟨by omega, fun z h => ?_⟩
    rcases hz z h with e | ⟨j, hj, ⟨h3, h4⟩ | ⟨h3, _⟩⟩
    · exact .inl e
    · exact .inr ⟨j, by omega, by rw [zip_at hl hj, h3]⟩
    · omega
theorem atI_str {l : List Str} {i : Nat} (h : i < l.length) : L2.atI (l.map PyData.str) (i : Int) = some (.str l[i]) := by
  rw [atI_nat, List.getElem?_map, List.getElem?_eq_getElem h]; rfl
theorem add_strs {a b : List Str} (h : a.length + b.length ≤ sizeLine) : opAdd (.list (a.map .str)) (.list (b.map .str)) = some (.list ((a ++ b).map .str)) := by
  simp only [opAdd, List.length_map]
  rw [if_pos h, List.map_append]
theorem enum_map {α : Type} (g : α → D) : ∀ (l : List α) (k : Nat), enumD k (l.map g) = (l.zipIdx k).map fun p => .tuple [.int (p.2 : Int), g p.1]
  | [], k => rfl
  | x :: l, k => by simp [enumD, enum_map g l (k + 1)]
/-- the slots of _law_kit under way -/
def stK (u : D) (m b : Nat) (tags : List Str) (sorts : List Nat) (F : D) (a6 x7 x8 x9 x10 x11 x12 x13 : Option B) : S :=
  [some (.lent u), some (.val (nD m)), some (.val (nD b)), some (.val (.list (tags.map .str))), some (.val (.list (sorts.map fun k : Nat => PyData.int (k : Int)))), some (.own F), a6, x7, x8, x9, x10, x11, x12, x13]
theorem kit_filt {C : Calls} {u F t : D} {m b k : Nat} {tags : List Str} {sorts : List Nat} {x9 x10 x11 : Option B} (hl : tags.length < 100) {c : Ex} {K : D → S → Prop} (Q : Nat → Prop)
    (hc : ∀ j, j < tags.length → WT C c (stK u m b tags sorts F none (some (.val (nD k))) (some (.val t)) x9 x10 x11 (some (.val (nD j))) none) fun y s' => s' = stK u m b tags sorts F none (some (.val (nD k))) (some (.val t)) x9 x10 x11 (some (.val (nD j))) none ∧ (y = true → Q j))
    (hK : ∀ zs : List Str, zs.length ≤ tags.length → (∀ z ∈ zs, ∃ j, tags[j]? = some z ∧ Q j) → K (.list (zs.map .str)) (stK u m b tags sorts F none (some (.val (nD k))) (some (.val t)) x9 x10 x11 none none)) :
    KComp C (.op .ix (.cons (.var 3) (.cons (.var 12) .nil))) (.nm 12) (.cons c .nil) K (rgD ((tags.length : Nat) : Int)) (stK u m b tags sorts F none (some (.val (nD k))) (some (.val t)) x9 x10 x11 none none) := by
  refine comp_rg (fun i acc s => ∃ (zs : List Str) (x : Option B), acc = zs.map .str ∧ s = stK u m b tags sorts F none (some (.val (nD k))) (some (.val t)) x9 x10 x11 x none ∧ zs.length ≤ i ∧ ∀ z ∈ zs, ∃ j, tags[j]? = some z ∧ Q j) (by dsimp? [stK]) (by rw [sl_eq]; omega) ⟨[], none, rfl, rfl, Nat.le_refl _, fun _ h => nomatch h⟩ ?_ ?_
  · rintro i acc s hi ⟨zs, x, rfl, rfl, hl, hz⟩
    obtain ⟨y, _, hy, rfl, hQ⟩ := hc i hi
    dsimp? [stK]
    refine ⟨_, _, hy, ?_⟩
    refine ts_of (fun h => ?_) (fun h => ?_)
    · dsimp? [stK, nD, atI_str hi]
      refine ⟨zs ++ [tags[i]], _, by rw [List.map_append]; rfl, rfl, by simp; omega, fun z h => ?_⟩
      rcases List.mem_append.mp h with h | h
      · exact hz z h
      · rw [List.mem_singleton.mp h]; exact ⟨i, List.getElem?_eq_getElem hi, hQ ‹_›⟩
    · dsimp?
      exact ⟨zs, _, rfl, rfl, by omega, hz⟩
  · rintro ys s' _ ⟨zs, x, rfl, rfl, hl, hz⟩
    dsimp? [stK]
    exact hK zs hl hz
theorem tup_flat {xs : List D} {k : Nat} (hl : xs.length ≤ sizeLine) (h : ∀ x ∈ xs, flat k x) : flat (k + 1) (.tuple xs) := ⟨hl, h⟩
theorem lst_flat {xs : List D} {k : Nat} (hl : xs.length ≤ sizeLine) (h : ∀ x ∈ xs, flat k x) : flat (k + 1) (.list xs) := ⟨hl, h⟩
theorem strs_flat {ss : List Str} (h : ∀ s ∈ ss, PyData.strOk s = true) (hl : ss.length ≤ sizeLine) (k : Nat) : flat (k + 1) (.tuple (ss.map .str)) := by
  refine ⟨by simpa using hl, fun x hx => ?_⟩
  obtain ⟨s, hs, rfl⟩ := List.mem_map.mp hx
  cases k <;> exact h s hs
theorem eR_flat {r : List Nat} (hl : r.length ≤ sizeLine) (k : Nat) : flat (k + 1) (eR r) := by
  refine ⟨by simpa using hl, fun x hx => ?_⟩
  obtain ⟨s, hs, rfl⟩ := List.mem_map.mp hx
  cases k <;> trivial
theorem lR_flat {r : List Nat} (hl : r.length ≤ sizeLine) (k : Nat) : flat (k + 1) (lR r) := by
  refine ⟨by simpa using hl, fun x hx => ?_⟩
  obtain ⟨s, hs, rfl⟩ := List.mem_map.mp hx
  cases k <;> trivial
theorem dash_ok : PyData.strOk dash = true := by decide +kernel
theorem row_sok {k : Bx} (hk : okBx k) {r : Str × List Nat × List Str} (hr : r ∈ k.rows) : ∀ s ∈ r.2.2, PyData.strOk s = true := by
  intro s hs
  rcases hk.sn r hr s hs with rfl | h
  · exact dash_ok
  · exact (note_ok hk h).2.2
theorem rowE_flat {k : Bx} (hk : okBx k) {r : Str × List Nat × List Str} (hr : r ∈ k.rows) (j : Nat) : flat (j + 2) (rowE r) := by
  have b16 := hk.b16
  refine ⟨by rw [sl_eq]; simp, fun x hx => ?_⟩
  simp only [List.mem_cons, List.not_mem_nil, or_false] at hx
  rcases hx with rfl | rfl | rfl
  · exact (hk.nm r hr).2.2
  · exact eR_flat (by rw [hk.fl r hr, sl_eq]; omega) j
  · exact strs_flat (row_sok hk hr) (by rw [hk.sl r hr, sl_eq]; omega) j
theorem eB_flat {k : Bx} (hk : okBx k) (j : Nat) : flat (j + 4) (eB k) := by
  have few := hk.few
  refine ⟨by rw [sl_eq]; simp, fun x hx => ?_⟩
  simp only [List.mem_cons, List.not_mem_nil, or_false] at hx
  rcases hx with rfl | rfl
  · trivial
  · refine ⟨by rw [List.length_map, sl_eq]; omega, fun x hx => ?_⟩
    obtain ⟨r, hr, rfl⟩ := List.mem_map.mp hx
    exact rowE_flat hk hr j
theorem lists_str (k : Nat) (z : Str) : listsD k (.str z) = .str z := by cases k <;> rfl
theorem lists_nD (k : Nat) (z : Nat) : listsD k (nD z) = nD z := by cases k <;> rfl
theorem lists_eB (j : Nat) (k : Bx) : listsD (j + 4) (eB k) = lB k := by
  have h : ∀ r, listsD (j + 2) (rowE r) = rowL r := by
    intro r
    simp [rowE, rowL, listsD, lists_str, Function.comp_def, lists_nD]
  simp [eB, lB, listsD, Function.comp_def, lists_nD, h]
theorem flat_lists : ∀ {n : Nat} {d : D}, flat n d → flat n (listsD n d) := by
  intro n
  induction n with
  | zero => intro d h; cases d <;> exact h
  | succ n ih =>
    intro d h
    cases d with
    | list xs =>
      refine ⟨by simpa using h.1, fun x hx => ?_⟩
      obtain ⟨y, hy, rfl⟩ := List.mem_map.mp hx
      exact ih (h.2 y hy)
    | tuple xs =>
      refine ⟨by simpa using h.1, fun x hx => ?_⟩
      obtain ⟨y, hy, rfl⟩ := List.mem_map.mp hx
      exact ih (h.2 y hy)
    | _ => exact h
theorem lB_flat {k : Bx} (hk : okBx k) (j : Nat) : flat (j + 4) (lB k) := by
  rw [← lists_eB j k]
  exact flat_lists (eB_flat hk j)
theorem act_times {k : Bx} (hk : okBx k) {w : List Dd} (hw : okWd k w) {r : List Nat} (hr : ∀ x ∈ r, x < k.b) (t : Int) : act k.T (flatF [(w, t)]) r = act k.T (pw w (t % ((rounds k w r).1 : Int)).toNat) r := by
  have p0 := (rounds_spec hk r w).1
  unfold flatF
  rw [List.map_cons, List.map_nil]
  unfold fwd1
  simp only
  split
  · rename_i h
    rw [flatP_one, act_mod hk]
    congr 2
    obtain ⟨m, rfl⟩ := Int.eq_ofNat_of_zero_le h
    rw [Int.toNat_natCast]
    omega
  · rename_i h
    rw [flatP_one]
    refine pw_neg hw hr _ _ hk ?_
    have h1 := Int.emod_nonneg t (show ((rounds k w r).1 : Int) ≠ 0 by omega)
    have h2 := Int.mul_ediv_add_emod t ((rounds k w r).1 : Int)
    refine Int.natCast_dvd_natCast.mp ⟨-(t / ((rounds k w r).1 : Int)), ?_⟩
    rw [Int.natCast_add, Int.toNat_of_nonneg h1, Int.toNat_of_nonneg (by omega), Int.mul_neg]
    omega
theorem plain_str (k : Nat) (z : Str) : plainD k (.str z) = .str z := by cases k <;> rfl
theorem plain_nD (k : Nat) (z : Nat) : plainD k (nD z) = nD z := by cases k <;> rfl
theorem plain_eB (j : Nat) (k : Bx) : plainD (j + 4) (eB k) = eB k := by
  have h : ∀ r, plainD (j + 2) (rowE r) = rowE r := by
    intro r
    simp [rowE, plainD, plain_str, Function.comp_def, plain_nD]
  simp [eB, plainD, Function.comp_def, plain_nD, h]
theorem plain_lB (j : Nat) (k : Bx) : plainD (j + 4) (lB k) = eB k := by
  have h : ∀ r, plainD (j + 2) (rowL r) = rowE r := by
    intro r
    simp [rowE, rowL, plainD, plain_str, Function.comp_def, plain_nD]
  simp [eB, lB, plainD, Function.comp_def, plain_nD, h]
theorem findD_nat : ∀ (l : List Nat) (x : Nat), x ∈ l → findD (nD x) (l.map nD) = some (l.idxOf x)
  | [], x, h => by cases h
  | y :: l, x, h => by
    show (if PyData.eqv (nD y) (nD x) then some 0 else (findD (nD x) (l.map nD)).map (· + 1)) = _
    unfold nD
    rw [eqv_int]
    by_cases e : y = x
    · subst e
      simp
    · have hx : x ∈ l := by
        rcases List.mem_cons.mp h with q | q
        · exact absurd q.symm e
        · exact q
      have e2 : ((y : Int) == (x : Int)) = false := by simpa using fun q => e (by omega)
      have ih := findD_nat l x hx
      unfold nD at ih
      have e3 : (y == x) = false := by simpa using e
      rw [e2, ih]
      simp [List.idxOf_cons, e3]
theorem ix_nat {l : List Nat} {x : Nat} (hx : x < l.length) : L2.atI (l.map nD) (x : Int) = some (nD (l.getD x 0)) := by
  rw [atI_nat, List.getElem?_map, List.getElem?_eq_getElem hx, List.getD_eq_getElem?_getD, List.getElem?_eq_getElem hx]
  rfl
theorem ix_str {l : List Str} {x : Nat} (hx : x < l.length) : L2.atI (l.map PyData.str) (x : Int) = some (.str (l.getD x dash)) := by
  rw [atI_nat, List.getElem?_map, List.getElem?_eq_getElem hx, List.getD_eq_getElem?_getD, List.getElem?_eq_getElem hx]
  rfl
theorem index_nat {g : List Nat} (hl : g.length ≤ 1000) {x : Nat} (hx : x ∈ g) : opIndex (.list (g.map nD)) (.int (x : Int)) = some (nD (g.idxOf x)) := by
  have h1 : sh (.list (g.map nD)) = true := flat_sh (lR_flat (by rw [sl_eq]; omega) 0) (by omega)
  have h2 := findD_nat g x hx
  unfold nD at h2
  simp only [opIndex, h1, sh_int, Bool.and_self, if_true]
  show (findD (PyData.int (x : Int)) (g.map nD)).map _ = _
  rw [show g.map nD = g.map (fun x : Nat => PyData.int (x : Int)) from rfl, h2]
  rfl
theorem eR_sh {r : List Nat} (hl : r.length ≤ sizeLine) : sh (eR r) = true := flat_sh (eR_flat hl 0) (by omega)
theorem eqvAll_ints : ∀ (a b : List Nat), PyData.eqvAll (a.map nD) (b.map nD) = decide (a = b)
  | [], [] => rfl
  | [], _ :: _ => rfl
  | _ :: _, [] => rfl
  | x :: a, y :: b => by
    rw [List.map_cons, List.map_cons]
    unfold PyData.eqvAll
    rw [eqvAll_ints a b]
    unfold nD
    rw [eqv_int, Bool.eq_iff_iff]
    simp only [Bool.and_eq_true, beq_iff_eq, decide_eq_true_eq, List.cons.injEq]
    constructor
    · rintro ⟨h1, h2⟩; exact ⟨by omega, h2⟩
    · rintro ⟨h1, h2⟩; exact ⟨by omega, h2⟩
theorem eR_eqv (a b : List Nat) : PyData.eqv (eR a) (eR b) = decide (a = b) := by
  unfold eR PyData.eqv
  exact eqvAll_ints a b
theorem pw_len {α : Type} (w : List α) : ∀ n, (pw w n).length = n * w.length
  | 0 => by simp [pw]
  | n + 1 => by simp [pw, pw_len w n, Nat.add_mul, Nat.add_comm]
end
end L01

namespace L01
open PySem FC
def wf : Nat := 100000
section
variable {n : Nat}
theorem s_take_a (hn : 1 ≤ n) {a b c m : Int} (ha : 0 < a) (hm : 0 < m) (hm2 : m < 2 ^ 200) : run tf wf n x__law_take [urn a b c, .int m] = some (.int (a % m), [urn (a / m) b c]) := by
  rw [run_at' at__law_take hn rfl]
  simp [I__law_take, B__law_take, startS, inB, urn, ha, hm, log_lt' (Int.le_of_lt hm) hm2, endD, lentsOf]
theorem s_take_b (hn : 1 ≤ n) {a b c m : Int} (ha : a ≤ 0) (hc : 0 ≤ c) (hc2 : c < 2 ^ 62) (hm : 0 < m) : run tf wf n x__law_take [urn a b c, .int m] = some (.int (drawn b (c + 1) m), [urn a b (c + 1)]) := by
  rw [run_at' at__law_take hn rfl]
  have e1 : mulOk 48271 (c + 1) = true := mul_ok' (by decide)
  have e2 : mulOk (b + 48271 * (c + 1)) (39373 + (c + 1)) = true := mul_ok (by omega)
  have e3 : mulOk (once b (c + 1) + (c + 1) + b / 1000003) (once b (c + 1) % 40009 + 7) = true := mul_ok (by omega)
  have e4 : mulOk (twice b (c + 1)) 48271 = true := mul_ok (by decide)
  have na : ¬ 0 < a := by omega
  have l1 : Nat.log2 1000003 < 9000 := by decide +kernel
  have l2 : Nat.log2 64 < 9000 := by decide +kernel
  unfold twice at e4
  unfold once at e3 e4
  simp [I__law_take, B__law_take, startS, inB, urn, na, hm, endD, lentsOf, e1, e2, e3, e4, l1, l2, drawn, twice, once]
theorem s_take (hn : 1 ≤ n) {u : D} {N : Nat} {m : Int} (hu : Urn N u) (hN : N < 2 ^ 62) (hm : 0 < m) (hm2 : m < 2 ^ 200) :
    ∃ r u', run tf wf n x__law_take [u, .int m] = some (.int r, [u']) ∧ Urn (N + 1) u' ∧ 0 ≤ r ∧ r < m := by
  obtain ⟨a, b, c, rfl, h1, h2, h3⟩ := hu
  by_cases ha : 0 < a
  · exact ⟨_, _, s_take_a hn ha hm hm2, ⟨_, _, _, rfl, Int.ediv_nonneg h1 (by omega), h2, by omega⟩, Int.emod_nonneg _ (by omega), Int.emod_lt_of_pos _ hm⟩
  · exact ⟨_, _, s_take_b hn (by omega) h2 (by omega) hm, ⟨_, _, _, rfl, h1, by omega, by omega⟩, Int.emod_nonneg _ (by omega), Int.emod_lt_of_pos _ hm⟩
theorem s_of (hn : 2 ≤ n) {u : D} {N : Nat} {xs : List D} (hu : Urn N u) (hN : N < 2 ^ 62) (hx : xs ≠ []) (hx2 : xs.length < 2 ^ 62) :
    ∃ (k : Nat) (x : D) (u' : D), xs[k]? = some x ∧ run tf wf n x__law_of [u, .list xs] = some (x, [u']) ∧ Urn (N + 1) u' := by
  have hpos : 0 < xs.length := List.length_pos_iff.mpr hx
  obtain ⟨r, u', e, hu', h0, h1⟩ := s_take (n := n - 1) (m := (xs.length : Int)) (by omega) hu hN (by omega) (by omega)
  obtain ⟨k, rfl⟩ := Int.eq_ofNat_of_zero_le h0
  have hk : k < xs.length := by omega
  refine ⟨k, xs[k], u', List.getElem?_eq_getElem hk, ?_, hu'⟩
  rw [run_at' at__law_of (by omega) rfl]
  have ix : L2.atI xs (k : Int) = some xs[k] := by rw [atI_nat, List.getElem?_eq_getElem hk]
  simp [I__law_of, B__law_of, startS, inB, endD, lentsOf, e, ix]
theorem s_box (hn : 1 ≤ n) {ns : List Int} {k : Nat} :
    ∃ u, run tf wf n x__law_box [.list (ns.map .int), .int k] = some (u, []) ∧ Urn 0 u := by
  have e2 : mulOk 39373 (k : Int) = true := mul_ok' (by decide)
  have e3 : opPow (.int 10) (.int 18) = some (.int (10 ^ 18)) := rfl
  have ez : (3 : Nat) ≤ sizeLine := by decide
  by_cases hlt : k < ns.length
  · have ix : L2.atI (ns.map PyData.int) (k : Int) = some (.int ns[k]) := by
      rw [atI_nat, List.getElem?_map, List.getElem?_eq_getElem hlt]; rfl
    have hlt' : (k : Int) < (ns.length : Int) := by omega
    refine ⟨urn (absI ns[k] * (if (10 ^ 18 : Int) ≤ absI ns[k] then 1 else 0)) (ns[k] % 2305843009213693951 + 39373 * k + kk_box) 0, ?_, _, _, _, rfl, Int.mul_nonneg (abs_nn _) ite_nn, by omega, by omega⟩
    rw [run_at' at__law_box hn rfl]
    simp [I__law_box, B__law_box, startS, inB, endD, lentsOf, ix, hlt', hlt, e2, e3, mul_b, ez, urn]
  · have hlt' : ¬ (k : Int) < (ns.length : Int) := by omega
    refine ⟨urn 0 (0 % 2305843009213693951 + 39373 * k + kk_box) 0, ?_, _, _, _, rfl, by omega, by omega, by omega⟩
    rw [run_at' at__law_box hn rfl]
    have a0 : absI 0 = 0 := rfl
    have m00 : mulOk 0 0 = true := by decide +kernel
    simp [I__law_box, B__law_box, startS, inB, endD, lentsOf, hlt', hlt, e2, e3, mul_b, ez, urn, a0, m00]
end
end L01

namespace L01
open PySem FC
section
variable {n : Nat}
theorem s_cells (hn : 1 ≤ n) {ns : List Int} {m : Nat} (hm : 0 < m) (hm2 : m < 64) :
    ∃ ms : List Int, run tf wf n x__law_cells [.list (ns.map .int), .int m] = some (.list (ms.map .int), []) ∧ 0 < ms.length ∧ ms.length ≤ m := by
  let st (cs : List Int) (a b c : Option D) : S := [some (.val (.list (ns.map .int))), some (.val (.int m)), some (.own (.list (cs.map .int))), a.map .val, b.map .val, c.map .val]
  have hloop : ∀ cs : List Int, (m < ns.length → cs.length = m) → ∃ cs' a b c, stm wf (run tf wf (n - 1)) (.for_ (.tp [3, 4]) (.itEnum (.sl2 (.var 0) (.var 1) (.con (.int 63)))) S__law_cells_0) (st cs none none none) = some (.nx, st cs' a b c) ∧ cs'.length = cs.length := by
    intro cs hcs
    rw [stm_for]
    have hit : (sem (run tf wf (n - 1)) (.itEnum (.sl2 (.var 0) (.var 1) (.con (.int 63))))).it (st cs none none none) = some (enumD 0 (((ns.map PyData.int).drop m).take (63 - m)), st cs none none none) := by
      have e63 : cutD (ns.map PyData.int) (some (m : Int)) (some 63) = ((ns.map PyData.int).drop m).take (63 - m) := cut_mid (l := 63)
      simp [st, e63]
    rw [bnd_run, hit]
    obtain ⟨s', e, p⟩ := forLoop_inv (b := stm wf (run tf wf (n - 1)) S__law_cells_0) (t := .tp [3, 4]) (fun _ s => ∃ cs' a b c, s = st cs' a b c ∧ cs'.length = cs.length) (enumD 0 (((ns.map PyData.int).drop m).take (63 - m))) (by
      rintro i d s hd ⟨cs', a, b, c, rfl, hl⟩
      obtain ⟨y, hy, rfl⟩ := enumD_get hd
      have hi : i < 63 - m ∧ m + i < ns.length := by
        have := (List.getElem?_eq_some_iff.mp hy).1
        simp only [List.length_take, List.length_drop, List.length_map] at this
        omega
      rw [List.getElem?_take_of_lt hi.1, List.getElem?_drop, List.getElem?_map, List.getElem?_eq_getElem hi.2] at hy
      cases hy
      have hlen : cs'.length = m := by rw [hl]; exact hcs (by omega)
      have hk : ((i : Int) % (m : Int)) = ((i % m : Nat) : Int) := by omega
      have hk2 : i % m < cs'.length := by rw [hlen]; exact Nat.mod_lt _ hm
      have ix : L2.atI (cs'.map PyData.int) ((i : Int) % (m : Int)) = some (.int cs'[i % m]) := by
        rw [hk, atI_nat, List.getElem?_map, List.getElem?_eq_getElem hk2]; rfl
      have sb : ∀ x : Int, subD (.list (cs'.map PyData.int)) (.int ((i : Int) % (m : Int))) (.int x) = some (.list ((cs'.set (i % m) x).map PyData.int)) := fun x => by
        rw [hk, sub_nat (by simpa using hk2), List.map_set]
      have mo : mulOk ns[m + i] ((i : Int) + 2) = true := mul_ok (by omega)
      have hm' : (0 : Int) < m := by omega
      refine ⟨st cs' (some (.int i)) (some (.int ns[m + i])) c, st (cs'.set (i % m) (cs'[i % m] + ns[m + i] * ((i : Int) + 2))) (some (.int i)) (some (.int ns[m + i])) (some (.int ((i : Int) % (m : Int)))), ?_, .inl ?_, _, _, _, _, rfl, by simp [hl]⟩
      · cases a <;> cases b <;> simp [st, bindT, itemsOf, putAll]
      · cases c <;> simp [S__law_cells_0, st, hm, ix, sb, mo]) (st cs none none none) ⟨cs, none, none, none, rfl, rfl⟩
    obtain ⟨cs', a, b, c, rfl, hl⟩ := p
    exact ⟨cs', a, b, c, e, hl⟩
  have ct : cutD (ns.map PyData.int) none (some (m : Int)) = (ns.take m).map PyData.int := by rw [cut_take, List.map_take]
  have e1 : (1 : Nat) ≤ sizeLine := by decide
  by_cases h0 : ns = []
  · subst h0
    obtain ⟨cs', a, b, c, e, hl⟩ := hloop [0] (by simp)
    refine ⟨cs', ?_, by rw [hl]; simp, by rw [hl]; show 1 ≤ m; omega⟩
    rw [run_at' at__law_cells hn rfl]
    simp only [st] at e
    simp [List.map_nil, Option.map] at e
    simp [I__law_cells, B__law_cells, startS, inB, endD, lentsOf, cut_take, e1, e]
  · have hne : ns.take m ≠ [] := by
      intro z
      have h1 := congrArg List.length z
      rw [List.length_take, List.length_nil] at h1
      have h2 : 0 < ns.length := List.length_pos_iff.mpr h0
      omega
    obtain ⟨cs', a, b, c, e, hl⟩ := hloop (ns.take m) (fun hlt => by rw [List.length_take]; omega)
    have hp : 0 < (ns.take m).length := List.length_pos_iff.mpr hne
    refine ⟨cs', ?_, by rw [hl]; exact hp, by rw [hl, List.length_take]; omega⟩
    rw [run_at' at__law_cells hn rfl]
    have hb : ((ns.take m).map PyData.int).isEmpty = false := by
      cases q : ns.take m with
      | nil => exact absurd q hne
      | cons _ _ => rfl
    simp only [st] at e
    simp only [Option.map_none] at e
    have hmz : (m = 0 ∨ ns = []) = False := by simp [h0]; omega
    simp [I__law_cells, B__law_cells, startS, inB, endD, lentsOf, ct, e1, hb, hmz]
    rw [List.map_take] at e
    simp [e]
end
end L01

namespace L01
open PySem FC
section
variable {n : Nat}
theorem s_lists : ∀ (k : Nat) (v : D) (n : Nat), k + 1 ≤ n → flat k v → run tf wf n x__law_lists [v] = some (listsD k v, []) := by
  intro k
  induction k with
  | zero =>
    intro v n hn hv
    rw [run_at' at__law_lists hn rfl]
    cases v <;> first | exact hv.elim | simp [I__law_lists, B__law_lists, startS, inB, endD, lentsOf, isTy, listsD]
  | succ k ih =>
    intro v n hn hv
    rw [run_at' at__law_lists (by omega) rfl]
    have hc : ∀ xs, walkOf v = some xs → xs.length ≤ sizeLine → (∀ x ∈ xs, flat k x) → (sem (run tf wf (n - 1)) E__law_lists_0).v [some (.val v), none] = some (.list (xs.map (listsD k)), [some (.val v), none]) := by
      intro xs hw hl hx
      refine comp_map (listsD k) (by simp [hw]) (by simp) hl fun d hd => ⟨[some (.val v), some (.val d)], [some (.val v), some (.val d)], [some (.val v), some (.val d)], by simp, by simp, ?_, by simp⟩
      simp [ih d (n - 1) (by omega) (hx d hd)]
    cases v with
    | list xs => simp [I__law_lists, B__law_lists, startS, inB, endD, lentsOf, isTy, listsD, hc xs rfl hv.1 hv.2]
    | tuple xs => simp [I__law_lists, B__law_lists, startS, inB, endD, lentsOf, isTy, listsD, hc xs rfl hv.1 hv.2]
    | dict _ => exact hv.elim
    | _ => simp [I__law_lists, B__law_lists, startS, inB, endD, lentsOf, isTy, listsD]
end
end L01

namespace L01
open PySem FC
section
variable {n : Nat}
theorem s_same : ∀ (k : Nat) (v : D) (n : Nat), k + 1 ≤ n → flat k v → k ≤ 64 → run tf wf n x__law_same [v, v] = some (.bool true, []) := by
  intro k
  induction k with
  | zero =>
    intro v n hn hv hk
    rw [run_at' at__law_same hn rfl]
    have h1 := flat_sh hv (by omega)
    have h2 := flat_eqv hv
    cases v <;> first | exact hv.elim | simp [I__law_same, B__law_same, startS, inB, endD, lentsOf, isTy, isNone, h1, h2]
  | succ k ih =>
    intro v n hn hv hk
    rw [run_at' at__law_same (by omega) rfl]
    have h1 := flat_sh hv (by omega)
    have h2 := flat_eqv hv
    have hz : ∀ xs : List D, ∀ d ∈ zipD xs xs, ∃ x ∈ xs, d = .tuple [x, x] := by
      intro xs
      induction xs with
      | nil => intro d hd; cases hd
      | cons x xs ihx =>
        intro d hd
        rcases List.mem_cons.mp hd with rfl | hd
        · exact ⟨x, List.mem_cons_self, rfl⟩
        · obtain ⟨y, hy, e⟩ := ihx d hd
          exact ⟨y, List.mem_cons_of_mem _ hy, e⟩
    have hzl : ∀ xs : List D, (zipD xs xs).length = xs.length := by
      intro xs
      induction xs with
      | nil => rfl
      | cons x xs ihx => show (zipD xs xs).length + 1 = xs.length + 1; rw [ihx]
    have hzm : ∀ xs : List D, (zipD xs xs).map (fun _ => PyData.bool true) = List.replicate xs.length (PyData.bool true) := by
      intro xs
      rw [List.map_const', hzl]
    have hb : ∀ m : Nat, boolsOf (List.replicate m (PyData.bool true)) = some (List.replicate m true) := by
      intro m
      induction m with
      | zero => rfl
      | succ m ihm => simp [List.replicate_succ, boolsOf, ihm]
    have ha : ∀ m : Nat, opAll (.list (List.replicate m (PyData.bool true))) = some (.bool true) := by
      intro m
      simp [opAll, hb]
    have hc : ∀ xs, (v = .list xs ∨ v = .tuple xs) → xs.length ≤ sizeLine → (∀ x ∈ xs, flat k x) → (sem (run tf wf (n - 1)) E__law_same_0).v [some (.val v), some (.val v), none, none, none] = some (.list (List.replicate xs.length (.bool true)), [some (.val v), some (.val v), none, none, none]) := by
      intro xs hw hl hx
      rw [← hzm xs]
      refine comp_map (fun _ => PyData.bool true) (by rcases hw with rfl | rfl <;> simp) (by simp) (by rw [hzl]; exact hl) fun d hd => ?_
      obtain ⟨x, hx', rfl⟩ := hz xs d hd
      refine ⟨[some (.val v), some (.val v), none, some (.val x), some (.val x)], [some (.val v), some (.val v), none, some (.val x), some (.val x)], [some (.val v), some (.val v), none, some (.val x), some (.val x)], by simp [bindT, itemsOf, putAll], by simp, ?_, by simp⟩
      simp [ih x (n - 1) (by omega) (hx x hx') (by omega)]
    cases v with
    | list xs => simp [I__law_same, B__law_same, startS, inB, endD, lentsOf, isTy, hc xs (.inl rfl) hv.1 hv.2, ha]
    | tuple xs => simp [I__law_same, B__law_same, startS, inB, endD, lentsOf, isTy, hc xs (.inr rfl) hv.1 hv.2, ha]
    | dict _ => exact hv.elim
    | _ => simp [I__law_same, B__law_same, startS, inB, endD, lentsOf, isTy, isNone, h1, h2]
end
end L01

namespace L01
open PySem FC
section
variable {n : Nat}
theorem s_of' (hn : 2 ≤ n) {u : D} {N : Nat} {a : D} {xs : List D} (ha : a = .list xs ∨ a = .tuple xs) (hu : Urn N u) (hN : N < 2 ^ 62) (hx : xs ≠ []) (hx2 : xs.length < 2 ^ 62) :
    ∃ (x : D) (u' : D), x ∈ xs ∧ run tf wf n x__law_of [u, a] = some (x, [u']) ∧ Urn (N + 1) u' := by
  have hpos : 0 < xs.length := List.length_pos_iff.mpr hx
  obtain ⟨r, u', e, hu', h0, h1⟩ := s_take (n := n - 1) (m := (xs.length : Int)) (by omega) hu hN (by omega) (by omega)
  obtain ⟨k, rfl⟩ := Int.eq_ofNat_of_zero_le h0
  have hk : k < xs.length := by omega
  refine ⟨xs[k], u', List.getElem_mem hk, ?_, hu'⟩
  rw [run_at' at__law_of (by omega) rfl]
  have ix : L2.atI xs (k : Int) = some xs[k] := by rw [atI_nat, List.getElem?_eq_getElem hk]
  rcases ha with rfl | rfl <;> simp [I__law_of, B__law_of, startS, inB, endD, lentsOf, e, ix]
theorem s_pick (hn : 2 ≤ n) {u : D} {N m : Nat} {xs : List D} (hu : Urn N u) (hN : N + 1000 < 2 ^ 62) (hm : m ≤ 100) (hx : xs.length ≤ 100) :
    ∃ ys rest u', run tf wf n x__law_pick [u, .list xs, nD m] = some (.list ys, [u']) ∧ (ys ++ rest).Perm xs ∧ ys.length = min m xs.length ∧ Urn (N + m) u' := by
  rw [run_at' at__law_pick (by omega) rfl]
  have z0 : (0 : Nat) ≤ sizeLine := by decide
  have z1 : (100 : Nat) < sizeLine := by decide
  have hmin : op2 .min2 (nD m) (.int (xs.length : Int)) = some (nD (min m xs.length)) := by
    unfold nD
    simp only [op2, opMin2]
    congr 2
    split <;> omega
  have loop : ∃ s', forLoop (.nm 3) (stm wf (run tf wf (n - 1)) S__law_pick_0) ((List.range (min m xs.length)).map nD) [some (.lent u), some (.val (.list xs)), some (.val (nD m)), none, some (.own (.list xs)), some (.own (.list []))] = some (.nx, s') ∧ ∃ (b3 : Option D) (u' : D) (rest ys : List D), s' = [some (.lent u'), some (.val (.list xs)), some (.val (nD m)), pv b3, some (.own (.list rest)), some (.own (.list ys))] ∧ (ys ++ rest).Perm xs ∧ ys.length = ((List.range (min m xs.length)).map nD).length ∧ Urn (N + ((List.range (min m xs.length)).map nD).length) u' := by
    refine forLoop_inv (fun i s => ∃ (b3 : Option D) (u' : D) (rest ys : List D), s = [some (.lent u'), some (.val (.list xs)), some (.val (nD m)), pv b3, some (.own (.list rest)), some (.own (.list ys))] ∧ (ys ++ rest).Perm xs ∧ ys.length = i ∧ Urn (N + i) u') _ ?_ _ ⟨none, u, xs, [], rfl, List.Perm.refl _, rfl, hu⟩
    rintro i d s hd ⟨b3, u1, rest, ys, rfl, hp, hy, hu1⟩
    have hi : i < min m xs.length := by have := (List.getElem?_eq_some_iff.mp hd).1; simpa using this
    have hlen := hp.length_eq
    rw [List.length_append] at hlen
    have hr : 0 < rest.length := by omega
    obtain ⟨r, u2, e, hu2, h0, h1⟩ := s_take (n := n - 1) (m := (rest.length : Int)) (by omega) hu1 (by omega) (by omega) (by omega)
    obtain ⟨k, rfl⟩ := Int.eq_ofNat_of_zero_le h0
    have hk : k < rest.length := by omega
    have hix : L2.ixN rest.length (k : Int) = some k := by
      unfold L2.ixN
      simp
      omega
    have hg : rest[k]? = some rest[k] := List.getElem?_eq_getElem hk
    have hrl : rest.length ≤ sizeLine := by omega
    have hyl : ys.length < sizeLine := by omega
    refine ⟨[some (.lent u1), some (.val (.list xs)), some (.val (nD m)), some (.val d), some (.own (.list rest)), some (.own (.list ys))], [some (.lent u2), some (.val (.list xs)), some (.val (nD m)), some (.val d), some (.own (.list (rest.eraseIdx k))), some (.own (.list (ys ++ [rest[k]])))], by simp, .inl ?_, some d, u2, rest.eraseIdx k, ys ++ [rest[k]], rfl, ?_, by simp [hy], hu2⟩
    · simp [S__law_pick_0, e, muM, isListA, isTy, muD, hix, hk, hrl, hyl]
    · rw [List.append_assoc]
      exact (List.Perm.append_left ys (erase_perm rest k hk)).trans hp
  obtain ⟨s', e, b3, u', rest, ys, rfl, hp, hy, hu'⟩ := loop
  rw [List.length_map, List.length_range] at hy hu'
  refine ⟨ys, rest, u', ?_, hp, hy, hu'.mono (by omega)⟩
  have e' : stm wf (run tf wf (n - 1)) (.for_ (.nm 3) (.itRange (.cons (.op .min2 (.cons (.var 2) (.cons (.op .len (.cons (.pk 4) .nil)) .nil))) .nil)) S__law_pick_0) [some (.lent u), some (.val (.list xs)), some (.val (nD m)), none, some (.own (.list xs)), some (.own (.list []))] = some (.nx, [some (.lent u'), some (.val (.list xs)), some (.val (nD m)), pv b3, some (.own (.list rest)), some (.own (.list ys))]) := by
    rw [stm_for, bnd_run, it_range1 (n := ((min m xs.length : Nat) : Int)) (s' := [some (.lent u), some (.val (.list xs)), some (.val (nD m)), none, some (.own (.list xs)), some (.own (.list []))]) (by simp [hmin]; rfl) (small_nat (by omega)), rangeN]
    exact e
  simp [I__law_pick, B__law_pick, startS, inB, endD, lentsOf, e', z0, bindT, putAll, bsOf, bOf]
theorem s_turning (hn : 3 ≤ n) {u : D} {N b : Nat} (hu : Urn N u) (hN : N + 1000 < 2 ^ 62) (hb : b ≤ 100) :
    ∃ (f : List Nat) (u' : D), run tf wf n x__law_turning [u, nD b] = some (eR f, [u']) ∧ f.length = b ∧ f.Nodup ∧ (∀ x ∈ f, x < b) ∧ Urn (N + b) u' := by
  rw [run_at' at__law_turning (by omega) rfl]
  obtain ⟨ys, rest, u', e, hp, hy, hu'⟩ := s_pick (n := n - 1) (by omega) (xs := (List.range b).map nD) hu hN hb (by simpa using hb)
  rw [List.length_map, List.length_range, Nat.min_self] at hy
  have hrest : rest = [] := by
    have := hp.length_eq
    simp at this
    exact List.length_eq_zero_iff.mp (by omega)
  rw [hrest, List.append_nil] at hp
  have hall : ∃ f : List Nat, ys = f.map nD := by
    have : ∀ y ∈ ys, ∃ x : Nat, y = nD x := fun y hy => by
      obtain ⟨x, _, rfl⟩ := List.mem_map.mp (hp.mem_iff.mp hy)
      exact ⟨x, rfl⟩
    clear hp hy e
    induction ys with
    | nil => exact ⟨[], rfl⟩
    | cons y ys ih =>
      obtain ⟨x, rfl⟩ := this y List.mem_cons_self
      obtain ⟨f, rfl⟩ := ih fun y hy => this y (List.mem_cons_of_mem _ hy)
      exact ⟨x :: f, rfl⟩
  obtain ⟨f, rfl⟩ := hall
  have inj : ∀ a b : Nat, nD a = nD b → a = b := fun a b h => by unfold nD at h; injection h with h; omega
  have nd0 : ((List.range b).map nD).Nodup := by
    refine List.Pairwise.map _ (fun a b h e => h (inj a b e)) List.nodup_range
  have nd1 : (f.map nD).Nodup := hp.nodup_iff.mpr nd0
  have nd : f.Nodup := by
    have := nd1
    unfold List.Nodup at this ⊢
    rw [List.pairwise_map] at this
    exact this.imp fun h e => h (by rw [e])
  refine ⟨f, u', ?_, by simpa using hy, nd, fun x hx => ?_, hu'⟩
  · have hr : opListR (nD b) = some (.list ((List.range b).map nD)) := by
      unfold nD
      simp only [opListR]
      have h1 : smallI (b : Int) = true := small_nat (by omega)
      rw [h1, Bool.true_and, if_pos (decide_eq_true (by omega)), rangeN]
      rfl
    simp [I__law_turning, B__law_turning, startS, inB, endD, lentsOf, hr, e]
    rfl
  · have := hp.mem_iff.mp (List.mem_map.mpr ⟨x, hx, rfl⟩)
    obtain ⟨y, hy, e⟩ := List.mem_map.mp this
    rw [← inj _ _ e]
    exact List.mem_range.mp hy
end
end L01

namespace L01
open PySem FC
section
variable {n : Nat}
theorem s_line (hn : 2 ≤ n) {u v : D} {k : Bx} (hv : Boxed v k) (hk : okBx k) {N m : Nat} (hu : Urn N u) (hN : N + 1000 < 2 ^ 62) (hm : m ≤ 500) :
    ∃ (r : List Nat) (u' : D), run tf wf n x__law_line [u, v, nD m] = some (eR r, [u']) ∧ r.length = m ∧ (∀ x ∈ r, x < k.b) ∧ Urn (N + m) u' := by
  rw [run_at' at__law_line (by omega) rfl]
  obtain ⟨i0, _⟩ := hv
  have b2 := hk.b2
  have b16 := hk.b16
  have z : (500 : Nat) ≤ sizeLine := by decide
  obtain ⟨ys, s', e2, r, u2, x, rfl, rfl, hl, hr, hu2⟩ := comp_ix' (E := E__law_line_0) rfl (C := run tf wf (n - 1)) (s0 := [some (.lent u), some (.val v), some (.val (nD m)), none]) (s := [some (.lent u), some (.val v), some (.val (nD m)), none]) (ds := (List.range m).map nD) (fun i acc s => ∃ (r : List Nat) (u2 : D) (x : Option D), s = [some (.lent u2), some (.val v), some (.val (nD m)), pv x] ∧ acc = r.map nD ∧ r.length = i ∧ (∀ x ∈ r, x < k.b) ∧ Urn (N + i) u2)
      (by rw [it_range1 (n := (m : Int)) (s' := [some (.lent u), some (.val v), some (.val (nD m)), none]) (by simp; rfl) (small_nat (by omega)), rangeN]) (by simp) (by rw [List.length_map, List.length_range]; omega) ⟨[], u, none, rfl, rfl, rfl, (fun _ h => nomatch h), hu⟩ (by
        rintro j d hd acc s ⟨r, u2, x, rfl, rfl, hl, hr, hu2⟩
        have hj : j < m := by have := (List.getElem?_eq_some_iff.mp hd).1; simpa using this
        obtain ⟨y, u3, e3, hu3, h0, h1⟩ := s_take (n := n - 1) (by omega) (m := (k.b : Int)) hu2 (by omega) (by omega) (by omega)
        obtain ⟨y, rfl⟩ := Int.eq_ofNat_of_zero_le h0
        refine ⟨[some (.lent u2), some (.val v), some (.val (nD m)), some (.val d)], true, [some (.lent u2), some (.val v), some (.val (nD m)), some (.val d)], by simp, by simp, nD y, [some (.lent u3), some (.val v), some (.val (nD m)), some (.val d)], ?_, r ++ [y], u3, some d, rfl, by simp, by simp [hl], ?_, hu3⟩
        · have e3' : run tf wf (n - 1) x__law_take [u2, nD k.b] = some (nD y, [u3]) := e3
          simp [i0, e3']
        · intro q hq
          rcases List.mem_append.mp hq with hq | hq
          · exact hr q hq
          · rw [List.mem_singleton.mp hq]; omega)
  rw [List.length_map, List.length_range] at hl hu2
  refine ⟨r, u2, ?_, hl, hr, hu2⟩
  simp [I__law_line, B__law_line, startS, inB, endD, lentsOf, e2]
  rfl
end
end L01

namespace L01
open PySem FC
section
variable {n : Nat}
theorem s_breath (hn : 1 ≤ n) {k : Bx} (hk : okBx k) {z : Str} (hz : okN z) : ∃ i : Int, run tf wf n x__law_breath [eB k, .str z] = some (.int i, []) := by
  rw [run_at' at__law_breath hn rfl]
  have few := hk.few
  have b16 := hk.b16
  have dsh : sh (.str dash) = true := by decide +kernel
  have zl : (10000 : Nat) < sizeLine := by decide
  have i1 : opIx (eB k) (.int 1) = some (.tuple (k.rows.map rowE)) := rfl
  -- the innermost loop
  have inner : ∀ (row : Str × List Nat × List Str), row ∈ k.rows → ∀ (b2 b7 : Option D) (i : Int) (K L : List (D × D)), Dc K → Dc L → L.length + row.2.2.length ≤ 5000 → ∃ (b7' : Option D) (L' : List (D × D)), Dc L' ∧ L'.length ≤ L.length + row.2.2.length ∧ forLoop (.nm 7) (stm wf (run tf wf (n - 1)) S__law_breath_0) (row.2.2.map .str) [some (.val (eB k)), some (.val (.str z)), pv b2, some (.val (.int i)), some (.val (.dict K)), some (.own (.dict L)), some (.val (rowE row)), pv b7] = some (.nx, [some (.val (eB k)), some (.val (.str z)), pv b2, some (.val (.int i)), some (.val (.dict K)), some (.own (.dict L')), some (.val (rowE row)), pv b7']) := by
    intro row hrow b2 b7 i K L hK hL hlen
    have h : ∃ s', forLoop (.nm 7) (stm wf (run tf wf (n - 1)) S__law_breath_0) (row.2.2.map .str) [some (.val (eB k)), some (.val (.str z)), pv b2, some (.val (.int i)), some (.val (.dict K)), some (.own (.dict L)), some (.val (rowE row)), pv b7] = some (.nx, s') ∧ ∃ (b7' : Option D) (L' : List (D × D)), Dc L' ∧ L'.length ≤ L.length + (row.2.2.map PyData.str).length ∧ s' = [some (.val (eB k)), some (.val (.str z)), pv b2, some (.val (.int i)), some (.val (.dict K)), some (.own (.dict L')), some (.val (rowE row)), pv b7'] := by
      refine forLoop_inv (fun j s => ∃ (b7' : Option D) (L' : List (D × D)), Dc L' ∧ L'.length ≤ L.length + j ∧ s = [some (.val (eB k)), some (.val (.str z)), pv b2, some (.val (.int i)), some (.val (.dict K)), some (.own (.dict L')), some (.val (rowE row)), pv b7']) _ ?_ _ ⟨b7, L, hL, by omega, rfl⟩
      rintro j d s hd ⟨b7', L', hL', hl', rfl⟩
      obtain ⟨y, hy, rfl⟩ := map_get hd
      have hj := (List.getElem?_eq_some_iff.mp hy).1
      have hys := hk.sn row hrow y (List.mem_of_getElem? hy)
      have i0 : opIx (rowE row) (.int 0) = some (.str row.1) := rfl
      by_cases hyd : y = dash
      · subst hyd
        exact ⟨[some (.val (eB k)), some (.val (.str z)), pv b2, some (.val (.int i)), some (.val (.dict K)), some (.own (.dict L')), some (.val (rowE row)), some (.val (.str dash))], [some (.val (eB k)), some (.val (.str z)), pv b2, some (.val (.int i)), some (.val (.dict K)), some (.own (.dict L')), some (.val (rowE row)), some (.val (.str dash))], by simp, .inl (by simp [S__law_breath_0, dsh]), some (.str dash), L', hL', by omega, rfl⟩
      · have yy : (y == dash) = false := by simpa using hyd
        have sy := str_sh (note_ok hk (hys.resolve_left hyd)).2.2
        obtain ⟨g1, e1⟩ := Dc_get (z := y) hL' 0
        obtain ⟨g2, e2⟩ := Dc_get (z := row.1) hK 0
        have hp := Dc_put (z := y) hL' (g1 + g2)
        have hl2 : L'.length < sizeLine := by omega
        refine ⟨[some (.val (eB k)), some (.val (.str z)), pv b2, some (.val (.int i)), some (.val (.dict K)), some (.own (.dict L')), some (.val (rowE row)), some (.val (.str y))], [some (.val (eB k)), some (.val (.str z)), pv b2, some (.val (.int i)), some (.val (.dict K)), some (.own (.dict (putD L' (.inr y) (.int (g1 + g2))))), some (.val (rowE row)), some (.val (.str y))], by simp, .inl ?_, some (.str y), _, hp.1, by omega, rfl⟩
        simp [S__law_breath_0, dsh, yy, sy, mtM, isListA, isTy, Mt.ty, mtD, e1, e2, i0, subD, keyOf, hl2]
    obtain ⟨s', e, b7', L', h1, h2, rfl⟩ := h
    rw [List.length_map] at h2
    exact ⟨b7', L', h1, h2, e⟩
  have mid : ∀ (b2 b6 b7 : Option D) (i : Int) (K : List (D × D)), Dc K → ∃ (b6' b7' : Option D) (L' : List (D × D)), Dc L' ∧ L'.length ≤ 1600 ∧ forLoop (.nm 6) (stm wf (run tf wf (n - 1)) S__law_breath_1) (k.rows.map rowE) [some (.val (eB k)), some (.val (.str z)), pv b2, some (.val (.int i)), some (.val (.dict K)), some (.own (.dict [])), pv b6, pv b7] = some (.nx, [some (.val (eB k)), some (.val (.str z)), pv b2, some (.val (.int i)), some (.val (.dict K)), some (.own (.dict L')), pv b6', pv b7']) := by
    intro b2 b6 b7 i K hK
    have h : ∃ s', forLoop (.nm 6) (stm wf (run tf wf (n - 1)) S__law_breath_1) (k.rows.map rowE) [some (.val (eB k)), some (.val (.str z)), pv b2, some (.val (.int i)), some (.val (.dict K)), some (.own (.dict [])), pv b6, pv b7] = some (.nx, s') ∧ ∃ (b6' b7' : Option D) (L' : List (D × D)), Dc L' ∧ L'.length ≤ 16 * (k.rows.map rowE).length ∧ s' = [some (.val (eB k)), some (.val (.str z)), pv b2, some (.val (.int i)), some (.val (.dict K)), some (.own (.dict L')), pv b6', pv b7'] := by
      refine forLoop_inv (fun j s => ∃ (b6' b7' : Option D) (L' : List (D × D)), Dc L' ∧ L'.length ≤ 16 * j ∧ s = [some (.val (eB k)), some (.val (.str z)), pv b2, some (.val (.int i)), some (.val (.dict K)), some (.own (.dict L')), pv b6', pv b7']) _ ?_ _ ⟨b6, b7, [], Dc_nil, by simp, rfl⟩
      rintro j d s hd ⟨b6', b7', L', hL', hl', rfl⟩
      obtain ⟨row, hy, rfl⟩ := map_get hd
      have hj := (List.getElem?_eq_some_iff.mp hy).1
      have hrow := List.mem_of_getElem? hy
      have ls := hk.sl row hrow
      obtain ⟨b7'', L'', hL'', hl'', e⟩ := inner row hrow b2 b7' i K L' hK hL' (by omega)
      have i2 : opIx (rowE row) (.int 2) = some (.tuple (row.2.2.map .str)) := rfl
      refine ⟨[some (.val (eB k)), some (.val (.str z)), pv b2, some (.val (.int i)), some (.val (.dict K)), some (.own (.dict L')), some (.val (rowE row)), pv b7'], [some (.val (eB k)), some (.val (.str z)), pv b2, some (.val (.int i)), some (.val (.dict K)), some (.own (.dict L'')), some (.val (rowE row)), pv b7''], by simp, .inl ?_, some (rowE row), b7'', L'', hL'', by omega, rfl⟩
      simp [S__law_breath_1, stm_for, i2, e]
    obtain ⟨s', e, b6', b7', L', h1, h2, rfl⟩ := h
    rw [List.length_map] at h2
    exact ⟨b6', b7', L', h1, by omega, e⟩
  have outer : ∃ s', forLoop (.nm 2) (stm wf (run tf wf (n - 1)) S__law_breath_3) ((List.range 12).map nD) [some (.val (eB k)), some (.val (.str z)), none, some (.val (.int 1)), some (.val (.dict [(.str z, .int 1)])), none, none, none] = some (.nx, s') ∧ ∃ (b2 b5 b6 b7 : Option D) (i : Int) (K : List (D × D)), Dc K ∧ s' = [some (.val (eB k)), some (.val (.str z)), pv b2, some (.val (.int i)), some (.val (.dict K)), pv b5, pv b6, pv b7] := by
    refine forLoop_inv (fun j s => ∃ (b2 b5 b6 b7 : Option D) (i : Int) (K : List (D × D)), Dc K ∧ s = [some (.val (eB k)), some (.val (.str z)), pv b2, some (.val (.int i)), some (.val (.dict K)), pv b5, pv b6, pv b7]) _ ?_ _ ⟨none, none, none, none, 1, [(.str z, .int 1)], fun kv hkv => by rw [List.mem_singleton.mp hkv]; exact ⟨⟨z, rfl⟩, 1, rfl⟩, rfl⟩
    rintro j d s hd ⟨b2, b5, b6, b7, i, K, hK, rfl⟩
    obtain ⟨b6', b7', L, hL, hl, e⟩ := mid (some d) b6 b7 i K hK
    have hc : ∃ ns : List Int, (sem (run tf wf (n - 1)) E__law_breath_2).v [some (.val (eB k)), some (.val (.str z)), some (.val d), some (.val (.int i)), some (.val (.dict K)), some (.val (.dict L)), pv b6', pv b7'] = some (.list (ns.map .int), [some (.val (eB k)), some (.val (.str z)), some (.val d), some (.val (.int i)), some (.val (.dict K)), some (.val (.dict L)), pv b6', pv b7']) := by
      have key : ∀ d ∈ L.map (·.1), ∃ (y : Str) (i : Int), d = .str y ∧ lookD d L = some (.int i) := by
        intro d hd
        obtain ⟨⟨a, v⟩, hkv, rfl⟩ := List.mem_map.mp hd
        obtain ⟨⟨y, e1⟩, _⟩ := hL _ hkv
        simp only at e1
        subst e1
        obtain ⟨i, e2⟩ := Dc_in hL hkv
        exact ⟨y, i, rfl, e2⟩
      have h1 : (sem (run tf wf (n - 1)) E__law_breath_2).v [some (.val (eB k)), some (.val (.str z)), some (.val d), some (.val (.int i)), some (.val (.dict K)), some (.val (.dict L)), pv b6', pv b7'] = some (.list ((L.map (·.1)).map fun d => (lookD d L).getD .none), [some (.val (eB k)), some (.val (.str z)), some (.val d), some (.val (.int i)), some (.val (.dict K)), some (.val (.dict L)), pv b6', pv b7']) := by
        refine comp_map' rfl (fun d => (lookD d L).getD .none) (by simp [walkOf]) (by simp) (by rw [List.length_map]; omega) fun y hy => ?_
        obtain ⟨y', j, rfl, e2⟩ := key y hy
        have ix : opIx (.dict L) (.str y') = some (.int j) := by
          rw [← e2]; rfl
        exact ⟨[some (.val (eB k)), some (.val (.str z)), some (.val d), some (.val (.int i)), some (.val (.dict K)), some (.val (.dict L)), some (.val (.str y')), pv b7'], [some (.val (eB k)), some (.val (.str z)), some (.val d), some (.val (.int i)), some (.val (.dict K)), some (.val (.dict L)), some (.val (.str y')), pv b7'], [some (.val (eB k)), some (.val (.str z)), some (.val d), some (.val (.int i)), some (.val (.dict K)), some (.val (.dict L)), some (.val (.str y')), pv b7'], by simp, by simp, by simp [ix, e2], by simp⟩
      have h2 : ∀ l : List D, (∀ d ∈ l, ∃ (y : Str) (i : Int), d = .str y ∧ lookD d L = some (.int i)) → ∃ ns : List Int, (l.map fun d => (lookD d L).getD .none) = ns.map .int := by
        intro l
        induction l with
        | nil => intro _; exact ⟨[], rfl⟩
        | cons x l ih =>
          intro h
          obtain ⟨y, i, _, e⟩ := h x List.mem_cons_self
          obtain ⟨ns, e2⟩ := ih fun d hd => h d (List.mem_cons_of_mem _ hd)
          exact ⟨i :: ns, by simp only [List.map_cons, e, e2]; rfl⟩
      obtain ⟨ns, e2⟩ := h2 _ key
      rw [e2] at h1
      exact ⟨ns, h1⟩
    obtain ⟨ns, hc⟩ := hc
    have sm : opSum (.list (ns.map .int)) = some (.int ns.sum) := by simp [opSum, intsOf_map]
    have mx : op2 .max2 (.int i) (.int ns.sum) = some (.int (if ns.sum > i then ns.sum else i)) := rfl
    refine ⟨[some (.val (eB k)), some (.val (.str z)), some (.val d), some (.val (.int i)), some (.val (.dict K)), pv b5, pv b6, pv b7], [some (.val (eB k)), some (.val (.str z)), some (.val d), some (.val (.int (if ns.sum > i then ns.sum else i))), some (.val (.dict L)), some (.val (.dict L)), pv b6', pv b7'], by simp, .inl ?_, some d, some (.dict L), b6', b7', _, L, hL, rfl⟩
    simp only [pv, Option.map_some] at e hc ⊢
    simp [S__law_breath_3, stm_for, i1, e, hc, sm, mx, bindT, putAll, bsOf, bOf]
  obtain ⟨s', e, b2, b5, b6, b7, i, K, hK, rfl⟩ := outer
  refine ⟨i, ?_⟩
  have e' : stm wf (run tf wf (n - 1)) (.for_ (.nm 2) (.itRange (.cons (.con (.int 12)) .nil)) S__law_breath_3) [some (.val (eB k)), some (.val (.str z)), none, some (.val (.int 1)), some (.val (.dict [(.str z, .int 1)])), none, none, none] = some (.nx, [some (.val (eB k)), some (.val (.str z)), pv b2, some (.val (.int i)), some (.val (.dict K)), pv b5, pv b6, pv b7]) := by
    rw [stm_for, bnd_run, it_range1 (n := ((12 : Nat) : Int)) (s' := [some (.val (eB k)), some (.val (.str z)), none, some (.val (.int 1)), some (.val (.dict [(.str z, .int 1)])), none, none, none]) (by simp) (small_nat (by omega)), rangeN]
    exact e
  simp [I__law_breath, B__law_breath, startS, inB, endD, lentsOf, e', bindT, putAll, bsOf, bOf, keyOf]
end
end L01

namespace L01
open PySem FC
section
variable {n : Nat}
theorem s_tags (hn : 2 ≤ n) {u : D} {N m : Nat} {T : List Str} (nd : T.Nodup) (hT : 0 < T.length) (hT2 : T.length < 60) (hu : Urn N u) (hN : N + 1000 < 2 ^ 62) (hm0 : 0 < m) (hm : m ≤ 50) :
    ∃ (ys : List D) (u' : D) (tags : List Str), run tf wf n x__law_pick [u, .list (T.map .str), nD m] = some (.list ys, [u']) ∧ opSorted (.list ys) = some (.list (tags.map .str)) ∧ tags.Nodup ∧ (∀ t ∈ tags, t ∈ T) ∧ 0 < tags.length ∧ tags.length ≤ m ∧ Urn (N + m) u' := by
  obtain ⟨ys, rest, u', e, hp, hy, hu'⟩ := s_pick (n := n) hn (xs := T.map .str) hu hN (m := m) (by omega) (by simp; omega)
  obtain ⟨zs, rfl, hz, hzT⟩ := tags_of nd hp
  rw [List.length_map, List.length_map] at hy
  have h0 : zs ≠ [] := by
    intro q
    rw [q] at hy
    simp at hy
    omega
  have hp2 := sortS_perm zs
  refine ⟨_, u', sortS zs, e, sorted_strs h0 (by omega), hp2.nodup_iff.mpr hz, fun t ht => hzT t (hp2.mem_iff.mp ht), ?_, ?_, hu'⟩
  · rw [hp2.length_eq]; omega
  · rw [hp2.length_eq]; omega
end
end L01

namespace L01
open PySem FC
section
variable {n : Nat}
theorem s_deeds (hn : 3 ≤ n) {u : D} {k : Bx} (hk : okBx k) (hne : k.rows ≠ []) {N m : Nat} (hu : Urn N u) (hN : N + 1000 < 2 ^ 62) (hm : m ≤ 100) :
    ∃ (w : List Dd) (u' : D), run tf wf n x__law_deeds [u, eB k, nD m] = some (eW w, [u']) ∧ okWd k w ∧ w.length ≤ m ∧ Urn (N + 2 * m + 1) u' := by
  rw [run_at' at__law_deeds (by omega) rfl]
  have z0 : (0 : Nat) ≤ sizeLine := by decide
  have zl : (100 : Nat) < sizeLine := by decide
  have few := hk.few
  obtain ⟨q, u1, e1, hu1, h0, h1⟩ := s_take (n := n - 1) (by omega) (m := ((m + 1 : Nat) : Int)) hu (by omega) (by omega) (by omega)
  obtain ⟨q, rfl⟩ := Int.eq_ofNat_of_zero_le h0
  have hq : q ≤ m := by omega
  have ad : opAdd (nD m) (.int 1) = some (.int ((m + 1 : Nat) : Int)) := by unfold nD; simp [opAdd]
  have i1 : opIx (eB k) (.int 1) = some (.tuple (k.rows.map rowE)) := rfl
  have loop : ∃ s', forLoop (.nm 3) (stm wf (run tf wf (n - 1)) S__law_deeds_0) ((List.range q).map nD) [some (.lent u1), some (.val (eB k)), some (.val (nD m)), none, some (.own (.list [])), some (.val (.int 24)), none, none] = some (.nx, s') ∧ ∃ (b3 b6 b7 : Option D) (u' : D) (w : List Dd) (left : Int), s' = [some (.lent u'), some (.val (eB k)), some (.val (nD m)), pv b3, some (.own (.list (w.map dD))), some (.val (.int left)), pv b6, pv b7] ∧ okWd k w ∧ w.length ≤ ((List.range q).map nD).length ∧ Urn (N + 1 + 2 * ((List.range q).map nD).length) u' := by
    refine forLoop_inv (fun i s => ∃ (b3 b6 b7 : Option D) (u' : D) (w : List Dd) (left : Int), s = [some (.lent u'), some (.val (eB k)), some (.val (nD m)), pv b3, some (.own (.list (w.map dD))), some (.val (.int left)), pv b6, pv b7] ∧ okWd k w ∧ w.length ≤ i ∧ Urn (N + 1 + 2 * i) u') _ ?_ _ ⟨none, none, none, u1, [], 24, rfl, (fun _ h => nomatch h), Nat.le_refl _, hu1⟩
    rintro i d s hd ⟨b3, b6, b7, u2, w, left, rfl, hw, hl, hu2⟩
    have hi : i < q := by have := (List.getElem?_eq_some_iff.mp hd).1; simpa using this
    obtain ⟨x, u3, hx, e3, hu3⟩ := s_of' (n := n - 1) (by omega) (xs := k.rows.map rowE) (.inr rfl) hu2 (by omega) (by simpa using hne) (by rw [List.length_map]; omega)
    obtain ⟨r, hr, rfl⟩ := List.mem_map.mp hx
    have hrn : r.1 ∈ k.notes := List.mem_map.mpr ⟨r, hr, rfl⟩
    have okr := note_ok hk hrn
    obtain ⟨br, e5⟩ := s_breath (n := n - 1) (by omega) hk okr
    obtain ⟨t, u4, e4, hu4, t0, t1⟩ := s_take (n := n - 1) (by omega) (m := 3) hu3 (by omega) (by omega) (by omega)
    have i2 : opIx (rowE r) (.int 0) = some (.str r.1) := rfl
    have hwl : w.length < sizeLine := by omega
    have ad2 := add_dash r.1 okr.2.1
    have hok : ∀ b : Bool, okWd k (w ++ [(r.1, b)]) := by
      intro b e he
      rcases List.mem_append.mp he with he | he
      · exact hw e he
      · rw [List.mem_singleton.mp he]; exact hrn
    by_cases hbl : br ≤ left
    · by_cases ht : t = 0
      · refine ⟨[some (.lent u2), some (.val (eB k)), some (.val (nD m)), some (.val d), some (.own (.list (w.map dD))), some (.val (.int left)), pv b6, pv b7], [some (.lent u4), some (.val (eB k)), some (.val (nD m)), some (.val d), some (.own (.list ((w ++ [(r.1, true)]).map dD))), some (.val (.int (left - br))), some (.val (.str r.1)), some (.val (.int br))], by simp, .inl ?_, some d, some (.str r.1), some (.int br), u4, w ++ [(r.1, true)], left - br, rfl, hok true, by simp; omega, hu4.mono (by omega)⟩
        have ed : dD (r.1, true) = .str (r.1 ++ dash) := rfl
        subst ht
        simp [S__law_deeds_0, i1, e3, i2, e4, e5, hbl, ad2, muM, isListA, isTy, muD, hwl, ed]
      · refine ⟨[some (.lent u2), some (.val (eB k)), some (.val (nD m)), some (.val d), some (.own (.list (w.map dD))), some (.val (.int left)), pv b6, pv b7], [some (.lent u4), some (.val (eB k)), some (.val (nD m)), some (.val d), some (.own (.list ((w ++ [(r.1, false)]).map dD))), some (.val (.int (left - br))), some (.val (.str r.1)), some (.val (.int br))], by simp, .inl ?_, some d, some (.str r.1), some (.int br), u4, w ++ [(r.1, false)], left - br, rfl, hok false, by simp; omega, hu4.mono (by omega)⟩
        have ed : dD (r.1, false) = .str r.1 := rfl
        have hb : (t == 0) = false := by simpa using ht
        simp [S__law_deeds_0, i1, e3, i2, e4, e5, hbl, hb, muM, isListA, isTy, muD, hwl, ed]
    · refine ⟨[some (.lent u2), some (.val (eB k)), some (.val (nD m)), some (.val d), some (.own (.list (w.map dD))), some (.val (.int left)), pv b6, pv b7], [some (.lent u3), some (.val (eB k)), some (.val (nD m)), some (.val d), some (.own (.list (w.map dD))), some (.val (.int left)), some (.val (.str r.1)), some (.val (.int br))], by simp, .inl ?_, some d, some (.str r.1), some (.int br), u3, w, left, rfl, hw, by omega, hu3.mono (by omega)⟩
      simp [S__law_deeds_0, i1, e3, i2, e5, hbl]
  obtain ⟨s', e, b3, b6, b7, u', w, left, rfl, hw, hl, hu'⟩ := loop
  rw [List.length_map, List.length_range] at hl hu'
  refine ⟨w, u', ?_, hw, by omega, hu'.mono (by omega)⟩
  have e' : stm wf (run tf wf (n - 1)) (.for_ (.nm 3) (.itRange (.cons (.call x__law_take [0, 1] (.cons (.lend 0) (.cons (.op .add (.cons (.var 2) (.cons (.con (.int 1)) .nil))) .nil))) .nil)) S__law_deeds_0) [some (.lent u), some (.val (eB k)), some (.val (nD m)), none, some (.own (.list [])), some (.val (.int 24)), none, none] = some (.nx, [some (.lent u'), some (.val (eB k)), some (.val (nD m)), pv b3, some (.own (.list (w.map dD))), some (.val (.int left)), pv b6, pv b7]) := by
    rw [stm_for, bnd_run, it_range1 (n := (q : Int)) (s' := [some (.lent u1), some (.val (eB k)), some (.val (nD m)), none, some (.own (.list [])), some (.val (.int 24)), none, none]) (by simp [ad, -Int.natCast_add, e1]) (small_nat (by omega)), rangeN]
    exact e
  simp [I__law_deeds, B__law_deeds, startS, inB, endD, lentsOf, e', z0, bindT, putAll, bsOf, bOf]
  rfl
end
end L01

namespace L01
open PySem FC
section
variable {n : Nat}
theorem s_known_kit' (hn : 4 ≤ n) {u : D} {N : Nat} (hu : Urn N u) (hN : N + 2000 < 2 ^ 62) :
    ∃ (k : Bx) (u' : D), run tf wf n x__law_known_kit [u] = some (eB k, [u']) ∧ okBx k ∧ k.rows ≠ [] ∧ k.b ≤ 3 ∧ few k ∧ Urn (N + 100) u' := by
  rw [run_at' at__law_known_kit (by omega) rfl]
  have zl : (10000 : Nat) < sizeLine := by decide
  have z0 : (0 : Nat) ≤ sizeLine := by decide
  obtain ⟨x, u1, hx, e1, hu1⟩ := s_of' (n := n - 1) (by omega) (.inl rfl) hu (by omega) (xs := kns.map eB) (by simp [kns]) (by simp [kns])
  obtain ⟨k0, hk0, rfl⟩ := List.mem_map.mp hx
  obtain ⟨ok0, ne0, b3⟩ := kns_ok k0 hk0
  obtain ⟨g, u2, e2, g1, g2, g3, hu2⟩ := s_turning (n := n - 1) (by omega) (b := k0.b) hu1 (by omega) (by omega)
  have few := ok0.few
  have loop : ∀ (K P : D), ∃ s', forLoop (.tp [6, 7, 8]) (stm wf (run tf wf (n - 1)) S__law_known_kit_3) (k0.rows.map rowE) [some (.lent u2), some (.own K), some (.val P), some (.val (eB k0)), some (.val (eR g)), some (.own (.list [])), none, none, none, none, none, none] = some (.nx, s') ∧ ∃ (b6 b7 b8 b9 : Option D) (rs : List (Str × List Nat × List Str)), s' = [some (.lent u2), some (.own K), some (.val P), some (.val (eB k0)), some (.val (eR g)), some (.own (.list (rs.map rowE))), pv b6, pv b7, pv b8, pv b9, none, none] ∧ rs.map (·.1) = k0.notes.take (k0.rows.map rowE).length ∧ (∀ r ∈ rs, goodR k0.b k0.notes r) ∧ permR k0 rs := by
    intro K P
    refine forLoop_inv (fun i s => ∃ (b6 b7 b8 b9 : Option D) (rs : List (Str × List Nat × List Str)), s = [some (.lent u2), some (.own K), some (.val P), some (.val (eB k0)), some (.val (eR g)), some (.own (.list (rs.map rowE))), pv b6, pv b7, pv b8, pv b9, none, none] ∧ rs.map (·.1) = k0.notes.take i ∧ (∀ r ∈ rs, goodR k0.b k0.notes r) ∧ permR k0 rs) _ ?_ _ ⟨none, none, none, none, [], rfl, rfl, (fun _ h => nomatch h), fun j q h => by simp at h⟩
    rintro i d s hd ⟨b6, b7, b8, b9, rs, rfl, hrs, hg, hpr⟩
    obtain ⟨r, hr, rfl⟩ := map_get hd
    have hrm := List.mem_of_getElem? hr
    have hi := (List.getElem?_eq_some_iff.mp hr).1
    have hnote : k0.notes[i]? = some r.1 := by
      show (k0.rows.map (·.1))[i]? = _
      rw [List.getElem?_map, hr]
      rfl
    have f1 := ok0.fl r hrm
    have f2 := ok0.fb r hrm
    have f3 := ok0.fn r hrm
    have f4 := ok0.sl r hrm
    have f5 := ok0.sn r hrm
    have hrl : rs.length < sizeLine := by
      have := congrArg List.length hrs
      rw [List.length_map, List.length_take] at this
      omega
    let cell (x : Nat) : Ce := (g.getD x 0, g.getD (r.2.1.getD x 0) 0, r.2.2.getD x dash)
    have hE0 : (sem (run tf wf (n - 1)) E__law_known_kit_0).v [some (.lent u2), some (.own K), some (.val P), some (.val (eB k0)), some (.val (eR g)), some (.own (.list (rs.map rowE))), some (.val (.str r.1)), some (.val (.tuple (r.2.1.map nD))), some (.val (.tuple (r.2.2.map .str))), pv b9, none, none] = some (.list ((List.range k0.b).map fun x => cD (cell x)), [some (.lent u2), some (.own K), some (.val P), some (.val (eB k0)), some (.val (eR g)), some (.own (.list (rs.map rowE))), some (.val (.str r.1)), some (.val (.tuple (r.2.1.map nD))), some (.val (.tuple (r.2.2.map .str))), pv b9, none, none]) := by
      have i0 : opIx (eB k0) (.int 0) = some (.int (k0.b : Int)) := rfl
      refine comp_mapA (E := E__law_known_kit_0) rfl (s0 := [some (.lent u2), some (.own K), some (.val P), some (.val (eB k0)), some (.val (eR g)), some (.own (.list (rs.map rowE))), some (.val (.str r.1)), some (.val (.tuple (r.2.1.map nD))), some (.val (.tuple (r.2.2.map .str))), pv b9, none, none]) (xs := List.range k0.b) nD _ ?_ (by simp) (by rw [List.length_range]; omega) ?_
      · rw [it_range1 (n := (k0.b : Int)) (s' := [some (.lent u2), some (.own K), some (.val P), some (.val (eB k0)), some (.val (eR g)), some (.own (.list (rs.map rowE))), some (.val (.str r.1)), some (.val (.tuple (r.2.1.map nD))), some (.val (.tuple (r.2.2.map .str))), pv b9, none, none]) (by simp [i0]) (small_nat (by omega)), rangeN]
      · intro x hx
        have hx := List.mem_range.mp hx
        have a1 : opIx (eR g) (nD x) = some (nD (g.getD x 0)) := atI_getD (by omega)
        have a2 : opIx (.tuple (r.2.1.map nD)) (nD x) = some (nD (r.2.1.getD x 0)) := atI_getD (by omega)
        have a3 : opIx (.tuple (r.2.2.map .str)) (nD x) = some (.str (r.2.2.getD x dash)) := atI_getS (by omega)
        have a4 : opIx (eR g) (nD (r.2.1.getD x 0)) = some (nD (g.getD (r.2.1.getD x 0) 0)) := atI_getD (by rw [g1]; exact getD_lt f1 f2 hx)
        have o3 : (3 : Nat) ≤ sizeLine := by omega
        refine ⟨[some (.lent u2), some (.own K), some (.val P), some (.val (eB k0)), some (.val (eR g)), some (.own (.list (rs.map rowE))), some (.val (.str r.1)), some (.val (.tuple (r.2.1.map nD))), some (.val (.tuple (r.2.2.map .str))), pv b9, some (.val (nD x)), none], [some (.lent u2), some (.own K), some (.val P), some (.val (eB k0)), some (.val (eR g)), some (.own (.list (rs.map rowE))), some (.val (.str r.1)), some (.val (.tuple (r.2.1.map nD))), some (.val (.tuple (r.2.2.map .str))), pv b9, some (.val (nD x)), none], [some (.lent u2), some (.own K), some (.val P), some (.val (eB k0)), some (.val (eR g)), some (.own (.list (rs.map rowE))), some (.val (.str r.1)), some (.val (.tuple (r.2.1.map nD))), some (.val (.tuple (r.2.2.map .str))), pv b9, some (.val (nD x)), none], by simp, by simp, ?_, by simp⟩
        have hc : cD (cell x) = .tuple [nD (g.getD x 0), nD (g.getD (r.2.1.getD x 0) 0), .str (r.2.2.getD x dash)] := rfl
        rw [hc]
        generalize r.2.1.getD x 0 = fx at a2 a4 ⊢
        generalize g.getD x 0 = gx at a1 ⊢
        generalize g.getD fx 0 = gf at a4 ⊢
        generalize r.2.2.getD x dash = sx at a3 ⊢
        simp [a1, a2, a3, a4, o3]
    obtain ⟨l', es, hp⟩ := sorted_c (l := (List.range k0.b).map cell) (by
        have := ok0.b2
        intro q
        have := congrArg List.length q
        simp at this
        omega) (by rw [List.length_map, List.length_range]; omega) (by
        intro c hc
        obtain ⟨x, hx, rfl⟩ := List.mem_map.mp hc
        have hx := List.mem_range.mp hx
        rcases f5 _ (getS_mem (l := r.2.2) (x := x) (by omega)) with q | q
        · show PyData.strOk (r.2.2.getD x dash) = true
          rw [q]
          decide +kernel
        · exact (note_ok ok0 q).2.2)
    rw [List.map_map] at es
    have hl' : l'.length = k0.b := by rw [hp.length_eq, List.length_map, List.length_range]
    have hE1 : ∀ (E : Ex) (j : Int) (q : Ce → D), E = .comp (.op .ix (.cons (.var 11) (.cons (.con (.int j)) .nil))) (.nm 11) (.itOf (.var 9)) .nil → (∀ c, opIx (cD c) (.int j) = some (q c)) → (sem (run tf wf (n - 1)) E).v [some (.lent u2), some (.own K), some (.val P), some (.val (eB k0)), some (.val (eR g)), some (.own (.list (rs.map rowE))), some (.val (.str r.1)), some (.val (.tuple (r.2.1.map nD))), some (.val (.tuple (r.2.2.map .str))), some (.val (.list (l'.map cD))), none, none] = some (.list (l'.map q), [some (.lent u2), some (.own K), some (.val P), some (.val (eB k0)), some (.val (eR g)), some (.own (.list (rs.map rowE))), some (.val (.str r.1)), some (.val (.tuple (r.2.1.map nD))), some (.val (.tuple (r.2.2.map .str))), some (.val (.list (l'.map cD))), none, none]) := by
      intro E j q hE hq
      refine comp_mapA (E := E) hE (s0 := [some (.lent u2), some (.own K), some (.val P), some (.val (eB k0)), some (.val (eR g)), some (.own (.list (rs.map rowE))), some (.val (.str r.1)), some (.val (.tuple (r.2.1.map nD))), some (.val (.tuple (r.2.2.map .str))), some (.val (.list (l'.map cD))), none, none]) (xs := l') cD q (by simp) (by simp) (by omega) ?_
      intro c _
      have := hq c
      refine ⟨[some (.lent u2), some (.own K), some (.val P), some (.val (eB k0)), some (.val (eR g)), some (.own (.list (rs.map rowE))), some (.val (.str r.1)), some (.val (.tuple (r.2.1.map nD))), some (.val (.tuple (r.2.2.map .str))), some (.val (.list (l'.map cD))), none, some (.val (cD c))], [some (.lent u2), some (.own K), some (.val P), some (.val (eB k0)), some (.val (eR g)), some (.own (.list (rs.map rowE))), some (.val (.str r.1)), some (.val (.tuple (r.2.1.map nD))), some (.val (.tuple (r.2.2.map .str))), some (.val (.list (l'.map cD))), none, some (.val (cD c))], [some (.lent u2), some (.own K), some (.val P), some (.val (eB k0)), some (.val (eR g)), some (.own (.list (rs.map rowE))), some (.val (.str r.1)), some (.val (.tuple (r.2.1.map nD))), some (.val (.tuple (r.2.2.map .str))), some (.val (.list (l'.map cD))), none, some (.val (cD c))], by simp, by simp, by simp [this], by simp⟩
    have h1 := hE1 E__law_known_kit_1 1 (fun c => nD c.2.1) rfl (fun c => rfl)
    have h2 := hE1 E__law_known_kit_2 2 (fun c => .str c.2.2) rfl (fun c => rfl)
    refine ⟨[some (.lent u2), some (.own K), some (.val P), some (.val (eB k0)), some (.val (eR g)), some (.own (.list (rs.map rowE))), some (.val (.str r.1)), some (.val (.tuple (r.2.1.map nD))), some (.val (.tuple (r.2.2.map .str))), pv b9, none, none], [some (.lent u2), some (.own K), some (.val P), some (.val (eB k0)), some (.val (eR g)), some (.own (.list ((rs ++ [(r.1, l'.map (·.2.1), l'.map (·.2.2))]).map rowE))), some (.val (.str r.1)), some (.val (.tuple (r.2.1.map nD))), some (.val (.tuple (r.2.2.map .str))), some (.val (.list (l'.map cD))), none, none], ?_, .inl ?_, some (.str r.1), some (.tuple (r.2.1.map nD)), some (.tuple (r.2.2.map .str)), some (.list (l'.map cD)), rs ++ [(r.1, l'.map (·.2.1), l'.map (·.2.2))], rfl, ?_, ?_, ?_⟩
    · simp [bindT, itemsOf, rowE, putAll]
    · have o3 : (3 : Nat) ≤ sizeLine := by omega
      have er : rowE (r.1, l'.map (·.2.1), l'.map (·.2.2)) = .tuple [.str r.1, .tuple (l'.map fun c => nD c.2.1), .tuple (l'.map fun c => .str c.2.2)] := by
        simp [rowE, List.map_map, Function.comp_def]
      have es' : opSorted (.list ((List.range k0.b).map fun x => cD (cell x))) = some (.list (l'.map cD)) := es
      simp [S__law_known_kit_3, hE0, es', h1, h2, muM, isListA, isTy, muD, o3, hrl, er]
    · rw [List.map_append, hrs, take_snoc hnote]
      rfl
    · intro q hq
      rcases List.mem_append.mp hq with hq | hq
      · exact hg q hq
      · rw [List.mem_singleton.mp hq]
        have p1 : (l'.map (·.2.1)).Perm ((List.range k0.b).map fun x => g.getD (r.2.1.getD x 0) 0) := by
          have := hp.map (·.2.1)
          rw [List.map_map] at this
          exact this
        refine ⟨by simp [hl'], p1.nodup_iff.mpr (nodup_range fun x hx y hy e => ?_), fun x hx => ?_, by simp [hl'], fun s hs => ?_⟩
        · exact getD_inj f1 f3 hx hy (getD_inj g1 g2 (getD_lt f1 f2 hx) (getD_lt f1 f2 hy) e)
        · obtain ⟨y, hy, rfl⟩ := List.mem_map.mp (p1.mem_iff.mp hx)
          exact getD_lt g1 g3 (getD_lt f1 f2 (List.mem_range.mp hy))
        · obtain ⟨c, hc, rfl⟩ := List.mem_map.mp hs
          obtain ⟨y, hy, rfl⟩ := List.mem_map.mp (hp.mem_iff.mp hc)
          exact f5 _ (getS_mem (by rw [f4]; exact List.mem_range.mp hy))
    · intro j q hq
      have hlen : rs.length = i := by
        have := congrArg List.length hrs
        rw [List.length_map, List.length_take] at this
        have hn2 : k0.notes.length = k0.rows.length := by simp [Bx.notes]
        omega
      by_cases hj : j < rs.length
      · rw [List.getElem?_append_left hj] at hq
        exact hpr j q hq
      · rw [List.getElem?_append_right (by omega)] at hq
        have hj2 : j - rs.length < 1 := by
          have := (List.getElem?_eq_some_iff.mp hq).1
          simpa using this
        have hj3 : j = i := by omega
        subst hj3
        rw [show j - rs.length = 0 by omega] at hq
        simp at hq
        refine ⟨r, hr, ?_⟩
        rw [← hq]
        have p2 := hp.map (·.2.2)
        rw [List.map_map] at p2
        have e : (List.range k0.b).map ((fun c : Ce => c.2.2) ∘ cell) = r.2.2 := by
          have := range_getD r.2.2
          rw [f4] at this
          exact this
        rw [e] at p2
        exact p2
  obtain ⟨s', e, b6, b7, b8, b9, rs, rfl, hrs, hg, hpr⟩ := loop (.list [eB kn1, eB kn2, eB kn3]) (.tuple (kn4.rows.map rowE))
  have hl2 : (k0.rows.map rowE).length = k0.notes.length := by simp [Bx.notes]
  rw [hl2, List.take_length] at hrs
  have okk : okBx ⟨k0.b, rs⟩ := okBx_of ok0.b2 ok0.b16 (by simpa [Bx.notes] using few) ok0.nd (fun t ht => note_ok ok0 ht) hrs hg
  have fewk : FC.few ⟨k0.b, rs⟩ := by
    refine few_kinds okk b3 (L := knL k0) (by
      show rs.map (·.1) = _
      rw [hrs]
      unfold knL
      rw [List.map_map]
      conv => lhs; rw [← List.map_id k0.notes]
      rfl) (by
      have := kns_few k0 hk0
      simpa [knL, Bx.notes] using this) ?_
    intro i q hq
    obtain ⟨r, hr, hp⟩ := hpr i q hq
    exact kindR_perm hp (kns_kind k0 hk0 i r hr)
  refine ⟨⟨k0.b, rs⟩, u2, ?_, okk, ?_, b3, fewk, hu2.mono (by omega)⟩
  · have o1 : (1 : Nat) ≤ sizeLine := by omega
    have o3 : (3 : Nat) ≤ sizeLine := by omega
    have o2 : (2 : Nat) ≤ sizeLine := by omega
    have o5 : (2 : Nat) < sizeLine := by omega
    have i0 : opIx (eB k0) (.int 0) = some (nD k0.b) := rfl
    have i1 : opIx (eB k0) (.int 1) = some (.tuple (k0.rows.map rowE)) := rfl
    have ad : ∀ a b c d e : D, opAdd (.list [a, b, c]) (.list [d, e]) = some (.list [a, b, c, d, e]) := fun _ _ _ _ _ => rfl
    have e1' : run tf wf (n - 1) x__law_of [u, .list [.tuple [.int 2, .tuple [.tuple [.str "c", .tuple [.int 1, .int 0], .tuple [.str dash, .str "c"]]]], .tuple [.int 3, .tuple [.tuple [.str "c", .tuple [.int 1, .int 2, .int 0], .tuple [.str dash, .str dash, .str "c"]]]], .tuple [.int 2, .tuple [.tuple [.str "c", .tuple [.int 1, .int 0], .tuple [.str "c", .str dash]]]], .tuple [.int 3, .tuple [.tuple [.str "p", .tuple [.int 1, .int 0, .int 2], .tuple [.str dash, .str dash, .str "p"]], .tuple [.str "q", .tuple [.int 0, .int 2, .int 1], .tuple [.str "q", .str dash, .str dash]], .tuple [.str "r", .tuple [.int 2, .int 1, .int 0], .tuple [.str dash, .str "r", .str dash]]]], .tuple [.int 2, .tuple [.tuple [.str "a", .tuple [.int 1, .int 0], .tuple [.str dash, .str dash]], .tuple [.str "b", .tuple [.int 0, .int 1], .tuple [.str "b", .str "a"]]]]]] = some (eB k0, [u1]) := e1
    have e' : forLoop (.tp [6, 7, 8]) (stm wf (run tf wf (n - 1)) S__law_known_kit_3) (k0.rows.map rowE) [some (.lent u2), some (.own (.list [.tuple [.int 2, .tuple [.tuple [.str "c", .tuple [.int 1, .int 0], .tuple [.str dash, .str "c"]]]], .tuple [.int 3, .tuple [.tuple [.str "c", .tuple [.int 1, .int 2, .int 0], .tuple [.str dash, .str dash, .str "c"]]]], .tuple [.int 2, .tuple [.tuple [.str "c", .tuple [.int 1, .int 0], .tuple [.str "c", .str dash]]]]])), some (.val (.tuple [.tuple [.str "p", .tuple [.int 1, .int 0, .int 2], .tuple [.str dash, .str dash, .str "p"]], .tuple [.str "q", .tuple [.int 0, .int 2, .int 1], .tuple [.str "q", .str dash, .str dash]], .tuple [.str "r", .tuple [.int 2, .int 1, .int 0], .tuple [.str dash, .str "r", .str dash]]])), some (.val (eB k0)), some (.val (eR g)), some (.own (.list [])), none, none, none, none, none, none] = _ := e
    simp [I__law_known_kit, B__law_known_kit, startS, inB, endD, lentsOf, muM, isListA, isTy, muD, o1, o2, o3, o5, z0, ad, e1', e2, i0, i1, stm_for, e']
    rfl
  · intro q
    simp only at q
    rw [q] at hrs
    have := congrArg List.length hrs
    simp [Bx.notes] at this
    exact ne0 (List.length_eq_zero_iff.mp this.symm)
theorem s_known_kit (hn : 4 ≤ n) {u : D} {N : Nat} (hu : Urn N u) (hN : N + 2000 < 2 ^ 62) :
    ∃ (k : Bx) (u' : D), run tf wf n x__law_known_kit [u] = some (eB k, [u']) ∧ okBx k ∧ k.rows ≠ [] ∧ k.b ≤ 3 ∧ Urn (N + 100) u' := by
  obtain ⟨k, u', e, h1, h2, h3, _, h4⟩ := s_known_kit' hn hu hN
  exact ⟨k, u', e, h1, h2, h3, h4⟩
end
end L01

namespace L01
open PySem FC
section
variable {n : Nat}
theorem w_take (hn : 1 ≤ n) {u : D} {N : Nat} {m : Int} (hu : Urn N u) (hN : N < 2 ^ 62) (hm : 0 < m) (hm2 : m < 2 ^ 64) :
    Wc (run tf wf n x__law_take [u, .int m]) fun r ls => ∃ (x : Nat) (u' : D), r = .int (x : Int) ∧ ls = [u'] ∧ (x : Int) < m ∧ Urn (N + 1) u' := by
  obtain ⟨r, u', e, hu', h0, h1⟩ := s_take (n := n) hn (m := m) hu hN (by omega) (by omega)
  obtain ⟨k, rfl⟩ := Int.eq_ofNat_of_zero_le h0
  exact ⟨_, _, e, k, u', rfl, rfl, by omega, hu'⟩
theorem w_of (hn : 2 ≤ n) {u : D} {N : Nat} {xs : List D} (hu : Urn N u) (hN : N < 2 ^ 62) (hx : xs ≠ []) (hx2 : xs.length < 2 ^ 62) :
    Wc (run tf wf n x__law_of [u, .list xs]) fun r ls => ∃ u', ls = [u'] ∧ r ∈ xs ∧ Urn (N + 1) u' := by
  obtain ⟨x, u', h, e, hu'⟩ := s_of' (n := n) hn (.inl rfl) hu hN hx hx2
  exact ⟨_, _, e, u', rfl, h, hu'⟩
theorem w_ofT (hn : 2 ≤ n) {u : D} {N : Nat} {xs : List D} (hu : Urn N u) (hN : N < 2 ^ 62) (hx : xs ≠ []) (hx2 : xs.length < 2 ^ 62) :
    Wc (run tf wf n x__law_of [u, .tuple xs]) fun r ls => ∃ u', ls = [u'] ∧ r ∈ xs ∧ Urn (N + 1) u' := by
  obtain ⟨x, u', h, e, hu'⟩ := s_of' (n := n) hn (.inr rfl) hu hN hx hx2
  exact ⟨_, _, e, u', rfl, h, hu'⟩
theorem w_ofN (ns : List Nat) {l : D} (el : l = .list (ns.map fun k : Nat => .int (k : Int))) (hn : 2 ≤ n) {u : D} {N : Nat} (hu : Urn N u) (hN : N < 2 ^ 62) (hx : ns ≠ []) (hx2 : ns.length < 2 ^ 62) :
    Wc (run tf wf n x__law_of [u, l]) fun r ls => ∃ (k : Nat) (u' : D), r = .int (k : Int) ∧ ls = [u'] ∧ k ∈ ns ∧ Urn (N + 1) u' := by
  subst el
  refine (w_of hn hu hN (by simpa using hx) (by simpa using hx2)).mono ?_
  rintro r ls ⟨u', rfl, h, hu'⟩
  obtain ⟨k, hk, rfl⟩ := List.mem_map.mp h
  exact ⟨k, u', rfl, rfl, hk, hu'⟩
end
end L01

namespace L01
open PySem FC
section
variable {n : Nat}
theorem w_kit (hn : 5 ≤ n) {u : D} {N m : Nat} (hu : Urn N u) (hN : N + 3000 < 2 ^ 62) (hm0 : 0 < m) (hm : m ≤ 20) :
    Wc (run tf wf n x__law_kit [u, nD m]) fun r ls => ∃ (k : Bx) (u' : D), r = eB k ∧ ls = [u'] ∧ okBx k ∧ k.rows ≠ [] ∧ k.b ≤ 3 ∧ (m ≤ 4 → few k) ∧ Urn (N + 2000) u' := by
  refine fn_rule at__law_kit (by omega) rfl ?_
  dsimp? [I__law_kit, B__law_kit, nD]
  refine Wc.mono (w_ofN [2, 2, 2, 3] rfl (by omega) hu (by omega) (by simp) (by simp)) ?_
  rintro _ _ ⟨b, u1, rfl, rfl, hb, hu1⟩
  have hb2 : 2 ≤ b ∧ b ≤ 3 := by simp at hb; omega
  obtain ⟨hb2, hb3⟩ := hb2
  dsimp?
  refine Wc.mono (w_take (by omega) hu1 (by omega) (by omega) (by omega)) ?_
  rintro _ _ ⟨q, u2, rfl, rfl, hq, hu2⟩
  dsimp?
  obtain ⟨ys, u3, tags, e3, e4, nd, hT, t0, t1, hu3⟩ := s_tags (n := n - 1) (by omega) (T := T7) (m := 1 + q) T7_nd (by decide) (by decide) hu2 (by omega) (by omega) (by omega)
  have e3' : run tf wf (n - 1) x__law_pick [u2, .list [.str "a", .str "b.1", .str "c", .str "k", .str "m2", .str "q", .str "z"], .int (1 + (q : Int))] = some (.list ys, [u3]) := e3
  refine Wc_eq e3' ?_
  dsimp? [e4, E__law_kit_0]
  refine comp_map2 (fun i acc s => ∃ (u' : D) (ss : List Nat) (x : Option B), acc = ss.map (fun k : Nat => PyData.int (k : Int)) ∧ s = [some (.lent u'), some (.val (nD m)), some (.val (nD b)), some (.val (.list (tags.map .str))), none, none, none, none, x, none, none, none, none, none] ∧ ss.length = i ∧ (∀ c ∈ ss, c ≤ 2) ∧ Urn (N + 30 + i) u') (by dsimp?) (by rw [sl_eq]; omega) ⟨u3, [], none, rfl, rfl, rfl, (fun _ h => nomatch h), hu3.mono (by omega)⟩ ?_ ?_
  · rintro i t acc s hi ⟨u4, ss, x, rfl, rfl, hl, hc2, hu4⟩
    have := (List.getElem?_eq_some_iff.mp hi).1
    dsimp?
    refine Wc.mono (w_ofN [0, 1, 1, 2] rfl (by omega) hu4 (by omega) (by simp) (by simp)) ?_
    rintro _ _ ⟨c, u5, rfl, rfl, hcm, hu5⟩
    dsimp?
    refine ⟨u5, ss ++ [c], _, by rw [List.map_append]; rfl, rfl, by simp [hl], fun y hy => ?_, hu5⟩
    rcases List.mem_append.mp hy with hy | hy
    · exact hc2 y hy
    · rw [List.mem_singleton.mp hy]; simp at hcm; omega
  rintro ys s' _ ⟨u4, ss, x, rfl, rfl, hl, hc2, hu4⟩
  have hc3 : ∀ j, ss.getD j 0 ≤ 2 := by
    intro j
    rw [List.getD_eq_getElem?_getD]
    cases e : ss[j]? with
    | none => exact Nat.zero_le _
    | some c => exact hc2 c (List.mem_of_getElem? e)
  dsimp?
  rw [enum_map]
  refine for_map (fun i s => ∃ (u' : D) (rs : List (Str × List Nat × List Str)) (x7 x8 x9 x10 : Option B) (x11 : Option D), s = stK u' m b tags ss (.list (rs.map rowE)) none x7 x8 x9 x10 (x11.map .own) none none ∧ isPlain x7 = true ∧ isPlain x8 = true ∧ isPlain x9 = true ∧ isPlain x10 = true ∧ rs.map (·.1) = tags.take i ∧ (∀ r ∈ rs, goodR b tags r) ∧ (∀ (j : Nat) (q : Str × List Nat × List Str), rs[j]? = some q → kindR (tags.zip ss) j q.2.2) ∧ Urn (N + 60 + 20 * i) u') ⟨u4, [], none, none, none, none, none, rfl, rfl, rfl, rfl, rfl, rfl, (fun _ h => nomatch h), (fun j q h => by simp at h), hu4.mono (by omega)⟩ ?_ ?_
  · rintro i ⟨t0, k⟩ s hi ⟨u5, rs, x7, x8, x9, x10, x11, rfl, p7, p8, p9, p10, hrs, hg, hkr, hu5⟩
    rw [List.getElem?_zipIdx] at hi
    obtain ⟨t, ht, e⟩ := Option.map_eq_some_iff.mp hi
    obtain ⟨rfl, rfl⟩ := Prod.mk.inj e
    rw [Nat.zero_add]
    have hi' := (List.getElem?_eq_some_iff.mp ht).1
    have ho : isLent (x11.map .own) = false := by cases x11 <;> rfl
    dsimp? [stK, p7, p8, p9, p10, ho, S__law_kit_4, E__law_kit_1, nD]
    refine ⟨small_nat (by omega), kit_filt (F := .list (rs.map rowE)) (by omega) (fun j => ss.getD j 0 = 2 ∧ (ss.getD i 0 < 2 ∨ i < j)) ?_ ?_⟩
    · intro j hj
      have hk := hl ▸ hi'
      dsimp? [stK, nD, atI_int (hl ▸ hj : j < ss.length), atI_int (hl ▸ hi' : i < ss.length), sh_int, eqv_int]
      refine andT_of (fun h2 => ?_) (fun _ => ⟨rfl, fun z => by cases z⟩)
      have h2 : ss.getD j 0 = 2 := by
        have h3 : ((ss.getD j 0 : Nat) : Int) = 2 := by simpa using h2
        omega
      dsimp? [stK, nD, atI_int (hl ▸ hj : j < ss.length), atI_int (hl ▸ hi' : i < ss.length), sh_int, eqv_int]
      refine orT_of (fun h3 => ⟨rfl, fun _ => ⟨h2, .inl (by have := of_decide_eq_true h3; omega)⟩⟩) (fun _ => ?_)
      dsimp?
      exact fun h3 => ⟨h2, .inr (by have := of_decide_eq_true h3; omega)⟩
    intro zs hz1 hz2
    dsimp? [stK, nD, p9, p10, ho, dash_eq]
    refine Wo_eq (add_strs (a := [dash]) (b := zs) (by rw [sl_eq]; simp; omega)) ?_
    dsimp? [stK, nD, p9, p10, ho, atI_int (hl ▸ hi' : i < ss.length), sh_int, eqv_int]
    refine if_join (fun s => ∃ (pool : List Str) (x9 : Option B), s = stK u5 m b tags ss (.list (rs.map rowE)) none (some (.val (nD i))) (some (.val (.str t))) x9 (some (.val (.list (pool.map .str)))) (x11.map .own) none none ∧ isPlain x9 = true ∧ pool ≠ [] ∧ pool.length < 300 ∧ ∀ z ∈ pool, poolOk tags ss i z) (fun h0 => ?_) (fun _ => ?_) ?_
    · dsimp? [stK, nD, E__law_kit_2]
      have h0 : ss.getD i 0 = 0 := by
        have h3 : ((ss.getD i 0 : Nat) : Int) = 0 := by simpa using h0
        omega
      refine ⟨small_nat (by omega), kit_filt (F := .list (rs.map rowE)) (by omega) (fun j => ss.getD j 0 = 1 ∨ (ss.getD j 0 = 0 ∧ i < j)) ?_ ?_⟩
      · intro j hj
        dsimp? [stK, nD, atI_int (hl ▸ hj : j < ss.length), atI_int (hl ▸ hi' : i < ss.length), sh_int, eqv_int]
        refine orT_of (fun h3 => ⟨rfl, fun _ => .inl (int_beq (c := 1) h3)⟩) (fun _ => ?_)
        dsimp? [stK, nD, atI_int (hl ▸ hj : j < ss.length), atI_int (hl ▸ hi' : i < ss.length), sh_int, eqv_int]
        refine andT_of (fun h3 => ?_) (fun _ => ⟨rfl, fun z => by cases z⟩)
        have h3 : ss.getD j 0 = 0 := by
          have h4 : ((ss.getD j 0 : Nat) : Int) = 0 := by simpa using h3
          omega
        dsimp?
        exact fun h4 => .inr ⟨h3, by have := of_decide_eq_true h4; omega⟩
      intro zs2 hz3 hz4
      dsimp? [stK, nD]
      refine Wo_eq (add_strs (a := dash :: zs) (b := zs2) (by rw [sl_eq]; simp; omega)) ?_
      dsimp?
      refine ⟨dash :: zs ++ zs2, _, rfl, rfl, by simp, by simp; omega, fun z hz => ?_⟩
      simp at hz
      rcases hz with rfl | hz | hz
      · exact .inl rfl
      · obtain ⟨j, hj, h⟩ := hz2 z hz
        exact .inr ⟨j, hj, .inl h⟩
      · obtain ⟨j, hj, h⟩ := hz4 z hz
        exact .inr ⟨j, hj, .inr ⟨h0, h⟩⟩
    · dsimp?
      refine ⟨dash :: zs, _, rfl, rfl, by simp, by simp; omega, fun z hz => ?_⟩
      simp at hz
      rcases hz with rfl | hz
      · exact .inl rfl
      · obtain ⟨j, hj, h⟩ := hz2 z hz
        exact .inr ⟨j, hj, .inl h⟩
    rintro s ⟨pool, x9, rfl, p9, hp0, hpl, hpt⟩
    dsimp? [stK, nD, E__law_kit_3, ho]
    refine ⟨small_nat (by omega), comp_rg (fun j acc s => ∃ (u' : D) (zs : List Str) (x13 : Option B), acc = zs.map .str ∧ s = stK u' m b tags ss (.list (rs.map rowE)) none (some (.val (nD i))) (some (.val (.str t))) x9 (some (.val (.list (pool.map .str)))) (x11.map .own) none x13 ∧ zs.length = j ∧ (∀ z ∈ zs, z ∈ pool) ∧ Urn (N + 60 + 20 * i + j) u') (by dsimp?) (by rw [sl_eq]; omega) ⟨u5, [], none, rfl, rfl, rfl, (fun _ h => nomatch h), hu5⟩ ?_ ?_⟩
    · rintro j acc s hj ⟨u6, zs, x13, rfl, rfl, hl2, hz, hu6⟩
      dsimp? [stK, nD]
      refine Wc.mono (w_of (by omega) hu6 (by omega) (by simpa using hp0) (by simp; omega)) ?_
      rintro _ _ ⟨u7, rfl, hx, hu7⟩
      obtain ⟨z, hz2, rfl⟩ := List.mem_map.mp hx
      dsimp?
      refine ⟨u7, zs ++ [z], _, by rw [List.map_append]; rfl, rfl, by simp [hl2], fun y hy => ?_, hu7⟩
      rcases List.mem_append.mp hy with hy | hy
      · exact hz y hy
      · rw [List.mem_singleton.mp hy]; exact hz2
    rintro ys s' _ ⟨u6, zs, x13, rfl, rfl, hl2, hz, hu6⟩
    dsimp? [stK, nD, ho, atI_int (hl ▸ hi' : i < ss.length), sh_int, eqv_int]
    have hzp : ∀ z ∈ zs, poolOk tags ss i z := fun z h => hpt z (hz z h)
    have hzt : ∀ z ∈ zs, z = dash ∨ z ∈ tags := fun z h => by
      rcases hzp z h with e | ⟨j, hj, _⟩
      · exact .inl e
      · exact .inr (List.mem_of_getElem? hj)
    refine if_join (fun s => ∃ (zs : List Str) (u' : D), s = stK u' m b tags ss (.list (rs.map rowE)) none (some (.val (nD i))) (some (.val (.str t))) x9 (some (.val (.list (pool.map .str)))) (some (.own (.list (zs.map .str)))) none none ∧ zs.length = b ∧ (∀ z ∈ zs, z = dash ∨ z ∈ tags) ∧ kindR (tags.zip ss) i zs ∧ Urn (N + 60 + 20 * i + b + 1) u') (fun h1 => ?_) (fun h1 => ?_) ?_
    · dsimp?
      refine Wc.mono (w_take (by omega) hu6 (by omega) (by omega) (by omega)) ?_
      rintro _ _ ⟨q, u7, rfl, rfl, hq, hu7⟩
      dsimp? [sub_nat (show q < (zs.map PyData.str).length by rw [List.length_map]; omega)]
      have h1 : ss.getD i 0 = 1 := by
        have h3 : ((ss.getD i 0 : Nat) : Int) = 1 := by simpa using h1
        omega
      refine ⟨zs.set q t, u7, by rw [List.map_set]; rfl, by rw [List.length_set]; exact hl2, fun z hz => ?_, kind_loop hl ht h1 (by omega) hzp, hu7⟩
      rcases List.mem_or_eq_of_mem_set hz with h | rfl
      · exact hzt z h
      · exact .inr (List.mem_of_getElem? ht)
    · dsimp?
      have h1 : ¬ ss.getD i 0 = 1 := by
        intro q
        rw [q] at h1
        cases h1
      exact ⟨zs, u6, rfl, hl2, hzt, kind_oth hl ht h1 (hc3 i) hzp, hu6.mono (by omega)⟩
    rintro s ⟨zs, u7, rfl, hl3, hzt, hkz, hu7⟩
    dsimp? [stK, nD]
    obtain ⟨f, u8, e8, f1, f2, f3, hu8⟩ := s_turning (n := n - 1) (by omega) (b := b) hu7 (by omega) (by omega)
    refine Wc_eq e8 ?_
    dsimp? [eR]
    have hrl : rs.length ≤ i := by
      have := congrArg List.length hrs
      rw [List.length_map, List.length_take] at this
      omega
    refine ⟨by omega, u8, rs ++ [(t, f, zs)], _, _, _, _, some _, by rw [List.map_append]; rfl, rfl, rfl, p9, rfl, ?_, fun r hr => ?_, fun j q hq => ?_, hu8.mono (by omega)⟩
    · rw [List.map_append, hrs, take_snoc ht]; rfl
    · rcases List.mem_append.mp hr with hr | hr
      · exact hg r hr
      · rw [List.mem_singleton.mp hr]
        exact ⟨f1, f2, f3, hl3, hzt⟩
    · by_cases hj : j < rs.length
      · rw [List.getElem?_append_left hj] at hq
        exact hkr j q hq
      · rw [List.getElem?_append_right (by omega)] at hq
        have hj2 : j - rs.length < 1 := by
          have := (List.getElem?_eq_some_iff.mp hq).1
          simpa using this
        have hlen : rs.length = i := by
          have := congrArg List.length hrs
          rw [List.length_map, List.length_take] at this
          omega
        have hj3 : j = i := by omega
        subst hj3
        rw [show j - rs.length = 0 by omega] at hq
        simp at hq
        rw [← hq]
        exact hkz
  · rintro s ⟨u5, rs, x7, x8, x9, x10, x11, rfl, p7, p8, p9, p10, hrs, hg, hkr, hu5⟩
    rw [List.length_zipIdx] at hrs hu5
    rw [List.take_length] at hrs
    have okk : okBx ⟨b, rs⟩ := okBx_of hb2 (by omega) (by omega) nd (fun t ht => T7_ok t (hT t ht)) hrs hg
    have hne : rs ≠ [] := by
      intro q
      rw [q] at hrs
      have := congrArg List.length hrs
      simp at this
      omega
    dsimp? [stK, p7, p8, p9, p10, nD, E__law_kit_5]
    refine comp_map2 (fun j acc s => ∃ (bs : List Int) (x8 : Option B), acc = bs.map .int ∧ s = stK u5 m b tags ss (.list (rs.map rowE)) (some (.val (eB ⟨b, rs⟩))) x7 x8 x9 x10 (x11.map .own) none none ∧ bs.length = j) (by dsimp? [p8]) (by rw [sl_eq]; omega) ⟨[], x8, rfl, rfl, rfl⟩ ?_ ?_
    · rintro j t acc s hj ⟨bs, x8, rfl, rfl, hl2⟩
      obtain ⟨br, e5⟩ := s_breath (n := n - 1) (by omega) okk (T7_ok t (hT t (List.mem_of_getElem? hj)))
      dsimp? [stK]
      refine Wc_eq e5 ?_
      dsimp?
      exact ⟨bs ++ [br], _, by rw [List.map_append]; rfl, rfl, by simp [hl2]⟩
    rintro ys s' _ ⟨bs, x8', rfl, rfl, hl2⟩
    dsimp? [stK]
    obtain ⟨mx, hmx⟩ : ∃ mx, opMax1 (.list (bs.map .int)) = some (.int mx) := by
      cases bs with
      | nil => simp at hl2; omega
      | cons x r => exact ⟨_, by simp only [opMax1, intsOf_map, maxOf]; rfl⟩
    dsimp? [hmx]
    refine ifV_of (fun _ => ?_) (fun _ => ?_)
    · dsimp?
      refine ⟨⟨b, rs⟩, u5, rfl, rfl, okk, hne, hb3, fun hm4 => few_kinds okk hb3 (L := tags.zip ss) ?_ ?_ hkr, hu5.mono (by omega)⟩
      · show rs.map (·.1) = _
        rw [hrs, List.map_fst_zip (by omega)]
      · rw [List.length_zip]; omega
    · dsimp?
      obtain ⟨k, u6, e6, h1, h2, h3, h4, hu6⟩ := s_known_kit' (n := n - 1) (by omega) hu5 (by omega)
      refine Wc_eq e6 ?_
      dsimp?
      exact ⟨k, u6, rfl, rfl, h1, h2, h3, fun _ => h4, hu6.mono (by omega)⟩
end
end L01

namespace L01
open PySem FC
section
variable {n : Nat}
end
end L01

namespace L01
open PySem FC
section
variable {n : Nat}
theorem s_notes (hn : 1 ≤ n) {v : D} {k : Bx} (hv : Boxed v k) (hk : okBx k) : run tf wf n x_notes [v] = some (.tuple (k.notes.map .str), []) := by
  obtain ⟨i0, rs, i1, f, wf', hf⟩ := hv
  have few := hk.few
  have zl : (100 : Nat) ≤ sizeLine := by decide
  rw [run_at' at_notes hn rfl]
  have hc : (sem (run tf wf (n - 1)) E_notes_0).v [some (.val v), none] = some (.list (k.rows.map fun r => PyData.str r.1), [some (.val v), none]) := by
    refine comp_mapA rfl f (fun r => PyData.str r.1) (by simp [i1, wf']) (by simp) (by omega) fun r hr => ?_
    obtain ⟨a, c, h1, h2, h3, h4, h5⟩ := hf r
    exact ⟨[some (.val v), some (.val (f r))], [some (.val v), some (.val (f r))], [some (.val v), some (.val (f r))], by simp, by simp, by simp [h2], by simp⟩
  have e : k.rows.map (fun r => PyData.str r.1) = k.notes.map .str := by simp [Bx.notes]
  rw [e] at hc
  simp [I_notes, B_notes, startS, inB, endD, lentsOf, hc]
end
end L01

namespace L01
open PySem FC
section
variable {n : Nat}
/-- data of a bounded depth and size -/
def dat (L : Nat) : Nat → D → Prop
  | 0, .list _ => False
  | 0, .tuple _ => False
  | n + 1, .list xs => xs.length ≤ L ∧ ∀ x ∈ xs, dat L n x
  | n + 1, .tuple xs => xs.length ≤ L ∧ ∀ x ∈ xs, dat L n x
  | _, .dict _ => False
  | _, .str z => PyData.strOk z = true ∧ z.length ≤ 2000
  | _, _ => True
theorem dat_mono {L L' : Nat} (hL : L ≤ L') : ∀ {n m : Nat} {d : D}, n ≤ m → dat L n d → dat L' m d
  | 0, 0, d, _, h => by cases d <;> exact h
  | 0, m + 1, d, _, h => by cases d <;> first | exact h.elim | exact h
  | n + 1, 0, d, hn, h => by omega
  | n + 1, m + 1, d, hn, h => by
    cases d with
    | list xs => exact ⟨Nat.le_trans h.1 hL, fun x hx => dat_mono hL (by omega) (h.2 x hx)⟩
    | tuple xs => exact ⟨Nat.le_trans h.1 hL, fun x hx => dat_mono hL (by omega) (h.2 x hx)⟩
    | _ => exact h
theorem dat_flat {L : Nat} (hL : L ≤ 1000) : ∀ {n : Nat} {d : D}, dat L n d → flat n d
  | 0, d, h => by cases d <;> first | exact h.elim | exact h.1 | exact h
  | n + 1, d, h => by
    cases d with
    | list xs => exact ⟨by have := h.1; rw [sl_eq]; omega, fun x hx => dat_flat hL (h.2 x hx)⟩
    | tuple xs => exact ⟨by have := h.1; rw [sl_eq]; omega, fun x hx => dat_flat hL (h.2 x hx)⟩
    | str z => exact h.1
    | dict _ => exact h.elim
    | _ => exact h
theorem dat_sh {L : Nat} (hL : L ≤ 1000) {n : Nat} (hn : n ≤ 60) {d : D} (h : dat L n d) : sh d = true := flat_sh (dat_flat hL h) (by omega)
theorem dat_str {L n : Nat} {z : Str} (h : dat L n (.str z)) : PyData.strOk z = true ∧ z.length ≤ 2000 := by cases n <;> exact h
theorem dat_tup {L n : Nat} {xs : List D} (h : dat L n (.tuple xs)) : xs.length ≤ L ∧ ∀ x ∈ xs, dat L n x := by
  cases n with
  | zero => exact h.elim
  | succ n => exact ⟨h.1, fun x hx => dat_mono (Nat.le_refl _) (by omega) (h.2 x hx)⟩
def isNum : D → Bool
  | .int _ => true
  | _ => false
def noteS (z : Str) : Str := if Txt.endswith z dash then L2.cutS z none (some (-1)) else z
def isD (k : Bx) : D → Bool
  | .str z => decide (noteS z ∈ k.notes)
  | _ => false
def isW (k : Bx) : D → Bool
  | .tuple xs => xs.all (isD k)
  | _ => false
def isPr (k : Bx) : D → Bool
  | .tuple [a, b] => isW k a && isNum b
  | _ => false
def isP (k : Bx) : D → Bool
  | .tuple xs => xs.all (isPr k)
  | _ => false
def isF (k : Bx) : D → Bool
  | .int i => decide (0 ≤ i) && decide (i < (k.b : Int))
  | _ => false
def isRw (k : Bx) : D → Bool
  | .tuple xs => xs.all (isF k)
  | _ => false
theorem bools_map {α : Type} (f : α → Bool) : ∀ l : List α, boolsOf (l.map fun x => PyData.bool (f x)) = some (l.map f)
  | [] => rfl
  | x :: l => by simp [boolsOf, bools_map f l]
theorem all_map {α : Type} (f : α → Bool) (l : List α) : opAll (.list (l.map fun x => PyData.bool (f x))) = some (.bool (l.all f)) := by
  simp only [opAll, bools_map]
  congr 2
  rw [List.all_map]
  rfl
theorem in_strs {a : D} {l : List Str} (ha : a = .list (l.map .str) ∨ a = .tuple (l.map .str)) (hl : l.length ≤ 1000) (ho : ∀ z ∈ l, PyData.strOk z = true) {z : Str} (hz : PyData.strOk z = true) : opIn (.str z) a = some (decide (z ∈ l)) := by
  have h1 : sh (.str z) = true := str_sh hz
  have fl : flat 1 (.tuple (l.map PyData.str)) := strs_flat ho (by rw [sl_eq]; omega) 0
  have h2 : sh (.tuple (l.map PyData.str)) = true := flat_sh fl (by omega)
  have h3 : sh (.list (l.map PyData.str)) = true := flat_sh (n := 1) (show flat 1 (.list (l.map PyData.str)) from fl) (by omega)
  have h4 : (l.map PyData.str).any (fun y => PyData.eqv y (.str z)) = decide (z ∈ l) := by
    rw [List.any_map, Bool.eq_iff_iff, List.any_eq_true, decide_eq_true_eq]
    constructor
    · rintro ⟨y, hy, e⟩
      have : y = z := by simpa using e
      rw [← this]; exact hy
    · intro h; exact ⟨z, h, by simp⟩
  rcases ha with rfl | rfl
  · simp only [opIn, h1, h3, Bool.and_self, if_true, h4]
  · simp only [opIn, h1, h2, Bool.and_self, if_true, h4]
theorem notes_ok {k : Bx} (hk : okBx k) : ∀ z ∈ k.notes, PyData.strOk z = true := fun z hz => (note_ok hk hz).2.2
theorem s_is_number (hn : 1 ≤ n) (d : D) : run tf wf n x_is_number [d] = some (.bool (isNum d), []) := by
  refine Wc.eq (fn_rule at_is_number (by omega) rfl ?_)
  cases d <;> dsimp? [I_is_number, B_is_number, isNum]
theorem s_is_count (hn : 1 ≤ n) (d : D) : run tf wf n x__law_is_count [d] = some (.bool (isNum d), []) := by
  refine Wc.eq (fn_rule at__law_is_count (by omega) rfl ?_)
  cases d <;> dsimp? [I__law_is_count, B__law_is_count, isNum]
theorem cut_ok {z : Str} (h : PyData.strOk z = true) : PyData.strOk (L2.cutS z none (some (-1))) = true := by
  unfold PyData.strOk at h ⊢
  unfold L2.cutS
  rw [Array.all_eq_true'] at h ⊢
  intro c hc
  refine h c ?_
  have hc' : c ∈ (z.cps.toList.drop (HT.sIx z.length 0 none)).take (HT.sIx z.length z.length (some (-1)) - HT.sIx z.length 0 none) := by simpa using hc
  exact Array.mem_toList_iff.mp (List.mem_of_mem_drop (List.mem_of_mem_take hc'))
theorem noteS_ok {z : Str} (h : PyData.strOk z = true) : PyData.strOk (noteS z) = true := by
  unfold noteS
  split
  · exact cut_ok h
  · exact h
theorem s_note_of' (hn : 1 ≤ n) {z : Str} (hl : z.length ≤ 2000) : run tf wf n x_note_of [.str z] = some (.str (noteS z), []) := by
  refine Wc.eq (fn_rule at_note_of (by omega) rfl ?_)
  have zl : z.length ≤ sizeLine := by rw [sl_eq]; omega
  dsimp? [I_note_of, B_note_of, mtD, opEndswith, dash_eq]
  refine ifV_of (fun h => ?_) (fun h => ?_)
  · dsimp?
    refine Wo_eq (show opSl none (some (-1)) (.str z) = some (.str (L2.cutS z none (some (-1)))) by simp only [opSl]; rw [if_pos zl]) ?_
    dsimp? [noteS, h]
  · dsimp? [noteS, h]
end
end L01

namespace L01
open PySem FC
section
variable {n : Nat}
theorem comp_id (f : D → D) {ds : List D} {C : Calls} {e ifs : Ex} {t : Tg} {K : D → S → Prop} {s : S} (hp : t.slots.all (plainS s) = true) (hl : ds.length ≤ sizeLine)
    (hb : ∀ x ∈ ds, KBind (bindT t x (wipeS s t.slots)) fun s1 => WTs C ifs s1 fun k s2 => k = true ∧ WV C e s2 fun d s3 => d = f x ∧ wipeS s3 t.slots = wipeS s t.slots)
    (he : K (.list (ds.map f)) s) : KComp C e t ifs K ds s := by
  have h := comp_pure (g := id) f hp hl hb he
  rwa [List.map_id] at h
theorem comp_fid (q : D → Bool) (f : D → D) {ds : List D} {C : Calls} {e ifs : Ex} {t : Tg} {K : D → S → Prop} {s : S} (hp : t.slots.all (plainS s) = true) (hl : ds.length ≤ sizeLine)
    (hb : ∀ x ∈ ds, KBind (bindT t x (wipeS s t.slots)) fun s1 => WTs C ifs s1 fun k s2 => k = q x ∧ (q x = false → wipeS s2 t.slots = wipeS s t.slots) ∧ (q x = true → WV C e s2 fun d s3 => d = f x ∧ wipeS s3 t.slots = wipeS s t.slots))
    (he : K (.list ((ds.filter q).map f)) s) : KComp C e t ifs K ds s := by
  have h := comp_filt2 (g := id) q f hp hl hb he
  rwa [List.map_id] at h
theorem for_id {ds : List D} {w : Nat} {C : Calls} {t : Tg} {b : Sx} {K : Fl → S → Prop} {s : S} (P : Nat → S → Prop) (h0 : P 0 s)
    (hb : ∀ i x s, ds[i]? = some x → P i s → KBind (bindT t x s) fun s1 => WS w C b s1 (KBody (P (i + 1)) K)) (he : ∀ s, P ds.length s → K .nx s) : KFor w C t b K ds s := for_ix P h0 hb he
theorem s_is_deed (hn : 2 ≤ n) {v : D} {k : Bx} (hv : Boxed v k) (hk : okBx k) {L m : Nat} {d : D} (hd : dat L m d) : run tf wf n x_is_deed [v, d] = some (.bool (isD k d), []) := by
  have few := hk.few
  have hl : k.notes.length ≤ 1000 := by simp [Bx.notes]; omega
  refine Wc.eq (fn_rule at_is_deed (by omega) rfl ?_)
  cases d with
  | str z =>
    obtain ⟨h1, h2⟩ := dat_str hd
    dsimp? [I_is_deed, B_is_deed]
    refine Wc_eq (s_note_of' (by omega) h2) ?_
    dsimp?
    refine Wc_eq (s_notes (n := n - 1) (by omega) hv hk) ?_
    dsimp? [in_strs (a := .tuple (k.notes.map .str)) (.inr rfl) hl (notes_ok hk) (noteS_ok h1), isD]
  | _ => dsimp? [I_is_deed, B_is_deed, isD]
theorem s_is_word (hn : 3 ≤ n) {v : D} {k : Bx} (hv : Boxed v k) (hk : okBx k) {L m : Nat} (hL : L ≤ 1000) {d : D} (hd : dat L m d) : run tf wf n x_is_word [v, d] = some (.bool (isW k d), []) := by
  refine Wc.eq (fn_rule at_is_word (by omega) rfl ?_)
  cases d with
  | tuple xs =>
    obtain ⟨h1, h2⟩ := dat_tup hd
    dsimp? [I_is_word, B_is_word, E_is_word_0]
    refine comp_id (fun x => PyData.bool (isD k x)) (by dsimp?) (by rw [sl_eq]; omega) ?_ ?_
    · intro x hx
      dsimp?
      refine Wc_eq (s_is_deed (n := n - 1) (by omega) hv hk (h2 x hx)) ?_
      dsimp?
    dsimp? [all_map, isW]
  | _ => dsimp? [I_is_word, B_is_word, isW]
def isTwo : D → Bool
  | .tuple ys => decide (ys.length = 2)
  | _ => false
theorem s_is_program (hn : 4 ≤ n) {v : D} {k : Bx} (hv : Boxed v k) (hk : okBx k) {L m : Nat} (hL : L ≤ 1000) {d : D} (hd : dat L m d) : run tf wf n x_is_program [v, d] = some (.bool (isP k d), []) := by
  refine Wc.eq (fn_rule at_is_program (by omega) rfl ?_)
  cases d with
  | tuple xs =>
    obtain ⟨h1, h2⟩ := dat_tup hd
    dsimp? [I_is_program, B_is_program, E_is_program_0]
    refine comp_id (fun x => PyData.bool (isTwo x)) (by dsimp?) (by rw [sl_eq]; omega) ?_ ?_
    · intro x hx
      cases x with
      | tuple ys =>
        dsimp? [sh_int, eqv_int, isTwo]
        congr 1
        rw [Bool.eq_iff_iff]
        simp
        omega
      | _ => dsimp? [isTwo]
    dsimp? [all_map]
    refine if_of (fun h => ?_) (fun h => ?_)
    · dsimp?
      have : isP k (.tuple xs) = false := by
        unfold isP
        rw [Bool.eq_false_iff]
        intro q
        have q2 := List.all_eq_true.mp q
        have : xs.all isTwo = true := by
          refine List.all_eq_true.mpr fun x hx => ?_
          have := q2 x hx
          unfold isPr at this
          split at this
          · rfl
          · cases this
        rw [this] at h
        cases h
      rw [this]
    · have h' : xs.all (isTwo) = true := by
        simpa using h
      dsimp? [E_is_program_1]
      refine comp_id (fun x => PyData.bool (isPr k x)) (by dsimp?) (by rw [sl_eq]; omega) ?_ ?_
      · intro x hx
        have hx2 := List.all_eq_true.mp h' x hx
        have dx := h2 x hx
        cases x with
        | tuple ys =>
          match ys, hx2 with
          | [a, b], _ =>
            obtain ⟨_, hab⟩ := dat_tup dx
            dsimp?
            refine Wc_eq (s_is_word (n := n - 1) (by omega) hv hk hL (hab a List.mem_cons_self)) ?_
            dsimp?
            refine andV_of (fun q => ?_) (fun q => ?_)
            · dsimp?
              refine Wc_eq (s_is_number (by omega) b) ?_
              dsimp? [isPr, q]
            · dsimp? [isPr, q, Bool.false_and]
        | _ => cases hx2
      dsimp? [all_map, isP]
  | _ => dsimp? [I_is_program, B_is_program, isP]
theorem s_is_row (hn : 2 ≤ n) {v : D} {k : Bx} (hv : Boxed v k) {L m : Nat} (hL : L ≤ 1000) {d : D} (hd : dat L m d) : run tf wf n x_is_row [v, d] = some (.bool (isRw k d), []) := by
  obtain ⟨i0, _⟩ := hv
  refine Wc.eq (fn_rule at_is_row (by omega) rfl ?_)
  cases d with
  | tuple xs =>
    obtain ⟨h1, h2⟩ := dat_tup hd
    dsimp? [I_is_row, B_is_row, E_is_row_0]
    refine comp_id (fun x => PyData.bool (isF k x)) (by dsimp?) (by rw [sl_eq]; omega) ?_ ?_
    · intro x hx
      dsimp?
      refine Wc_eq (s_is_number (by omega) x) ?_
      cases x with
      | int i =>
        dsimp? [isNum]
        refine ch3_of (fun q => ?_) (fun q => ?_)
        · dsimp? [i0, nD]
          rw [isF, q, Bool.true_and]
        · refine ⟨?_, rfl⟩
          rw [isF, q, Bool.false_and]
      | _ => dsimp? [isNum, isF]
    dsimp? [all_map, isRw]
  | _ => dsimp? [I_is_row, B_is_row, isRw]
end
end L01

namespace L01
open PySem FC
section
variable {n : Nat}
theorem ends_last {z : Str} (h0 : z ≠ Str.ofString "") : ∃ c : Nat, L2.atI z.cps.toList (-1) = some c ∧ c ∈ z.cps.toList ∧ Txt.endswith z dash = decide (c = 45) := by
  have hne : z.cps.toList ≠ [] := by
    intro q
    apply h0
    apply str_ext
    rw [q]
    rfl
  obtain ⟨l, c, e⟩ : ∃ l c, z.cps.toList = l ++ [c] := ⟨_, _, (List.dropLast_concat_getLast hne).symm⟩
  refine ⟨c, by rw [e, atI_last], by rw [e]; simp, ?_⟩
  have dl : dash.length = 1 := by rw [len_list, dash_list]; rfl
  have hz : z.length = l.length + 1 := by rw [len_list, e]; simp
  unfold Txt.endswith
  rw [subAt_end z dash (by omega), dl, hz, e, dash_list]
  simp
theorem empty_ends : Txt.endswith (Str.ofString "") dash = false := by decide +kernel
theorem note_noend {k : Bx} (hk : okBx k) {z : Str} (h : z ∈ k.notes) : Txt.endswith z dash = false := ends_dash (z, false) (note_ok hk h)
theorem isD_str (k : Bx) (z : Str) : isD k (.str z) = decide (noteS z ∈ k.notes) := rfl
theorem noteS_t {z : Str} (h : Txt.endswith z dash = true) : noteS z = L2.cutS z none (some (-1)) := by unfold noteS; rw [if_pos h]
theorem noteS_f {z : Str} (h : Txt.endswith z dash = false) : noteS z = z := by unfold noteS; rw [h]; rfl
theorem chr_eq (c : Nat) : ((⟨#[c]⟩ : Str) == dash) = decide (c = 45) := by
  rw [Bool.eq_iff_iff]
  simp only [beq_iff_eq, decide_eq_true_eq]
  constructor
  · intro h
    have := congrArg (fun s : Str => s.cps.toList) h
    rw [dash_list] at this
    simpa using this
  · rintro rfl
    apply str_ext
    rw [dash_list]
theorem chr_ok {z : Str} (h : PyData.strOk z = true) {c : Nat} (hc : c ∈ z.cps.toList) : PyData.strOk ⟨#[c]⟩ = true := by
  unfold PyData.strOk at h ⊢
  rw [Array.all_eq_true'] at h ⊢
  intro x hx
  have : x = c := by simpa using hx
  rw [this]
  exact h c (Array.mem_toList_iff.mp hc)
theorem s_law_deed (hn : 1 ≤ n) {k : Bx} (hk : okBx k) {L m : Nat} {d : D} (hd : dat L m d) : run tf wf n x__law_is_deed [eB k, d] = some (.bool (isD k d), []) := by
  have few := hk.few
  have hl : k.notes.length ≤ 1000 := by simp [Bx.notes]; omega
  refine Wc.eq (fn_rule at__law_is_deed (by omega) rfl ?_)
  dsimp? [I__law_is_deed, B__law_is_deed, E__law_is_deed_0, eB]
  refine comp_pure (g := rowE) (fun r => .str r.1) (by dsimp?) (by rw [sl_eq]; omega) ?_ ?_
  · intro r hr
    dsimp? [rowE]
  have en : k.rows.map (fun r => PyData.str r.1) = k.notes.map .str := by simp [Bx.notes, List.map_map, Function.comp_def]
  rw [en]
  cases d with
  | str z =>
    obtain ⟨h1, h2⟩ := dat_str hd
    have zl : z.length ≤ sizeLine := by rw [sl_eq]; omega
    have sz := str_sh h1
    have se : sh (.str (Str.ofString "")) = true := str_sh (by decide +kernel)
    dsimp? [sz, se, eqv_str]
    refine if_of (fun h => ?_) (fun h => ?_)
    · have e : z = Str.ofString "" := by simpa using h
      dsimp?
      subst e
      have : isD k (.str (Str.ofString "")) = false := by
        rw [isD_str, noteS_f empty_ends, decide_eq_false_iff_not]
        intro q
        have q2 := (note_ok hk q).1
        obtain ⟨l, c, e, _⟩ := q2
        have : (Str.ofString "").cps.toList = [] := by decide +kernel
        rw [this] at e
        simp at e
      rw [this]
    · have hne : z ≠ Str.ofString "" := by
        intro q
        rw [q] at h
        simp at h
      obtain ⟨c, ec, hcm, ee⟩ := ends_last hne
      have i1 := in_strs (a := .list (k.notes.map .str)) (.inl rfl) hl (notes_ok hk) h1
      have i2 := in_strs (a := .list (k.notes.map .str)) (.inl rfl) hl (notes_ok hk) (cut_ok h1)
      have ix : opIx (.str z) (.int (-1)) = some (.str ⟨#[c]⟩) := by
        simp only [opIx]
        rw [if_pos zl, ec]
        rfl
      have sl : opSl none (some (-1)) (.str z) = some (.str (L2.cutS z none (some (-1)))) := by
        simp only [opSl]; rw [if_pos zl]
      dsimp? [i1]
      refine orV_of (fun q => ?_) (fun q => ?_)
      · have q := of_decide_eq_true q
        dsimp?
        have : isD k (.str z) = true := by
          rw [isD_str, noteS_f (note_noend hk q)]
          exact decide_eq_true q
        rw [this, decide_eq_true q]
      · have q := of_decide_eq_false q
        dsimp? [ix, str_sh (chr_ok h1 hcm), str_sh dash_ok, dash_eq, eqv_str, chr_eq]
        refine andV_of (fun q2 => ?_) (fun q2 => ?_)
        · dsimp? [sl, i2]
          have : isD k (.str z) = decide (L2.cutS z none (some (-1)) ∈ k.notes) := by
            rw [isD_str, noteS_t (by rw [ee, q2])]
          rw [this]
        · dsimp?
          have : isD k (.str z) = false := by
            rw [isD_str, noteS_f (by rw [ee, q2])]
            exact decide_eq_false q
          rw [this, q2]
  | _ => dsimp? [isD]
theorem filt_nil {α : Type} (p : α → Bool) (l : List α) : (l.filter fun x => !p x).isEmpty = l.all p := by
  induction l with
  | nil => rfl
  | cons x l ih =>
    rw [List.filter_cons]
    cases h : p x <;> simp [h, ih]
theorem s_law_word (hn : 2 ≤ n) {k : Bx} (hk : okBx k) {L m : Nat} (hL : L ≤ 1000) (hm : m ≤ 50) {d : D} (hd : dat L m d) : run tf wf n x__law_is_word [eB k, d] = some (.bool (isW k d), []) := by
  refine Wc.eq (fn_rule at__law_is_word (by omega) rfl ?_)
  cases d with
  | tuple xs =>
    obtain ⟨h1, h2⟩ := dat_tup hd
    dsimp? [I__law_is_word, B__law_is_word, E__law_is_word_0]
    refine comp_fid (fun x => !isD k x) id (by dsimp?) (by rw [sl_eq]; omega) ?_ ?_
    · intro x hx
      dsimp?
      refine Wc_eq (s_law_deed (n := n - 1) (by omega) hk (h2 x hx)) ?_
      dsimp?
      refine ts_of (fun q => ?_) (fun q => ?_)
      · dsimp? [q]
        simp
      · dsimp? [q]
        simp
    have sf : sh (.list (xs.filter fun x => !isD k x)) = true := by
      refine flat_sh (n := m + 1) ⟨Nat.le_trans (List.length_filter_le _ _) (by rw [sl_eq]; omega), fun x hx => dat_flat hL (h2 x (List.mem_filter.mp hx).1)⟩ (by omega)
    dsimp? [sf, sh_nil, eqv_nil, List.map_id, filt_nil, isW]
  | _ => dsimp? [I__law_is_word, B__law_is_word, isW]
theorem s_law_program (hn : 3 ≤ n) {k : Bx} (hk : okBx k) {L m : Nat} (hL : L ≤ 1000) (hm : m ≤ 50) {d : D} (hd : dat L m d) : run tf wf n x__law_is_program [eB k, d] = some (.bool (isP k d), []) := by
  refine Wc.eq (fn_rule at__law_is_program (by omega) rfl ?_)
  cases d with
  | tuple xs =>
    obtain ⟨h1, h2⟩ := dat_tup hd
    dsimp? [I__law_is_program, B__law_is_program]
    have bad : ∀ x ∈ xs, isPr k x = false → isP k (.tuple xs) = false := by
      intro x hx q
      unfold isP
      rw [Bool.eq_false_iff]
      intro q2
      have := List.all_eq_true.mp q2 x hx
      rw [q] at this
      cases this
    refine for_id (fun i s => ∃ x2 : Option B, s = [some (.val (eB k)), some (.val (.tuple xs)), x2] ∧ isPlain x2 = true ∧ ∀ x ∈ xs.take i, isPr k x = true) ⟨none, rfl, rfl, by simp⟩ ?_ ?_
    · rintro i x s hi ⟨x2, rfl, p2, hall⟩
      have hx := List.mem_of_getElem? hi
      have dx := h2 x hx
      have go : isPr k x = true → ∀ y ∈ xs.take (i + 1), isPr k y = true := fun q y hy => by
        rw [take_succ_get hi] at hy
        rcases List.mem_append.mp hy with hy | hy
        · exact hall y hy
        · rw [List.mem_singleton.mp hy]; exact q
      dsimp? [p2, S__law_is_program_0]
      cases x with
      | tuple ys =>
        dsimp? [sh_int, eqv_int]
        refine orT_of (fun q => ?_) (fun q => ?_)
        · dsimp?
          have : isPr k (.tuple ys) = false := by
            match ys, q with
            | [], _ => rfl
            | [_], _ => rfl
            | [_, _], q => simp at q
            | _ :: _ :: _ :: _, _ => rfl
          rw [bad _ hx this]
        · match ys, q with
          | [a, b], _ =>
            obtain ⟨_, hab⟩ := dat_tup dx
            dsimp?
            refine Wc_eq (s_law_word (n := n - 1) (by omega) hk hL hm (hab a List.mem_cons_self)) ?_
            dsimp?
            refine orT_of (fun q => ?_) (fun q => ?_)
            · dsimp?
              have q' : isW k a = false := by simpa using q
              rw [bad _ hx (show isPr k (.tuple [a, b]) = false by show (isW k a && isNum b) = false; rw [q']; rfl)]
            · have q' : isW k a = true := by simpa using q
              dsimp?
              refine Wc_eq (s_is_count (by omega) b) ?_
              dsimp?
              refine if_of (fun q2 => ?_) (fun q2 => ?_)
              · have q3 : isNum b = false := by simpa using q2
                dsimp?
                rw [bad _ hx (show isPr k (.tuple [a, b]) = false by show (isW k a && isNum b) = false; rw [q3, Bool.and_false])]
              · have q3 : isNum b = true := by simpa using q2
                dsimp?
                exact ⟨_, rfl, rfl, go (show (isW k a && isNum b) = true by rw [q', q3]; rfl)⟩
          | [], q => simp at q
          | [_], q => simp at q
          | _ :: _ :: _ :: _, q => simp at q; omega
      | _ =>
        dsimp?
        rw [bad _ hx rfl]
    · rintro s ⟨x2, rfl, p2, hall⟩
      rw [List.take_length] at hall
      dsimp?
      have : isP k (.tuple xs) = true := List.all_eq_true.mpr hall
      rw [this]
  | _ => dsimp? [I__law_is_program, B__law_is_program, isP]
theorem s_law_line (hn : 2 ≤ n) {k : Bx} {L m : Nat} (hL : L ≤ 1000) (hm : m ≤ 50) {d : D} (hd : dat L m d) : run tf wf n x__law_is_line [eB k, d] = some (.bool (isRw k d), []) := by
  refine Wc.eq (fn_rule at__law_is_line (by omega) rfl ?_)
  cases d with
  | tuple xs =>
    obtain ⟨h1, h2⟩ := dat_tup hd
    dsimp? [I__law_is_line, B__law_is_line, E__law_is_line_0]
    refine comp_fid (fun x => !isF k x) id (by dsimp?) (by rw [sl_eq]; omega) ?_ ?_
    · intro x hx
      dsimp?
      refine Wc_eq (s_is_count (by omega) x) ?_
      cases x with
      | int i =>
        dsimp? [isNum]
        refine ch3_of (fun q => ?_) (fun q => ?_)
        · dsimp? [eB, nD]
          have e : isF k (.int i) = decide (i < (k.b : Int)) := by rw [isF, q, Bool.true_and]
          refine ts_of (fun q2 => ?_) (fun q2 => ?_)
          · have q3 : isF k (.int i) = false := by rw [e]; simpa using q2
            dsimp? [q3]
            simp
          · have q3 : isF k (.int i) = true := by rw [e]; simpa using q2
            dsimp? [q3]
            simp
        · have e : isF k (.int i) = false := by rw [isF, q, Bool.false_and]
          dsimp? [e]
          simp
      | _ =>
        dsimp? [isNum, isF]
        simp
    have sf : sh (.list (xs.filter fun x => !isF k x)) = true := by
      refine flat_sh (n := m + 1) ⟨Nat.le_trans (List.length_filter_le _ _) (by rw [sl_eq]; omega), fun x hx => dat_flat hL (h2 x (List.mem_filter.mp hx).1)⟩ (by omega)
    dsimp? [sf, sh_nil, eqv_nil, List.map_id, filt_nil, isRw]
  | _ => dsimp? [I__law_is_line, B__law_is_line, isRw]
end
end L01

namespace L01
open PySem FC
section
variable {n : Nat}
theorem dat_len {L c : Nat} {xs ys : List D} (h : dat L (c + 1) (.tuple xs)) (hs : ∀ y ∈ ys, dat (L + 1) (c + 1) y) (hl : ys.length ≤ L + 1) : dat (L + 1) (c + 2) (.tuple ys) := ⟨hl, hs⟩
theorem w_spoilt : ∀ (dp : Nat) {n : Nat} (hn : dp + 4 ≤ n) {u : D} {N : Nat} (hu : Urn N u) (hN : N + 4 * dp + 1000 < 2 ^ 62) (hdp : dp ≤ 10) {L c : Nat} (hL : L ≤ 900) {mt : D} (hm : dat L c mt) {pool : List D} (hp : ∀ x ∈ pool, dat L 1 x) (hp0 : pool ≠ []) (hpl : pool.length < 1000),
    Wc (run tf wf n x__law_spoilt [u, mt, .list pool, .int (dp : Int)]) fun r ls => ∃ u', ls = [u'] ∧ dat (L + 1) (c + 1) r ∧ Urn (N + 4 * (dp + 1)) u' := by
  intro dp
  induction dp with
  | zero =>
    intro n hn u N hu hN hdp L c hL mt hm pool hp hp0 hpl
    refine fn_rule at__law_spoilt (by omega) rfl ?_
    dsimp? [I__law_spoilt, B__law_spoilt, sh_int, eqv_int, Int.natCast_zero]
    refine Wc.mono (w_of (by omega) hu (by omega) hp0 (by omega)) ?_
    rintro r _ ⟨u1, rfl, hr, hu1⟩
    dsimp?
    exact ⟨u1, rfl, dat_mono (by omega) (by omega) (hp r hr), hu1.mono (by omega)⟩
  | succ dp ih =>
    intro n hn u N hu hN hdp L c hL mt hm pool hp hp0 hpl
    have nz : (((dp + 1 : Nat) : Int) == 0) = false := by simp; omega
    refine fn_rule at__law_spoilt (by omega) rfl ?_
    dsimp? [I__law_spoilt, B__law_spoilt, sh_int, eqv_int, nz]
    cases mt with
    | tuple xs =>
      cases c with
      | zero => exact hm.elim
      | succ c =>
        obtain ⟨hxl, hxs⟩ := hm
        dsimp? [sh_int, eqv_int]
        refine orT_of (fun q => ?_) (fun q => ?_)
        · dsimp?
          refine Wc.mono (w_of (by omega) hu (by omega) hp0 (by omega)) ?_
          rintro r _ ⟨u1, rfl, hr, hu1⟩
          dsimp?
          exact ⟨u1, rfl, dat_mono (by omega) (by omega) (hp r hr), hu1.mono (by omega)⟩
        have h0 : 0 < xs.length := by
          have : ¬ (xs.length : Int) = 0 := by simpa using q
          omega
        dsimp?
        refine Wc.mono (w_take (by omega) hu (by omega) (by omega) (by omega)) ?_
        rintro _ _ ⟨y, u1, rfl, rfl, _, hu1⟩
        dsimp? [sh_int, eqv_int]
        refine if_of (fun q => ?_) (fun q => ?_)
        · dsimp?
          refine Wc.mono (w_of (by omega) hu1 (by omega) hp0 (by omega)) ?_
          rintro r _ ⟨u2, rfl, hr, hu2⟩
          dsimp?
          exact ⟨u2, rfl, dat_mono (by omega) (by omega) (hp r hr), hu2.mono (by omega)⟩
        dsimp?
        refine Wc.mono (w_take (by omega) hu1 (by omega) (by omega) (by omega)) ?_
        rintro _ _ ⟨k, u2, rfl, rfl, hk, hu2⟩
        have hk : k < xs.length := by omega
        dsimp?
        refine Wc.mono (w_take (by omega) hu2 (by omega) (by omega) (by omega)) ?_
        rintro _ _ ⟨way, u3, rfl, rfl, _, hu3⟩
        dsimp? [sh_int, eqv_int]
        have up : ∀ x ∈ xs, dat (L + 1) (c + 1) x := fun x hx => dat_mono (by omega) (by omega) (hxs x hx)
        have ct : cutD xs none (some (k : Int)) = xs.take k := cut_take
        have cd1 : cutD xs (some ((k : Int) + 1)) none = xs.drop (k + 1) := cut_drop (k := k + 1)
        have cd0 : cutD xs (some (k : Int)) none = xs.drop k := cut_drop
        have tl : (xs.take k).length = k := by rw [List.length_take]; omega
        have ixk : opIx (.tuple xs) (.int (k : Int)) = some xs[k] := by
          show L2.atI xs (k : Int) = _
          rw [atI_nat, List.getElem?_eq_getElem hk]
        have ad : ∀ a b : List D, a.length + b.length ≤ 2000 → opAdd (.tuple a) (.tuple b) = some (.tuple (a ++ b)) := fun a b h => by
          simp only [opAdd]; rw [if_pos (by rw [sl_eq]; omega)]
        have one : ∀ z : D, dat (L + 1) (c + 1) z → ∀ (a b : List D), (∀ x ∈ a, x ∈ xs) → (∀ x ∈ b, x ∈ xs) → a.length + b.length ≤ xs.length → dat (L + 1) (c + 2) (.tuple (a ++ [z] ++ b)) := by
          intro z hz a b ha hb hl
          refine ⟨by simp; omega, fun x hx => ?_⟩
          simp at hx
          rcases hx with hx | rfl | hx
          · exact up x (ha x hx)
          · exact hz
          · exact up x (hb x hx)
        refine if_of (fun _ => ?_) (fun _ => ?_)
        · dsimp? [ct, cd1]
          refine Wo_eq (ad _ _ (by rw [tl, List.length_drop]; omega)) ?_
          dsimp?
          refine ⟨u3, rfl, ⟨by rw [List.length_append, tl, List.length_drop]; omega, fun x hx => ?_⟩, hu3.mono (by omega)⟩
          rcases List.mem_append.mp hx with hx | hx
          · exact up x (List.mem_of_mem_take hx)
          · exact up x (List.mem_of_mem_drop hx)
        dsimp? [sh_int, eqv_int]
        refine if_of (fun _ => ?_) (fun _ => ?_)
        · dsimp? [ct, cd0, ixk]
          refine Wo_eq (ad _ _ (by rw [tl]; simp; omega)) ?_
          dsimp? [cd0]
          refine Wo_eq (ad _ _ (by rw [List.length_append, tl, List.length_drop]; simp; omega)) ?_
          dsimp?
          exact ⟨u3, rfl, one _ (up _ (List.getElem_mem _)) _ _ (fun x hx => List.mem_of_mem_take hx) (fun x hx => List.mem_of_mem_drop hx) (by rw [tl, List.length_drop]; omega), hu3.mono (by omega)⟩
        dsimp? [sh_int, eqv_int]
        refine if_of (fun _ => ?_) (fun _ => ?_)
        · dsimp?
          exact ⟨u3, rfl, ⟨by omega, up⟩, hu3.mono (by omega)⟩
        dsimp? [ct, cd1, ixk]
        have e1 : ((dp + 1 : Nat) : Int) - 1 = (dp : Int) := by omega
        rw [e1]
        refine Wc.mono (ih (n := n - 1) (by omega) hu3 (by omega) (by omega) hL (hxs _ (List.getElem_mem hk)) hp hp0 hpl) ?_
        rintro r _ ⟨u4, rfl, hr, hu4⟩
        dsimp?
        refine Wo_eq (ad _ _ (by rw [tl]; simp; omega)) ?_
        dsimp? [cd1]
        refine Wo_eq (ad _ _ (by rw [List.length_append, tl, List.length_drop]; simp; omega)) ?_
        dsimp?
        exact ⟨u4, rfl, one _ hr _ _ (fun x hx => List.mem_of_mem_take hx) (fun x hx => List.mem_of_mem_drop hx) (by rw [tl, List.length_drop]; omega), hu4.mono (by omega)⟩
    | _ =>
      dsimp?
      refine Wc.mono (w_of (by omega) hu (by omega) hp0 (by omega)) ?_
      rintro r _ ⟨u1, rfl, hr, hu1⟩
      dsimp?
      exact ⟨u1, rfl, dat_mono (by omega) (by omega) (hp r hr), hu1.mono (by omega)⟩
end
end L01

namespace L01
open PySem FC
section
variable {n : Nat}
def pE (x : List Dd × Int) : D := .tuple [eW x.1, .int x.2]
theorem str_dat {L m : Nat} {z : Str} (h : PyData.strOk z = true) (hl : z.length ≤ 2000) : dat L m (.str z) := by cases m <;> exact ⟨h, hl⟩
theorem eW_dat {k : Bx} (hk : okBx k) {w : List Dd} (hw : okWd k w) {L m : Nat} (hl : w.length ≤ L) : dat L (m + 1) (eW w) := by
  refine ⟨by simpa using hl, fun x hx => ?_⟩
  obtain ⟨d, hd, rfl⟩ := List.mem_map.mp hx
  have ok := note_ok hk (hw d hd)
  exact str_dat (dS_ok d ok) (by have := dS_len d ok; omega)
theorem eR_dat {r : List Nat} {L m : Nat} (hl : r.length ≤ L) : dat L (m + 1) (eR r) := by
  refine ⟨by simpa using hl, fun x hx => ?_⟩
  obtain ⟨d, hd, rfl⟩ := List.mem_map.mp hx
  cases m <;> trivial
theorem pl_dat {k : Bx} (hk : okBx k) {p : List (List Dd × Int)} (hp : ∀ q ∈ p, okWd k q.1 ∧ q.1.length ≤ 3) (hl : p.length ≤ 100) : dat 100 3 (.tuple (p.map pE)) := by
  refine ⟨by simpa using hl, fun x hx => ?_⟩
  obtain ⟨q, hq, rfl⟩ := List.mem_map.mp hx
  refine ⟨by show 2 ≤ 100; decide, fun y hy => ?_⟩
  simp only [List.mem_cons, List.not_mem_nil, or_false] at hy
  rcases hy with rfl | rfl
  · exact eW_dat hk (hp q hq).1 (by have := (hp q hq).2; omega)
  · trivial
theorem lst_dat {L m : Nat} {xs : List D} (h : dat L (m + 1) (.tuple xs)) : dat L (m + 1) (.list xs) := h
/-- what a part is asked -/
theorem w_part (hn : 12 ≤ n) {k : Bx} (hk : okBx k) {d : D} (hd : dat 200 10 d) {u x1 x3 x4 x5 x6 x8 x9 x10 : Option B} {x7 x12 : Option B} (p7 : isLent x7 = false) (p12 : isLent x12 = false) {K : Fl → S → Prop}
    (hK : ∀ y7 y12 : Option B, isLent y7 = false → isLent y12 = false → K .nx [u, x1, some (.val (eB k)), x3, x4, x5, x6, y7, x8, x9, x10, some (.val d), y12]) :
    WS wf (run tf wf (n - 1)) S__law_right_1 [u, x1, some (.val (eB k)), x3, x4, x5, x6, x7, x8, x9, x10, some (.val d), x12] K := by
  dsimp? [S__law_right_1]
  refine Wc_eq (s_is_word (n := n - 1) (by omega) (boxed_e k) hk (by omega) hd) ?_
  dsimp?
  refine Wc_eq (s_lists 4 (eB k) (n - 1) (by omega) (eB_flat hk 0)) ?_
  rw [lists_eB]
  dsimp?
  refine Wc_eq (s_is_program (n := n - 1) (by omega) (boxed_l k) hk (by omega) hd) ?_
  dsimp?
  refine Wc_eq (s_is_row (n := n - 1) (by omega) (boxed_e k) (by omega) hd) ?_
  dsimp?
  refine Wc_eq (s_is_deed (n := n - 1) (by omega) (boxed_e k) hk hd) ?_
  dsimp? [p7]
  refine Wc_eq (s_law_word (n := n - 1) (by omega) hk (by omega) (by omega) hd) ?_
  dsimp?
  refine Wc_eq (s_law_program (n := n - 1) (by omega) hk (by omega) (by omega) hd) ?_
  dsimp?
  refine Wc_eq (s_law_line (n := n - 1) (by omega) (by omega) (by omega) hd) ?_
  dsimp? [p12]
  have fl : flat 1 (.list [.bool (isW k d), .bool (isP k d), .bool (isRw k d), .bool (isD k d)]) := lst_flat (by rw [sl_eq]; simp) (by
    intro x hx
    simp only [List.mem_cons, List.not_mem_nil, or_false] at hx
    rcases hx with rfl | rfl | rfl | rfl <;> trivial)
  refine if_join (fun s => s = [u, x1, some (.val (eB k)), x3, x4, x5, x6, some (.val (.list [.bool (isW k d), .bool (isP k d), .bool (isRw k d), .bool (isD k d)])), x8, x9, x10, some (.val d), some (.own (.list [.bool (isW k d), .bool (isP k d), .bool (isRw k d), .bool (isD k d)]))]) (fun q => ?_) (fun q => ?_) ?_
  · dsimp?
    refine Wc_eq (s_law_deed (n := n - 1) (by omega) hk hd) ?_
    dsimp?
    have e : subD (.list [.bool (isW k d), .bool (isP k d), .bool (isRw k d), .bool false]) (.int 3) (.bool (isD k d)) = some (.list [.bool (isW k d), .bool (isP k d), .bool (isRw k d), .bool (isD k d)]) := rfl
    dsimp? [e]
  · have e : isD k d = false := by
      cases d <;> first | rfl | cases q
    dsimp? [e]
  rintro s rfl
  dsimp?
  refine Wc_eq (s_same 1 _ (n - 1) (by omega) fl (by omega)) ?_
  dsimp?
  exact hK _ _ rfl rfl
end
end L01

namespace L01
open PySem FC
section
variable {n : Nat}
theorem w_right (hn : 24 ≤ n) (hh : run tf wf (n - 1) x__law_hand_right [] = some (.bool true, [])) {u : D} {N : Nat} (hu : Urn N u) (hN : N + 1000000 < 2 ^ 62) :
    Wc (run tf wf n x__law_right [u]) fun r ls => ∃ u', r = .bool true ∧ ls = [u'] := by
  have pow30 : opPow (.int 10) (.int 30) = some (.int (10 ^ 30)) := rfl
  refine fn_rule at__law_right (by omega) rfl ?_
  dsimp? [I__law_right, B__law_right, hh]
  refine ⟨by decide, ?_⟩
  refine for_rg (n := 10) (fun i s => ∃ (u' : D) (x1 x2 x3 x4 x5 x6 x7 x8 x9 x10 x11 x12 : Option B), s = [some (.lent u'), x1, x2, x3, x4, x5, x6, x7, x8, x9, x10, x11, x12] ∧ ([x1, x2, x3, x4, x5, x6, x7, x8, x9, x10, x11, x12].all fun x => !isLent x) = true ∧ Urn (N + 10000 * i) u') ?_ ?_ ?_
  · exact ⟨_, _, _, _, _, _, _, _, _, _, _, _, _, rfl, rfl, hu⟩
  · rintro i s hi ⟨u1, x1, x2, x3, x4, x5, x6, x7, x8, x9, x10, x11, x12, rfl, p, hu1⟩
    simp only [List.all_cons, List.all_nil, Bool.and_eq_true, and_true, Bool.not_eq_true'] at p
    dsimp? [p, S__law_right_3]
    refine Wc.mono (w_take (by omega) hu1 (by omega) (by omega) (by omega)) ?_
    rintro _ _ ⟨q, u2, rfl, rfl, hq, hu2⟩
    dsimp? [p, sh_int, eqv_int]
    refine ifV_join (fun d s => ∃ (k : Bx) (u' : D), d = eB k ∧ s = [some (.lent u'), some (.val (.int (i : Int))), x2, x3, x4, x5, x6, x7, x8, x9, x10, x11, x12] ∧ okBx k ∧ k.rows ≠ [] ∧ Urn (N + 10000 * i + 2001) u') (fun _ => ?_) (fun _ => ?_) ?_
    · dsimp?
      refine Wc.mono (w_kit (m := 4) (by omega) hu2 (by omega) (by omega) (by omega)) ?_
      rintro _ _ ⟨k, u3, rfl, rfl, h1, h2, h3, h4, hu3⟩
      dsimp?
      exact ⟨k, u3, rfl, rfl, h1, h2, hu3⟩
    · dsimp?
      obtain ⟨k, u3, e, h1, h2, h3, hu3⟩ := s_known_kit (n := n - 1) (by omega) hu2 (by omega)
      refine Wc_eq e ?_
      dsimp?
      exact ⟨k, u3, rfl, rfl, h1, h2, hu3.mono (by omega)⟩
    rintro _ _ ⟨k, u3, rfl, rfl, hk, hne, hu3⟩
    have few := hk.few
    dsimp? [p]
    obtain ⟨w, u4, e4, hw, hwl, hu4⟩ := s_deeds (n := n - 1) (m := 5) (by omega) hk hne hu3 (by omega) (by omega)
    refine Wc_eq e4 ?_
    dsimp? [p]
    refine Wc.mono (w_take (by omega) hu4 (by omega) (by omega) (by omega)) ?_
    rintro _ _ ⟨rl, u5, rfl, rfl, hrl, hu5⟩
    dsimp? [p]
    obtain ⟨r, u6, e6, hrl2, hr, hu6⟩ := s_line (n := n - 1) (m := rl) (by omega) (boxed_e k) hk hu5 (by omega) (by omega)
    refine Wc_eq e6 ?_
    dsimp? [p]
    refine Wc.mono (w_take (by omega) hu6 (by omega) (by omega) (by omega)) ?_
    rintro _ _ ⟨lp, u7, rfl, rfl, hlp, hu7⟩
    dsimp? [p]
    refine ⟨small_nat (by omega), for_rg (fun j s => ∃ (u' : D) (y4 : Option B) (pl : List (List Dd × Int)), s = [some (.lent u'), some (.val (.int (i : Int))), some (.val (eB k)), some (.own (.list (pl.map pE))), y4, x5, x6, x7, some (.val (eW w)), some (.val (eR r)), x10, x11, x12] ∧ isLent y4 = false ∧ pl.length = j ∧ (∀ x ∈ pl, okWd k x.1 ∧ x.1.length ≤ 3) ∧ Urn (N + 10000 * i + 2200 + 20 * j) u') ?_ ?_ ?_⟩
    · exact ⟨_, _, [], rfl, p.2.2.2.1, rfl, (fun _ h => nomatch h), hu7.mono (by omega)⟩
    · rintro j s hj ⟨u8, y4, pl, rfl, p4, hpl, hpx, hu8⟩
      dsimp? [p4, S__law_right_0]
      obtain ⟨v, u9, e9, hv, hvl, hu9⟩ := s_deeds (n := n - 1) (m := 3) (by omega) hk hne hu8 (by omega) (by omega)
      refine Wc_eq e9 ?_
      dsimp? [pow30]
      refine Wc.mono (w_of (by omega) hu9 (by omega) (by simp) (by simp)) ?_
      rintro d _ ⟨u10, rfl, hx, hu10⟩
      obtain ⟨t, rfl⟩ : ∃ t : Int, d = .int t := by
        simp only [List.mem_cons, List.not_mem_nil, or_false] at hx
        rcases hx with rfl | rfl | rfl | rfl | rfl <;> exact ⟨_, rfl⟩
      dsimp?
      refine ⟨by omega, _, _, pl ++ [(v, t)], by rw [List.map_append]; rfl, rfl, by simp [hpl], fun x hx => ?_, hu10.mono (by omega)⟩
      rcases List.mem_append.mp hx with hx | hx
      · exact hpx x hx
      · rw [List.mem_singleton.mp hx]
        exact ⟨hv, hvl⟩
    rintro s ⟨u8, y4, pl, rfl, p4, hpl, hpx, hu8⟩
    obtain ⟨r0, rs, er⟩ : ∃ r0 rs, k.rows = r0 :: rs := by
      cases h : k.rows with
      | nil => exact absurd h hne
      | cons a b => exact ⟨a, b, rfl⟩
    have hr0 : r0 ∈ k.rows := by rw [er]; exact List.mem_cons_self
    have ok0 := hk.nm r0 hr0
    have ix1 : opIx (eB k) (.int 1) = some (.tuple (k.rows.map rowE)) := rfl
    have ix2 : opIx (.tuple (k.rows.map rowE)) (.int 0) = some (rowE r0) := by rw [er]; exact ix0
    have ix3 : opIx (rowE r0) (.int 0) = some (.str r0.1) := rfl
    have ad1 := add_dash r0.1 ok0.2.1
    have dd : Str.ofString "--" = dash ++ dash := by decide +kernel
    have ddl : (dash ++ dash).length = 2 := by decide +kernel
    have ad2 : opAdd (.str r0.1) (.str (dash ++ dash)) = some (.str (r0.1 ++ (dash ++ dash))) := by
      have := ok0.2.1
      simp only [opAdd]
      rw [if_pos (by rw [ddl, sl_eq]; omega)]
    dsimp? [p, ix1, ix2, ix3, ad1, dash_eq, dd, ad2]
    have sok : ∀ a b : Str, PyData.strOk a = true → PyData.strOk b = true → PyData.strOk (a ++ b) = true := by
      intro a b ha hb
      unfold PyData.strOk at ha hb ⊢
      show (a.cps ++ b.cps).all _ = true
      rw [Array.all_append, ha, hb]
      rfl
    have slen : ∀ a b : Str, (a ++ b).length = a.length + b.length := fun a b => by rw [len_list, len_list, len_list, app_list, List.length_append]
    have dl : dash.length = 1 := by decide +kernel
    have hpool : ∀ x ∈ ([.int 0, .int 1, .int 2, .int 3, .bool true, .none, .str (Str.ofString ""), .str dash, .str (Str.ofString "zz"), .str r0.1, .str (r0.1 ++ dash), .str (r0.1 ++ (dash ++ dash)), .tuple [], .list [], eW w, eR r] : List D), dat 100 1 x := by
      intro x hx
      have l0 := ok0.2.1
      simp only [List.mem_cons, List.not_mem_nil, or_false] at hx
      rcases hx with rfl | rfl | rfl | rfl | rfl | rfl | rfl | rfl | rfl | rfl | rfl | rfl | rfl | rfl | rfl | rfl
      · trivial
      · trivial
      · trivial
      · trivial
      · trivial
      · trivial
      · exact str_dat (by decide +kernel) (by decide +kernel)
      · exact str_dat dash_ok (by rw [dl]; omega)
      · exact str_dat (by decide +kernel) (by decide +kernel)
      · exact str_dat ok0.2.2 (by omega)
      · exact str_dat (sok _ _ ok0.2.2 dash_ok) (by rw [slen, dl]; omega)
      · exact str_dat (sok _ _ ok0.2.2 (sok _ _ dash_ok dash_ok)) (by rw [slen, slen, dl]; omega)
      · exact ⟨by simp, fun _ h => nomatch h⟩
      · exact ⟨by simp, fun _ h => nomatch h⟩
      · exact eW_dat hk hw (by omega)
      · exact eR_dat (by omega)
    generalize hpo : ([.int 0, .int 1, .int 2, .int 3, .bool true, .none, .str (Str.ofString ""), .str dash, .str (Str.ofString "zz"), .str r0.1, .str (r0.1 ++ dash), .str (r0.1 ++ (dash ++ dash)), .tuple [], .list [], eW w, eR r] : List D) = pool at hpool ⊢
    have pool0 : pool ≠ [] := by rw [← hpo]; simp
    have pooll : pool.length < 1000 := by rw [← hpo]; simp
    have dw : dat 100 1 (eW w) := eW_dat hk hw (by omega)
    have dp := pl_dat hk hpx (by omega)
    have dr : dat 100 1 (eR r) := eR_dat (by omega)
    refine for_id (fun j s => ∃ (u' : D) (y6 y7 y11 y12 : Option B), s = [some (.lent u'), some (.val (.int (i : Int))), some (.val (eB k)), some (.val (.tuple (pl.map pE))), y4, some (.val (.list pool)), y6, y7, some (.val (eW w)), some (.val (eR r)), some (.val (.str r0.1)), y11, y12] ∧ isLent y6 = false ∧ isLent y7 = false ∧ isLent y11 = false ∧ isLent y12 = false ∧ Urn (N + 10000 * i + 3000 + 50 * j) u') ?_ ?_ ?_
    · exact ⟨_, _, _, _, _, rfl, p.2.2.2.2.2.1, p.2.2.2.2.2.2.1, p.2.2.2.2.2.2.2.2.2.2.1, p.2.2.2.2.2.2.2.2.2.2.2, hu8.mono (by omega)⟩
    · rintro j mt s hj ⟨u9, y6, y7, y11, y12, rfl, p6, p7, p11, p12, hu9⟩
      have hj3 : j < 3 := (List.getElem?_eq_some_iff.mp hj).1
      obtain ⟨ys, rfl, dm⟩ : ∃ ys, mt = .tuple ys ∧ dat 100 3 (.tuple ys) := by
        have hm := List.mem_of_getElem? hj
        simp only [List.mem_cons, List.not_mem_nil, or_false] at hm
        rcases hm with rfl | rfl | rfl
        · exact ⟨_, rfl, dat_mono (by omega) (by omega) dw⟩
        · exact ⟨_, rfl, dp⟩
        · exact ⟨_, rfl, dat_mono (by omega) (by omega) dr⟩
      dsimp? [p6, S__law_right_2]
      refine Wc.mono (w_spoilt 3 (n := n - 1) (by omega) hu9 (by omega) (by omega) (by omega) dm hpool pool0 pooll) ?_
      rintro sp _ ⟨u10, rfl, dsp, hu10⟩
      dsimp?
      refine for_id (fun j2 s => ∃ (y7 y11 y12 : Option B), s = [some (.lent u10), some (.val (.int (i : Int))), some (.val (eB k)), some (.val (.tuple (pl.map pE))), y4, some (.val (.list pool)), some (.val (.tuple ys)), y7, some (.val (eW w)), some (.val (eR r)), some (.val (.str r0.1)), y11, y12] ∧ isLent y7 = false ∧ isLent y11 = false ∧ isLent y12 = false) ⟨_, _, _, rfl, p7, p11, p12⟩ ?_ ?_
      · rintro j2 d s hj2 ⟨z7, z11, z12, rfl, p7, p11, p12⟩
        have dd : dat 200 10 d := by
          have hd := List.mem_of_getElem? hj2
          simp only [List.mem_cons, List.not_mem_nil, or_false] at hd
          rcases hd with rfl | rfl | rfl
          · exact dat_mono (by omega) (by omega) dm
          · exact dat_mono (by omega) (by omega) dsp
          · exact dat_mono (by omega) (by omega) (lst_dat dm)
        dsimp? [p11]
        refine w_part (by omega) hk dd p7 p12 fun v7 v12 q7 q12 => ?_
        dsimp?
        exact ⟨_, _, _, rfl, q7, rfl, q12⟩
      · rintro s ⟨z7, z11, z12, rfl, p7, p11, p12⟩
        dsimp?
        exact ⟨_, _, _, _, _, rfl, rfl, p7, p11, p12, hu10.mono (by omega)⟩
    rintro s ⟨u9, y6, y7, y11, y12, rfl, p6, p7, p11, p12, hu9⟩
    have hu9 : Urn (N + 10000 * i + 3000 + 50 * 3) u9 := hu9
    dsimp?
    refine Wc_eq (s_is_word (n := n - 1) (by omega) (boxed_e k) hk (by omega) dw) ?_
    dsimp?
    refine Wc_eq (s_is_program (n := n - 1) (by omega) (boxed_e k) hk (by omega) dp) ?_
    dsimp?
    refine Wc_eq (s_is_row (n := n - 1) (by omega) (boxed_e k) (by omega) dr) ?_
    obtain ⟨rl2, e2, hrl2m⟩ : ∃ rl2, opIx (.tuple (k.rows.map rowE)) (.int (-1)) = some (rowE rl2) ∧ rl2 ∈ k.rows := by
      refine ⟨k.rows.getLast hne, ?_, List.getLast_mem hne⟩
      show L2.atI (k.rows.map rowE) (-1) = _
      conv => lhs; rw [← List.dropLast_concat_getLast hne]
      rw [List.map_append]
      exact atI_last
    have okl := hk.nm rl2 hrl2m
    have e3 : opIx (rowE rl2) (.int 0) = some (.str rl2.1) := rfl
    have dW : isW k (eW w) = true := by
      refine List.all_eq_true.mpr fun x hx => ?_
      obtain ⟨d, hd, rfl⟩ := List.mem_map.mp hx
      have hdk := hw d hd
      have ok := note_ok hk hdk
      show isD k (.str (dS d)) = true
      have : noteS (dS d) = d.1 := by
        cases h2 : d.2 with
        | false =>
          have e : dS d = d.1 := by unfold dS; rw [h2]; rfl
          rw [e]
          exact noteS_f (note_noend hk hdk)
        | true =>
          have e : dS d = d.1 ++ dash := by unfold dS; rw [h2]; rfl
          rw [noteS_t (by rw [ends_dash d ok, h2]), e, cut_dash]
      rw [isD_str, this]
      exact decide_eq_true hdk
    have allW : ∀ v : List Dd, okWd k v → isW k (eW v) = true := by
      intro v hv
      refine List.all_eq_true.mpr fun x hx => ?_
      obtain ⟨d, hd, rfl⟩ := List.mem_map.mp hx
      have hdk := hv d hd
      have ok := note_ok hk hdk
      show isD k (.str (dS d)) = true
      have : noteS (dS d) = d.1 := by
        cases h2 : d.2 with
        | false =>
          have e : dS d = d.1 := by unfold dS; rw [h2]; rfl
          rw [e]
          exact noteS_f (note_noend hk hdk)
        | true =>
          have e : dS d = d.1 ++ dash := by unfold dS; rw [h2]; rfl
          rw [noteS_t (by rw [ends_dash d ok, h2]), e, cut_dash]
      rw [isD_str, this]
      exact decide_eq_true hdk
    have dP : isP k (.tuple (pl.map pE)) = true := by
      refine List.all_eq_true.mpr fun x hx => ?_
      obtain ⟨q, hq, rfl⟩ := List.mem_map.mp hx
      show (isW k (eW q.1) && isNum (.int q.2)) = true
      rw [allW q.1 (hpx q hq).1]
      rfl
    have dR : isRw k (eR r) = true := by
      refine List.all_eq_true.mpr fun x hx => ?_
      obtain ⟨d, hd, rfl⟩ := List.mem_map.mp hx
      have := hr d hd
      show (decide (0 ≤ (d : Int)) && decide ((d : Int) < (k.b : Int))) = true
      rw [decide_eq_true (by omega), decide_eq_true (by omega)]
      rfl
    have dD' : isD k (.str (rl2.1 ++ dash)) = true := by
      have h := allW [(rl2.1, true)] (fun d hd => by rw [List.mem_singleton.mp hd]; exact List.mem_map.mpr ⟨rl2, hrl2m, rfl⟩)
      have h2 := List.all_eq_true.mp h (.str (rl2.1 ++ dash)) List.mem_cons_self
      exact h2
    dsimp? [p7, ix1, e2, e3, add_dash rl2.1 okl.2.1, dash_eq, dW, dP, dR]
    refine Wc_eq (s_is_deed (n := n - 1) (by omega) (boxed_e k) hk (L := 100) (m := 1) (str_dat (sok _ _ okl.2.2 dash_ok) (by rw [slen, dl]; have := okl.2.1; omega))) ?_
    have a4 : opAdd (.list [.bool true, .bool true, .bool true]) (.list [.bool true]) = some (.list [.bool true, .bool true, .bool true, .bool true]) := rfl
    have m4 : opMul (.list [.bool true]) (.int 4) = some (.list [.bool true, .bool true, .bool true, .bool true]) := rfl
    rw [dD']
    dsimp? [a4, m4]
    refine Wc_eq (s_same 1 _ (n - 1) (by omega) (lst_flat (by rw [sl_eq]; simp) (by
      intro x hx
      simp only [List.mem_cons, List.not_mem_nil, or_false] at hx
      rcases hx with rfl | rfl | rfl | rfl <;> trivial)) (by omega)) ?_
    dsimp?
    exact ⟨_, _, _, _, _, _, _, _, _, _, _, _, _, rfl, by simp [p4, p6, p11, p12], hu9.mono (by omega)⟩
  · rintro s ⟨u', x1, x2, x3, x4, x5, x6, x7, x8, x9, x10, x11, x12, rfl, p, hu'⟩
    dsimp?
    exact ⟨_, rfl⟩
end
end L01

namespace L01
open PySem FC
def isTrue : Option (D × List D) → Bool
  | some (.bool true, []) => true
  | _ => false
theorem isTrue_eq {x : Option (D × List D)} (h : isTrue x = true) : x = some (.bool true, []) := by
  match x, h with
  | some (.bool true, []), _ => rfl
theorem w_law {n : Nat} (hn : 2 ≤ n) (hr : ∀ u, Urn 0 u → Wc (run tf wf (n - 1) x__law_right [u]) fun r ls => ∃ u', r = .bool true ∧ ls = [u']) (ns : List Int) : Wc (run tf wf n x_law [.list (ns.map .int)]) fun r ls => r = .bool true ∧ ls = [] := by
  refine fn_rule at_law (by omega) rfl ?_
  obtain ⟨ms, e1, h0, h1⟩ := s_cells (n := n - 1) (by omega) (ns := ns) (m := 3) (by omega) (by omega)
  dsimp? [I_law, B_law]
  refine Wc_eq e1 ?_
  dsimp? [E_law_0]
  refine ⟨small_nat (by omega), comp_rg (fun i acc s => ∃ x2 : Option B, acc = List.replicate i (.bool true) ∧ s = [some (.val (.list (ns.map .int))), some (.val (.list (ms.map .int))), x2]) (by dsimp?) (by rw [sl_eq]; omega) ⟨none, rfl, rfl⟩ ?_ ?_⟩
  · rintro i acc s hi ⟨x2, rfl, rfl⟩
    obtain ⟨u, e2, hu⟩ := s_box (n := n - 1) (by omega) (ns := ms) (k := i)
    have hu2 : newObj u = true := by obtain ⟨a, b, c, rfl, _⟩ := hu; rfl
    dsimp?
    refine Wc_eq e2 ?_
    dsimp? [hu2]
    refine Wc.mono (hr u hu) ?_
    rintro _ _ ⟨u', rfl, rfl⟩
    dsimp?
    exact ⟨_, by rw [← List.replicate_succ', List.replicate_succ], rfl⟩
  · rintro ys s _ ⟨x2, rfl, rfl⟩
    have hb : ∀ m : Nat, boolsOf (List.replicate m (PyData.bool true)) = some (List.replicate m true) := by
      intro m
      induction m with
      | zero => rfl
      | succ m ihm => simp [List.replicate_succ, boolsOf, ihm]
    have ha : opAll (.list (List.replicate ms.length (.bool true))) = some (.bool true) := by simp [opAll, hb]
    dsimp? [ha]
end L01

namespace L01
open PySem FC
theorem s_hand : run tf wf 58 x__law_hand_right [] = some (.bool true, []) := isTrue_eq (by decide +kernel)
theorem runs : ∀ ns : List Int, ns.length ≤ 63 → run tf wf 60 x_law [.list (ns.map .int)] = some (.bool true, []) := fun ns _ =>
  (w_law (n := 60) (by decide) (fun u hu => w_right (by decide) s_hand hu (by decide)) ns).eq
end L01

namespace L01
open PySem PySem.Spec PyProof.Rows L2 FC
def top (i : Nat) : Stmt := PySem.Challenge.pw_facechains_k01_deeds_words_programs_and.main.body.getD i (.Pass ⟨0, 0, 0, 0⟩)
def f_is_number : Df := { t := { sg := { name := "is_number", ps := ["value"], modes := [false], own := false, kws := [] }, fi := I_is_number, N := ["value"], sc := defScope (top 3), body := defBody (top 3) }, ps := defArgs (top 3) }
def f_notes : Df := { t := { sg := { name := "notes", ps := ["box"], modes := [false], own := false, kws := [] }, fi := I_notes, N := ["box", "row"], sc := defScope (top 4), body := defBody (top 4) }, ps := defArgs (top 4) }
def f_note_of : Df := { t := { sg := { name := "note_of", ps := ["deed"], modes := [false], own := false, kws := [] }, fi := I_note_of, N := ["deed"], sc := defScope (top 5), body := defBody (top 5) }, ps := defArgs (top 5) }
def f_is_deed : Df := { t := { sg := { name := "is_deed", ps := ["box", "thing"], modes := [false, false], own := false, kws := [(0, ["box", "thing"], [0, 1])] }, fi := I_is_deed, N := ["box", "thing"], sc := defScope (top 6), body := defBody (top 6) }, ps := defArgs (top 6) }
def f_is_word : Df := { t := { sg := { name := "is_word", ps := ["box", "thing"], modes := [false, false], own := false, kws := [(0, ["box", "thing"], [0, 1])] }, fi := I_is_word, N := ["box", "thing", "part"], sc := defScope (top 7), body := defBody (top 7) }, ps := defArgs (top 7) }
def f_is_program : Df := { t := { sg := { name := "is_program", ps := ["box", "thing"], modes := [false, false], own := false, kws := [(0, ["box", "thing"], [0, 1])] }, fi := I_is_program, N := ["box", "thing", "part"], sc := defScope (top 8), body := defBody (top 8) }, ps := defArgs (top 8) }
def f_is_row : Df := { t := { sg := { name := "is_row", ps := ["box", "thing"], modes := [false, false], own := false, kws := [(0, ["box", "thing"], [0, 1])] }, fi := I_is_row, N := ["box", "thing", "face"], sc := defScope (top 9), body := defBody (top 9) }, ps := defArgs (top 9) }
def f__law_box : Df := { t := { sg := { name := "_law_box", ps := ["_law_script", "_law_k"], modes := [false, false], own := true, kws := [] }, fi := I__law_box, N := ["_law_script", "_law_k", "_law_cell"], sc := defScope (top 11), body := defBody (top 11) }, ps := defArgs (top 11) }
def f__law_take : Df := { t := { sg := { name := "_law_take", ps := ["_law_urn", "_law_below"], modes := [true, false], own := false, kws := [] }, fi := I__law_take, N := ["_law_urn", "_law_below", "_law_once", "_law_far", "_law_twice", "_law_digit_so"], sc := defScope (top 12), body := defBody (top 12) }, ps := defArgs (top 12) }
def f__law_cells : Df := { t := { sg := { name := "_law_cells", ps := ["_law_script", "_law_most"], modes := [false, false], own := false, kws := [] }, fi := I__law_cells, N := ["_law_script", "_law_most", "_law_cells_here", "_law_k", "_law_cell", "_law_at_so"], sc := defScope (top 13), body := defBody (top 13) }, ps := defArgs (top 13) }
def f__law_of : Df := { t := { sg := { name := "_law_of", ps := ["_law_urn", "_law_some"], modes := [true, false], own := false, kws := [] }, fi := I__law_of, N := ["_law_urn", "_law_some"], sc := defScope (top 14), body := defBody (top 14) }, ps := defArgs (top 14) }
def f__law_pick : Df := { t := { sg := { name := "_law_pick", ps := ["_law_urn", "_law_pool", "_law_size_so"], modes := [true, false, false], own := false, kws := [] }, fi := I__law_pick, N := ["_law_urn", "_law_pool", "_law_size_so", "_law_turn", "_law_rest", "_law_some"], sc := defScope (top 15), body := defBody (top 15) }, ps := defArgs (top 15) }
def f__law_lists : Df := { t := { sg := { name := "_law_lists", ps := ["_law_matter"], modes := [false], own := false, kws := [] }, fi := I__law_lists, N := ["_law_matter", "_law_bit"], sc := defScope (top 16), body := defBody (top 16) }, ps := defArgs (top 16) }
def f__law_same : Df := { t := { sg := { name := "_law_same", ps := ["_law_got", "_law_due"], modes := [false, false], own := false, kws := [] }, fi := I__law_same, N := ["_law_got", "_law_due", "_law_own", "_law_mine", "_law_its"], sc := defScope (top 17), body := defBody (top 17) }, ps := defArgs (top 17) }
def f__law_turning : Df := { t := { sg := { name := "_law_turning", ps := ["_law_urn", "_law_many"], modes := [true, false], own := false, kws := [] }, fi := I__law_turning, N := ["_law_urn", "_law_many"], sc := defScope (top 18), body := defBody (top 18) }, ps := defArgs (top 18) }
def f__law_kit : Df := { t := { sg := { name := "_law_kit", ps := ["_law_urn", "_law_most"], modes := [true, false], own := false, kws := [] }, fi := I__law_kit, N := ["_law_urn", "_law_most", "_law_many", "_law_tags", "_law_sorts", "_law_found", "_law_kit_here", "_law_k", "_law_tag", "_law_ends_so", "_law_pool", "_law_sent_so", "_law_j", "_law_spot"], sc := defScope (top 19), body := defBody (top 19) }, ps := defArgs (top 19) }
def f__law_breath : Df := { t := { sg := { name := "_law_breath", ps := ["_law_kit_here", "_law_tag"], modes := [false, false], own := false, kws := [] }, fi := I__law_breath, N := ["_law_kit_here", "_law_tag", "_law_turn", "_law_most", "_law_counts", "_law_wider", "_law_own", "_law_far"], sc := defScope (top 20), body := defBody (top 20) }, ps := defArgs (top 20) }
def f__law_known_kit : Df := { t := { sg := { name := "_law_known_kit", ps := ["_law_urn"], modes := [true], own := false, kws := [] }, fi := I__law_known_kit, N := ["_law_urn", "_law_kits", "_law_pegs_so", "_law_kit_here", "_law_turning_here", "_law_found", "_law_tag", "_law_faces_so", "_law_sent_so", "_law_there", "_law_k", "_law_own"], sc := defScope (top 21), body := defBody (top 21) }, ps := defArgs (top 21) }
def f__law_deeds : Df := { t := { sg := { name := "_law_deeds", ps := ["_law_urn", "_law_kit_here", "_law_most"], modes := [true, false, false], own := false, kws := [] }, fi := I__law_deeds, N := ["_law_urn", "_law_kit_here", "_law_most", "_law_turn", "_law_found", "_law_left", "_law_tag", "_law_size_so"], sc := defScope (top 22), body := defBody (top 22) }, ps := defArgs (top 22) }
def f__law_line : Df := { t := { sg := { name := "_law_line", ps := ["_law_urn", "_law_kit_here", "_law_size_so"], modes := [true, false, false], own := false, kws := [] }, fi := I__law_line, N := ["_law_urn", "_law_kit_here", "_law_size_so", "_law_turn"], sc := defScope (top 23), body := defBody (top 23) }, ps := defArgs (top 23) }
def f__law_is_count : Df := { t := { sg := { name := "_law_is_count", ps := ["_law_matter"], modes := [false], own := false, kws := [] }, fi := I__law_is_count, N := ["_law_matter"], sc := defScope (top 24), body := defBody (top 24) }, ps := defArgs (top 24) }
def f__law_is_deed : Df := { t := { sg := { name := "_law_is_deed", ps := ["_law_kit_here", "_law_matter"], modes := [false, false], own := false, kws := [] }, fi := I__law_is_deed, N := ["_law_kit_here", "_law_matter", "_law_tags", "_law_row"], sc := defScope (top 25), body := defBody (top 25) }, ps := defArgs (top 25) }
def f__law_is_word : Df := { t := { sg := { name := "_law_is_word", ps := ["_law_kit_here", "_law_matter"], modes := [false, false], own := false, kws := [] }, fi := I__law_is_word, N := ["_law_kit_here", "_law_matter", "_law_own"], sc := defScope (top 26), body := defBody (top 26) }, ps := defArgs (top 26) }
def f__law_is_program : Df := { t := { sg := { name := "_law_is_program", ps := ["_law_kit_here", "_law_matter"], modes := [false, false], own := false, kws := [] }, fi := I__law_is_program, N := ["_law_kit_here", "_law_matter", "_law_own"], sc := defScope (top 27), body := defBody (top 27) }, ps := defArgs (top 27) }
def f__law_is_line : Df := { t := { sg := { name := "_law_is_line", ps := ["_law_kit_here", "_law_matter"], modes := [false, false], own := false, kws := [] }, fi := I__law_is_line, N := ["_law_kit_here", "_law_matter", "_law_own"], sc := defScope (top 28), body := defBody (top 28) }, ps := defArgs (top 28) }
def f__law_spoilt : Df := { t := { sg := { name := "_law_spoilt", ps := ["_law_urn", "_law_matter", "_law_pool", "_law_deep"], modes := [true, false, false, false], own := false, kws := [] }, fi := I__law_spoilt, N := ["_law_urn", "_law_matter", "_law_pool", "_law_deep", "_law_k", "_law_way_so"], sc := defScope (top 29), body := defBody (top 29) }, ps := defArgs (top 29) }
def f__law_hand_right : Df := { t := { sg := { name := "_law_hand_right", ps := [], modes := [], own := false, kws := [] }, fi := I__law_hand_right, N := ["_law_kit_here", "_law_some", "_law_own"], sc := defScope (top 30), body := defBody (top 30) }, ps := defArgs (top 30) }
def f__law_right : Df := { t := { sg := { name := "_law_right", ps := ["_law_urn"], modes := [true], own := false, kws := [] }, fi := I__law_right, N := ["_law_urn", "_law_turn", "_law_kit_here", "_law_plan", "_law_lap", "_law_pool", "_law_matter", "_law_told", "_law_word_so", "_law_line_here", "_law_first", "_law_part", "_law_due"], sc := defScope (top 31), body := defBody (top 31) }, ps := defArgs (top 31) }
def f_law : Df := { t := { sg := { name := "law", ps := ["_law_script"], modes := [false], own := false, kws := [] }, fi := I_law, N := ["_law_script", "_law_cells_here", "_law_k"], sc := defScope (top 32), body := defBody (top 32) }, ps := defArgs (top 32) }
def ds : List Df := [f_is_number, f_notes, f_note_of, f_is_deed, f_is_word, f_is_program, f_is_row, f__law_box, f__law_take, f__law_cells, f__law_of, f__law_pick, f__law_lists, f__law_same, f__law_turning, f__law_kit, f__law_breath, f__law_known_kit, f__law_deeds, f__law_line, f__law_is_count, f__law_is_deed, f__law_is_word, f__law_is_program, f__law_is_line, f__law_spoilt, f__law_hand_right, f__law_right, f_law]
def globs : List (Str × FC.D) := [("NONE", .str "-"), ("PAIR", .int 2)]
theorem tf_eq : (ds.map (·.t)).map (·.fi) = tf := rfl
end L01

namespace L01
open PySem PySem.Spec PyProof.Rows L2 FC
def nm0 : List Str := ["NONE", "PAIR", "is_number", "notes", "note_of", "is_deed", "is_word", "is_program", "is_row", "_law_box", "_law_take", "_law_cells", "_law_of", "_law_pick", "_law_lists", "_law_same", "_law_turning", "_law_kit", "_law_breath", "_law_known_kit"]
def nm1 : List Str := ["_law_deeds", "_law_line", "_law_is_count", "_law_is_deed", "_law_is_word", "_law_is_program", "_law_is_line", "_law_spoilt", "_law_hand_right", "_law_right"]
def loose : List Str := nm0 ++ nm1
theorem bo_is_number : BindOk f_is_number := by
  refine ⟨fun kV doc pm an cdv ct us hl => match us, hl with | [_], _ => rfl, ?_⟩
  intro t ht; cases ht
theorem bo_notes : BindOk f_notes := by
  refine ⟨fun kV doc pm an cdv ct us hl => match us, hl with | [_], _ => rfl, ?_⟩
  intro t ht; cases ht
theorem bo_note_of : BindOk f_note_of := by
  refine ⟨fun kV doc pm an cdv ct us hl => match us, hl with | [_], _ => rfl, ?_⟩
  intro t ht; cases ht
theorem bo_is_deed : BindOk f_is_deed := by
  refine ⟨fun kV doc pm an cdv ct us hl => match us, hl with | [_, _], _ => rfl, ?_⟩
  intro t ht
  simp only [f_is_deed, List.mem_cons, List.not_mem_nil, or_false] at ht
  subst ht
  exact fun kV doc pm an cdv ct us ws h1 h2 => match us, ws, h1, h2 with | [], [_, _], _, _ => rfl
theorem bo_is_word : BindOk f_is_word := by
  refine ⟨fun kV doc pm an cdv ct us hl => match us, hl with | [_, _], _ => rfl, ?_⟩
  intro t ht
  simp only [f_is_word, List.mem_cons, List.not_mem_nil, or_false] at ht
  subst ht
  exact fun kV doc pm an cdv ct us ws h1 h2 => match us, ws, h1, h2 with | [], [_, _], _, _ => rfl
theorem bo_is_program : BindOk f_is_program := by
  refine ⟨fun kV doc pm an cdv ct us hl => match us, hl with | [_, _], _ => rfl, ?_⟩
  intro t ht
  simp only [f_is_program, List.mem_cons, List.not_mem_nil, or_false] at ht
  subst ht
  exact fun kV doc pm an cdv ct us ws h1 h2 => match us, ws, h1, h2 with | [], [_, _], _, _ => rfl
theorem bo_is_row : BindOk f_is_row := by
  refine ⟨fun kV doc pm an cdv ct us hl => match us, hl with | [_, _], _ => rfl, ?_⟩
  intro t ht
  simp only [f_is_row, List.mem_cons, List.not_mem_nil, or_false] at ht
  subst ht
  exact fun kV doc pm an cdv ct us ws h1 h2 => match us, ws, h1, h2 with | [], [_, _], _, _ => rfl
theorem bo__law_box : BindOk f__law_box := by
  refine ⟨fun kV doc pm an cdv ct us hl => match us, hl with | [_, _], _ => rfl, ?_⟩
  intro t ht; cases ht
theorem bo__law_take : BindOk f__law_take := by
  refine ⟨fun kV doc pm an cdv ct us hl => match us, hl with | [_, _], _ => rfl, ?_⟩
  intro t ht; cases ht
theorem bo__law_cells : BindOk f__law_cells := by
  refine ⟨fun kV doc pm an cdv ct us hl => match us, hl with | [_, _], _ => rfl, ?_⟩
  intro t ht; cases ht
theorem bo__law_of : BindOk f__law_of := by
  refine ⟨fun kV doc pm an cdv ct us hl => match us, hl with | [_, _], _ => rfl, ?_⟩
  intro t ht; cases ht
theorem bo__law_pick : BindOk f__law_pick := by
  refine ⟨fun kV doc pm an cdv ct us hl => match us, hl with | [_, _, _], _ => rfl, ?_⟩
  intro t ht; cases ht
theorem bo__law_lists : BindOk f__law_lists := by
  refine ⟨fun kV doc pm an cdv ct us hl => match us, hl with | [_], _ => rfl, ?_⟩
  intro t ht; cases ht
theorem bo__law_same : BindOk f__law_same := by
  refine ⟨fun kV doc pm an cdv ct us hl => match us, hl with | [_, _], _ => rfl, ?_⟩
  intro t ht; cases ht
theorem bo__law_turning : BindOk f__law_turning := by
  refine ⟨fun kV doc pm an cdv ct us hl => match us, hl with | [_, _], _ => rfl, ?_⟩
  intro t ht; cases ht
theorem bo__law_kit : BindOk f__law_kit := by
  refine ⟨fun kV doc pm an cdv ct us hl => match us, hl with | [_, _], _ => rfl, ?_⟩
  intro t ht; cases ht
theorem bo__law_breath : BindOk f__law_breath := by
  refine ⟨fun kV doc pm an cdv ct us hl => match us, hl with | [_, _], _ => rfl, ?_⟩
  intro t ht; cases ht
theorem bo__law_known_kit : BindOk f__law_known_kit := by
  refine ⟨fun kV doc pm an cdv ct us hl => match us, hl with | [_], _ => rfl, ?_⟩
  intro t ht; cases ht
theorem bo__law_deeds : BindOk f__law_deeds := by
  refine ⟨fun kV doc pm an cdv ct us hl => match us, hl with | [_, _, _], _ => rfl, ?_⟩
  intro t ht; cases ht
theorem bo__law_line : BindOk f__law_line := by
  refine ⟨fun kV doc pm an cdv ct us hl => match us, hl with | [_, _, _], _ => rfl, ?_⟩
  intro t ht; cases ht
theorem bo__law_is_count : BindOk f__law_is_count := by
  refine ⟨fun kV doc pm an cdv ct us hl => match us, hl with | [_], _ => rfl, ?_⟩
  intro t ht; cases ht
theorem bo__law_is_deed : BindOk f__law_is_deed := by
  refine ⟨fun kV doc pm an cdv ct us hl => match us, hl with | [_, _], _ => rfl, ?_⟩
  intro t ht; cases ht
theorem bo__law_is_word : BindOk f__law_is_word := by
  refine ⟨fun kV doc pm an cdv ct us hl => match us, hl with | [_, _], _ => rfl, ?_⟩
  intro t ht; cases ht
theorem bo__law_is_program : BindOk f__law_is_program := by
  refine ⟨fun kV doc pm an cdv ct us hl => match us, hl with | [_, _], _ => rfl, ?_⟩
  intro t ht; cases ht
theorem bo__law_is_line : BindOk f__law_is_line := by
  refine ⟨fun kV doc pm an cdv ct us hl => match us, hl with | [_, _], _ => rfl, ?_⟩
  intro t ht; cases ht
theorem bo__law_spoilt : BindOk f__law_spoilt := by
  refine ⟨fun kV doc pm an cdv ct us hl => match us, hl with | [_, _, _, _], _ => rfl, ?_⟩
  intro t ht; cases ht
theorem bo__law_hand_right : BindOk f__law_hand_right := by
  refine ⟨fun kV doc pm an cdv ct us hl => match us, hl with | [], _ => rfl, ?_⟩
  intro t ht; cases ht
theorem bo__law_right : BindOk f__law_right := by
  refine ⟨fun kV doc pm an cdv ct us hl => match us, hl with | [_], _ => rfl, ?_⟩
  intro t ht; cases ht
theorem bo_law : BindOk f_law := by
  refine ⟨fun kV doc pm an cdv ct us hl => match us, hl with | [_], _ => rfl, ?_⟩
  intro t ht; cases ht
theorem bos : ∀ x ∈ ds, BindOk x := by
  intro x hx
  simp only [ds, List.mem_cons, List.not_mem_nil, or_false] at hx
  rcases hx with rfl | rfl | rfl | rfl | rfl | rfl | rfl | rfl | rfl | rfl | rfl | rfl | rfl | rfl | rfl | rfl | rfl | rfl | rfl | rfl | rfl | rfl | rfl | rfl | rfl | rfl | rfl | rfl | rfl
  · exact bo_is_number
  · exact bo_notes
  · exact bo_note_of
  · exact bo_is_deed
  · exact bo_is_word
  · exact bo_is_program
  · exact bo_is_row
  · exact bo__law_box
  · exact bo__law_take
  · exact bo__law_cells
  · exact bo__law_of
  · exact bo__law_pick
  · exact bo__law_lists
  · exact bo__law_same
  · exact bo__law_turning
  · exact bo__law_kit
  · exact bo__law_breath
  · exact bo__law_known_kit
  · exact bo__law_deeds
  · exact bo__law_line
  · exact bo__law_is_count
  · exact bo__law_is_deed
  · exact bo__law_is_word
  · exact bo__law_is_program
  · exact bo__law_is_line
  · exact bo__law_spoilt
  · exact bo__law_hand_right
  · exact bo__law_right
  · exact bo_law
def fa : List He.Fa := allFa ds globs
def fn : List He.DefD := ds.map Df.d
abbrev R : PySem.W.OpenRow := PySem.W.OpenLaw.row PySem.Challenge.rw_facechains_k01_deeds_words_programs_and
abbrev hk : PySem.W.Hook := hookN 4 fa fn
def ob (s : PySem.W.SharedT) : He.AlD := obsN 4 fa fn (HandSHeadRun.getT s)
theorem ob_eq (s : PySem.W.SharedT) : ob s = hk.obs s.abs := obsN_eq (HandSHeadRun.getT_eq s)
theorem runTop (w : World) : HandSHeadRun.RunEq R (PySem.W.view R.prog [32]) hk ob 3000 loose w := by
  intro os
  kernel_rfl
theorem oks : (ds.map (·.t)).all (okFn ((ds.map (·.t)).map (·.sg)) globs) = true := by decide +kernel
end L01
open PySem PySem.W PySem.Calls PyProof.Rows
theorem PySem.Challenge.cw_facechains_k01_deeds_words_programs_and_holds : PySem.Challenge.rw_facechains_k01_deeds_words_programs_and.Holds := by
  w_on; o_law
  refine HandSHeadRun.head_any (r := OpenLaw.row PySem.Challenge.rw_facechains_k01_deeds_words_programs_and) (q := view (OpenLaw.row PySem.Challenge.rw_facechains_k01_deeds_words_programs_and).prog [32]) (H := L01.hk) (ob := L01.ob) (M := 3000) (loose := L01.loose) (d := HandSHeadRun.topDef (OpenLaw.row PySem.Challenge.rw_facechains_k01_deeds_words_programs_and).prog 32) (kwd := []) L01.ob_eq
    (by kernel_rfl) (fun s => by kernel_rfl) L01.runTop (by kernel_rfl) (by kernel_rfl) (by kernel_rfl) (by rfl) (by first | assumption | decide +kernel) (by decide +kernel) ⟨rfl, rfl, rfl, rfl, rfl, by decide +kernel⟩ ?hw ?hc
  case hw => w_witness2
  case hc =>
    refine L2.walk_ofE (l := PySem.Challenge.rw_facechains_k01_deeds_words_programs_and) (n := 63) (k := 60) (x := "_law_script") (CX := L2.CX0) rfl (by decide) (by kernel_rfl) ⟨rfl, by decide, by decide⟩ ?F (fun _ _ _ _ z => z)
    intro w mg fa h Y G hmg0
    obtain ⟨K, KX, c, nl⟩ := Y
    have hmg : mg (L01.f_law).t.sg.name = some (.ref fa) := by
      have e : (HandSHeadRun.topDef (OpenLaw.row PySem.Challenge.rw_facechains_k01_deeds_words_programs_and).prog 32).name = (L01.f_law).t.sg.name := by kernel_rfl
      rw [← e]
      exact hmg0
    exact FC.law_of (ds := L01.ds) (globs := L01.globs) (i := 28) (x := L01.f_law) (wf := L01.wf) KX G hmg c nl L01.bos (by decide +kernel) L01.oks rfl rfl rfl rfl (fun ns h => by rw [L01.tf_eq]; exact L01.runs ns h)

