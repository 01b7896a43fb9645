import PyProof.Rows.All
import Wide.All
import OpenK.AllK
import Wide.FinOn
import HandS.ForMost
import HandS.IsInst
import HandS.Flow
import HandS.Style
import HandS.Conv
import HandS.Zip
import HandS.TupAny
import HandS.TupMul
import HandS.Wide
import HandS.SortInts
import HandS.Deep
import HandS.Defaults
import HandS.NoneIn
import HandS.Text
import HandS.Head0
import HandS.Head1
import HandS.Head2
import HandS.HeadEnd
import HandS.HeadHook1
import HandS.HeadHook2
import PySem.Challenge.RW_facechains_k25_words_and_programs_by_the
set_option Elab.async false
set_option linter.all false
set_option autoImplicit false
set_option maxRecDepth 100000
set_option maxHeartbeats 4000000
/-! Part 1: data, the inner language, its evaluator. -/
namespace FC
open PySem

abbrev D := PyData

/-- what a slot holds: a value; a list or dict of one's own; one that was lent by the caller -/
inductive B where
  | val (d : D) | own (d : D) | lent (d : D)
def B.d : B → D
  | .val d => d
  | .own d => d
  | .lent d => d
def B.mine : B → Bool
  | .val _ => false
  | .own _ => true
  | .lent _ => true
def B.put : B → D → B
  | .val _, d => .val d
  | .own _, d => .own d
  | .lent _, d => .lent d
abbrev S := List (Option B)
abbrev M (α : Type) := S → Option (α × S)

def fails {α : Type} : M α := fun _ => none
def gives {α : Type} (a : α) : M α := fun s => some (a, s)
def bnd {α β : Type} (m : M α) (f : α → M β) : M β := fun s =>
  match m s with
  | none => none
  | some (a, s') => f a s'
def lift {α : Type} (o : Option α) : M α := fun s =>
  match o with
  | none => none
  | some a => some (a, s)

/-- an operand: a slot that is looked at, a slot that is lent, a value, a new object -/
inductive Ar where
  | pl (i : Nat) | ln (i : Nat) | vl (d : D) | ow (d : D)

inductive Ty where
  | int | bool | str | list | tuple | dict
  deriving DecidableEq

/-- the operations on data -/
inductive Op where
  | add | sub | mul | fdiv | mod | pow | neg
  | eq | ne | lt | le | gt | ge
  | isN | notN | isB (b : Bool) | notB (b : Bool)
  | inn | notin
  | ix | sl (lo hi : Bool) | rev
  | len | abs | int | list | tuple | listR | tupleR | sorted | sum | max1 | min1 | max2 | min2 | all | any
  | isi (t : Ty) | isis (ts : List Ty)
  deriving DecidableEq

/-- methods that only read -/
inductive Mt where
  | endswith | index | get1 | get2
  deriving DecidableEq

/-- the mutations of a slot -/
inductive Mu where
  | append | extend | pop0 | pop1
  deriving DecidableEq

inductive Tg where
  | nm (i : Nat) | tp (is : List Nat)
  deriving DecidableEq

/-- expressions, lists of them, and what is walked -/
inductive Ex where
  | con (d : D)
  | glob (x : Str) (d : D)
  | var (i : Nat)
  | pk (i : Nat)
  | lend (i : Nat)
  | give (e : Ex)
  | op (o : Op) (es : Ex)
  | not (a : Ex)
  | and (a b : Ex)
  | or (a b : Ex)
  | chain (o o' : Op) (a b c : Ex)
  | ife (c a b : Ex)
  | tup (es : Ex)
  | lst (es : Ex)
  | call (f : Nat) (perm : List Nat) (es : Ex)
  | mt (m : Mt) (o es : Ex)
  | sl2 (a lo hi : Ex)
  | mu (m : Mu) (i : Nat) (es : Ex)
  | comp (e : Ex) (t : Tg) (it : Ex) (ifs : Ex)
  | comp2 (e : Ex) (t : Tg) (it : Ex) (ifs : Ex) (t1 : Tg) (it1 : Ex) (ifs1 : Ex)
  | nil
  | cons (e es : Ex)
  | itOf (e : Ex)
  | itRange (es : Ex)
  | itEnum (e : Ex)
  | itZip (es : Ex)
  | nev

inductive Fl where
  | nx | bk | ct | rt (own : Bool) (d : D)

inductive Sx where
  | set (i : Nat) (e : Ex)
  | seto (i : Nat) (e : Ex)
  | par (is : List Nat) (es : Ex)
  | unp (is : List Nat) (e : Ex)
  | sub (i : Nat) (k e : Ex)
  | aug (i : Nat) (o : Op) (e : Ex)
  | expr (e : Ex)
  | ret (e : Ex)
  | reto (e : Ex)
  | retv (i : Nat)
  | retn
  | ife (c : Ex) (a b : Sx)
  | for_ (t : Tg) (it : Ex) (b : Sx)
  | while_ (c : Ex) (b : Sx)
  | pass | brk | cont | nev
  | nil
  | cons (a b : Sx)

/-! ### operations on data -/
def b2n (b : Bool) : Int := if b then 1 else 0
def intsOf : List D → Option (List Int)
  | [] => some []
  | .int i :: r => (intsOf r).map (i :: ·)
  | _ :: _ => none
def strsOf : List D → Option (List Str)
  | [] => some []
  | .str i :: r => (strsOf r).map (i :: ·)
  | _ :: _ => none
def boolsOf : List D → Option (List Bool)
  | [] => some []
  | .bool i :: r => (boolsOf r).map (i :: ·)
  | _ :: _ => none
def strLe (a b : Str) : Bool := !(decide (b.cps.toList < a.cps.toList))
def sortI (ns : List Int) : List Int := ns.mergeSort fun a b => decide (a ≤ b)
def sortS (ns : List Str) : List Str := ns.mergeSort strLe
def mulOk (i j : Int) : Bool := (decide (-(2 ^ 64) < i) && decide (i < 2 ^ 64)) || (decide (-(2 ^ 64) < j) && decide (j < 2 ^ 64)) || decide (i.natAbs.log2 + j.natAbs.log2 < 1000000)
def cutD {α : Type} (xs : List α) (lo hi : Option Int) : List α := (xs.drop (HT.sIx xs.length 0 lo)).take (HT.sIx xs.length xs.length hi - HT.sIx xs.length 0 lo)
def keyOf : D → Option (Sum Int Str)
  | .int i => some (.inl i)
  | .str x => some (.inr x)
  | _ => none
def ofKey : Sum Int Str → D
  | .inl i => .int i
  | .inr x => .str x
def maxOf : List Int → Option Int
  | [] => none
  | x :: r => some (r.foldl (fun a b => if b > a then b else a) x)
def minOf : List Int → Option Int
  | [] => none
  | x :: r => some (r.foldl (fun a b => if b < a then b else a) x)
def sh (d : D) : Bool := SeqAt.shaped d
def isTy : Ty → D → Bool
  | .int, .int _ => true
  | .int, .bool _ => true
  | .bool, .bool _ => true
  | .str, .str _ => true
  | .list, .list _ => true
  | .tuple, .tuple _ => true
  | .dict, .dict _ => true
  | _, _ => false
def rgD (n : Int) : List D := (List.range n.toNat).map fun i => PyData.int (0 + (i : Nat))
def rgD2 (a b : Int) : List D := (List.range (b - a).toNat).map fun i => PyData.int (a + (i : Nat))
def smallI (n : Int) : Bool := decide (-(2 ^ 62) ≤ n) && decide (n < 2 ^ 62)
def findD (d : D) : List D → Option Nat
  | [] => none
  | z :: r => if PyData.eqv z d then some 0 else (findD d r).map (· + 1)

def opAdd : D → D → Option D
  | .int i, .int j => some (.int (i + j))
  | .str x, .str y => if x.length + y.length ≤ sizeLine then some (.str (x ++ y)) else none
  | .list xs, .list ys => if xs.length + ys.length ≤ sizeLine then some (.list (xs ++ ys)) else none
  | .tuple xs, .tuple ys => if xs.length + ys.length ≤ sizeLine then some (.tuple (xs ++ ys)) else none
  | _, _ => none
def opMul : D → D → Option D
  | .int i, .int j => if mulOk i j then some (.int (i * j)) else none
  | .list xs, .int k => if smallI k && decide (xs.length * k.toNat ≤ sizeLine) then some (.list (List.replicate k.toNat xs).flatten) else none
  | .tuple xs, .int k => if decide (-(2 ^ 62) ≤ k) && decide (k ≤ 1000) && decide (xs.length ≤ 1000) then some (.tuple (List.replicate k.toNat xs).flatten) else none
  | _, _ => none
def opIx : D → D → Option D
  | .list xs, .int i => L2.atI xs i
  | .tuple xs, .int i => L2.atI xs i
  | .str z, .int i => if z.length ≤ sizeLine then (L2.atI z.cps.toList i).map fun c => .str ⟨#[c]⟩ else none
  | _, _ => none
def opSl (lo hi : Option Int) : D → Option D
  | .list xs => some (.list (cutD xs lo hi))
  | .tuple xs => some (.tuple (cutD xs lo hi))
  | .str z => if z.length ≤ sizeLine then some (.str (L2.cutS z lo hi)) else none
  | _ => none
def opIn (x : D) : D → Option Bool
  | .list ds => if sh x && sh (.list ds) then some (ds.any fun z => PyData.eqv z x) else none
  | .str z => match x with
    | .str y => some (!(Builtin.Str.occurrences z y 0 z.length 1).isEmpty)
    | _ => none
  | _ => none
def intD : D → Option Int
  | .int i => some i
  | _ => none

def isNone : D → Bool
  | .none => true
  | _ => false
def opSub : D → D → Option D
  | .int i, .int j => some (.int (i - j))
  | _, _ => none
def opFdiv : D → D → Option D
  | .int i, .int j => if decide (0 < j) && decide (j.natAbs.log2 < 9000) then some (.int (i / j)) else none
  | _, _ => none
def opMod : D → D → Option D
  | .int i, .int j => if decide (0 < j) then some (.int (i % j)) else none
  | _, _ => none
def opPow : D → D → Option D
  | .int i, .int j => if decide (0 ≤ j) && decide (j ≤ 1000000) && decide (i.natAbs < 2 ^ 64) then some (.int (i ^ j.toNat)) else none
  | _, _ => none
def opNeg : D → Option D
  | .int i => some (.int (-i))
  | _ => none
def opLt : D → D → Option D
  | .int i, .int j => some (.bool (decide (i < j)))
  | .str x, .str y => some (.bool (decide (x.cps.toList < y.cps.toList)))
  | _, _ => none
def opLe : D → D → Option D
  | .int i, .int j => some (.bool (decide (i ≤ j)))
  | _, _ => none
def opIsB (b : Bool) : D → Option D
  | .bool a => some (.bool (decide (a = b)))
  | _ => none
def opNotB (b : Bool) : D → Option D
  | .bool a => some (.bool (!decide (a = b)))
  | _ => none
def opSl1 (hi : Bool) (a : D) : D → Option D
  | .int i => if hi then opSl none (some i) a else opSl (some i) none a
  | _ => none
def opRev : D → Option D
  | .list xs => some (.list xs.reverse)
  | .tuple xs => some (.tuple xs.reverse)
  | _ => none
def opLen : D → Option D
  | .list xs => some (.int xs.length)
  | .tuple xs => some (.int xs.length)
  | .str z => if z.length ≤ sizeLine then some (.int z.length) else none
  | .dict kvs => some (.int kvs.length)
  | _ => none
def opAbs : D → Option D
  | .int i => some (.int (if i < 0 then -i else i))
  | _ => none
def opInt : D → Option D
  | .int i => some (.int i)
  | .bool k => some (.int (if k then 1 else 0))
  | _ => none
def opList : D → Option D
  | .list xs => some (.list xs)
  | .tuple xs => some (.list xs)
  | .dict kvs => some (.list (kvs.map (·.1)))
  | _ => none
def opTuple : D → Option D
  | .list xs => some (.tuple xs)
  | .tuple xs => some (.tuple xs)
  | _ => none
def opListR : D → Option D
  | .int n => if smallI n && decide (n.toNat ≤ 2 ^ 24) then some (.list (rgD n)) else none
  | _ => none
def opTupleR : D → Option D
  | .int n => if smallI n && decide (n.toNat ≤ 2 ^ 24) then some (.tuple (rgD n)) else none
  | _ => none
def opSorted : D → Option D
  | .list xs => match intsOf xs with
    | some ns => some (.list ((sortI ns).map .int))
    | none => match strsOf xs with
      | some zs => if zs.length < 64 then some (.list ((sortS zs).map .str)) else none
      | none => none
  | _ => none
def opSum : D → Option D
  | .list xs => match intsOf xs with
    | some ns => some (.int ns.sum)
    | none => none
  | _ => none
def opMax1 : D → Option D
  | .list xs => match intsOf xs with
    | some ns => (maxOf ns).map .int
    | none => none
  | _ => none
def opMin1 : D → Option D
  | .list xs => match intsOf xs with
    | some ns => (minOf ns).map .int
    | none => none
  | _ => none
def opMax2 : D → D → Option D
  | .int i, .int j => some (.int (if j > i then j else i))
  | _, _ => none
def opMin2 : D → D → Option D
  | .int i, .int j => some (.int (if j < i then j else i))
  | _, _ => none
def opAll : D → Option D
  | .list xs => match boolsOf xs with
    | some bs => some (.bool (bs.all id))
    | none => none
  | _ => none
def opAny : D → Option D
  | .list xs => match boolsOf xs with
    | some bs => some (.bool (bs.any id))
    | none => none
  | _ => none
def opEndswith : D → D → Option D
  | .str a, .str b => some (.bool (Txt.endswith a b))
  | _, _ => none
def opIndex : D → D → Option D
  | .list ds, d => if sh (.list ds) && sh d then (findD d ds).map fun j => .int (j : Nat) else none
  | _, _ => none
def op1 : Op → D → Option D
  | .neg, a => opNeg a
  | .isN, a => some (.bool (isNone a))
  | .notN, a => some (.bool (!isNone a))
  | .isB b, a => opIsB b a
  | .notB b, a => opNotB b a
  | .sl false false, a => opSl none none a
  | .rev, a => opRev a
  | .len, a => opLen a
  | .abs, a => opAbs a
  | .int, a => opInt a
  | .list, a => opList a
  | .tuple, a => opTuple a
  | .listR, a => opListR a
  | .tupleR, a => opTupleR a
  | .sorted, a => opSorted a
  | .sum, a => opSum a
  | .max1, a => opMax1 a
  | .min1, a => opMin1 a
  | .all, a => opAll a
  | .any, a => opAny a
  | .isi t, a => some (.bool (isTy t a))
  | .isis ts, a => some (.bool (ts.any fun t => isTy t a))
  | _, _ => none
def op2 : Op → D → D → Option D
  | .add, a, b => opAdd a b
  | .sub, a, b => opSub a b
  | .mul, a, b => opMul a b
  | .fdiv, a, b => opFdiv a b
  | .mod, a, b => opMod a b
  | .pow, a, b => opPow a b
  | .eq, a, b => if sh a && sh b then some (.bool (PyData.eqv a b)) else none
  | .ne, a, b => if sh a && sh b then some (.bool (!PyData.eqv a b)) else none
  | .lt, a, b => opLt a b
  | .le, a, b => opLe a b
  | .gt, .int i, .int j => some (.bool (decide (j < i)))
  | .ge, .int i, .int j => some (.bool (decide (j ≤ i)))
  | .inn, a, b => match opIn a b with
    | some k => some (.bool k)
    | none => none
  | .notin, a, b => match opIn a b with
    | some k => some (.bool (!k))
    | none => none
  | .ix, a, b => opIx a b
  | .sl true false, a, b => opSl1 false a b
  | .sl false true, a, b => opSl1 true a b
  | .max2, a, b => opMax2 a b
  | .min2, a, b => opMin2 a b
  | _, _, _ => none
def op3 : Op → D → D → D → Option D
  | _, _, _, _ => none
def opD (o : Op) : List D → Option D
  | [a] => op1 o a
  | [a, b] => op2 o a b
  | [a, b, c] => op3 o a b c
  | _ => none

def truD : D → Option Bool
  | .none => some false
  | .bool b => some b
  | .int i => some (i != 0)
  | .str x => if x.length ≤ sizeLine then some (x.length != 0) else none
  | .list xs => some (!xs.isEmpty)
  | .tuple xs => some (!xs.isEmpty)
  | .dict _ => none

def muD : Mu → D → List D → Option (D × D)
  | .append, .list xs, [y] => if xs.length < sizeLine then some (.none, .list (xs ++ [y])) else none
  | .extend, .list xs, [.list ys] => if xs.length + ys.length ≤ sizeLine then some (.none, .list (xs ++ ys)) else none
  | .pop0, .list xs, [] => match xs[xs.length - 1]? with
    | some y => some (y, .list xs.dropLast)
    | none => none
  | .pop1, .list xs, [.int i] => match L2.ixN xs.length i with
    | some k => match xs[k]? with
      | some y => if xs.length ≤ sizeLine then some (y, .list (xs.eraseIdx k)) else none
      | none => none
    | none => none
  | _, _, _ => none

/-- the type that a method's receiver has -/
def Mt.ty : Mt → Ty
  | .endswith => .str
  | .index => .list
  | .get1 => .dict
  | .get2 => .dict
def lookD (k : D) : List (D × D) → Option D
  | [] => none
  | (a, v) :: r => match keyOf a, keyOf k with
    | some x, some y => if x = y then some v else lookD k r
    | _, _ => none
def opGet : D → D → D → Option D
  | .dict kvs, k, x => match keyOf k with
    | some _ => some ((lookD k kvs).getD x)
    | none => none
  | _, _, _ => none
def mtD : Mt → D → List D → Option D
  | .endswith, a, [b] => opEndswith a b
  | .index, a, [b] => opIndex a b
  | .get1, a, [k] => opGet a k .none
  | .get2, a, [k, x] => opGet a k x
  | _, _, _ => none

/-! ### the state -/
def rdV (i : Nat) : M D := fun s =>
  match s[i]? with
  | some (some (.val d)) => some (d, s)
  | some (some (.own d)) => some (d, s.set i (some (.val d)))
  | _ => none
def resA (s : S) : Ar → Option D
  | .pl i => match s[i]? with
    | some (some b) => some b.d
    | _ => none
  | .ln i => match s[i]? with
    | some (some (.own d)) => some d
    | some (some (.lent d)) => some d
    | _ => none
  | .vl d => some d
  | .ow d => some d
def resAs (s : S) : List Ar → Option (List D)
  | [] => some []
  | a :: r => match resA s a, resAs s r with
    | some d, some ds => some (d :: ds)
    | _, _ => none
/-- an own or lent slot gets another content -/
def mutS (i : Nat) (d : D) (s : S) : Option S :=
  match s[i]? with
  | some (some (.own _)) => some (s.set i (some (.own d)))
  | some (some (.lent _)) => some (s.set i (some (.lent d)))
  | _ => none
/-- a slot is given a value; what was lent stays -/
def putS (i : Nat) (b : B) (s : S) : Option S :=
  match s[i]? with
  | some (some (.lent _)) => none
  | some _ => some (s.set i (some b))
  | none => none
def putAll : List (Nat × B) → S → Option S
  | [], s => some s
  | (i, b) :: r, s => match putS i b s with
    | some s' => putAll r s'
    | none => none
def itemsOf : D → Option (List D)
  | .list xs => some xs
  | .tuple xs => some xs
  | _ => none
/-- what a loop walks -/
def walkOf : D → Option (List D)
  | .list xs => some xs
  | .tuple xs => some xs
  | .str x => some (x.cps.toList.map fun c => .str ⟨#[c]⟩)
  | _ => none
def bindT (t : Tg) (d : D) (s : S) : Option S :=
  match t with
  | .nm i => putS i (.val d) s
  | .tp is => match itemsOf d with
    | some ds => if ds.length = is.length then putAll (is.zip (ds.map .val)) s else none
    | none => none
/-- what was lent comes back -/
def backS : List Ar → List D → S → Option S
  | [], [], s => some s
  | .ln i :: r, d :: ds, s => match mutS i d s with
    | some s' => backS r ds s'
    | none => none
  | .ow _ :: r, _ :: ds, s => backS r ds s
  | .vl _ :: r, ds, s => backS r ds s
  | _, _, _ => none
def permL {α : Type} (perm : List Nat) (l : List α) : Option (List α) := perm.mapM fun i => l[i]?
def Tg.slots : Tg → List Nat
  | .nm i => [i]
  | .tp is => is
def wipeS (s : S) : List Nat → S
  | [] => s
  | v :: vs => (wipeS s vs).set v none
def plainS (s : S) (v : Nat) : Bool := match s[v]? with
  | some none => true
  | some (some (.val _)) => true
  | _ => false
def restS (s0 : S) (s : S) : List Nat → S
  | [] => s
  | v :: vs => (restS s0 s vs).set v ((s0[v]?).getD none)

/-- the loop of a comprehension -/
def compLoop (t : Tg) (ifs : M Bool) (e : M D) : List D → List D → M (List D)
  | [], acc => gives acc
  | d :: ds, acc => fun s => match bindT t d (wipeS s t.slots) with
    | none => none
    | some s1 => match ifs s1 with
      | none => none
      | some (false, s2) => compLoop t ifs e ds acc s2
      | some (true, s2) => match e s2 with
        | none => none
        | some (y, s3) => if acc.length < sizeLine then compLoop t ifs e ds (acc ++ [y]) s3 else none
def compM (t : Tg) (it : M (List D)) (ifs : M Bool) (e : M D) : M D := fun s =>
  match it s with
  | none => none
  | some (ds, s1) => if t.slots.all (plainS s1) then
      match compLoop t ifs e ds [] s1 with
      | none => none
      | some (ys, s2) => some (.list ys, restS s1 s2 t.slots)
    else none

def compLoop2 (vs : List Nat) (t : Tg) (ifs : M Bool) (t1 : Tg) (it1 : M (List D)) (ifs1 : M Bool) (e : M D) : List D → List D → M (List D)
  | [], acc => gives acc
  | d :: ds, acc => fun s => match bindT t d (wipeS s vs) with
    | none => none
    | some s1 => match ifs s1 with
      | none => none
      | some (false, s2) => compLoop2 vs t ifs t1 it1 ifs1 e ds acc s2
      | some (true, s2) => match it1 s2 with
        | none => none
        | some (ds1, s3) => match compLoop t1 ifs1 e ds1 acc s3 with
          | none => none
          | some (acc', s4) => compLoop2 vs t ifs t1 it1 ifs1 e ds acc' s4
def compM2 (t : Tg) (it : M (List D)) (ifs : M Bool) (t1 : Tg) (it1 : M (List D)) (ifs1 : M Bool) (e : M D) : M D := fun s =>
  match it s with
  | none => none
  | some (ds, s1) => if (t.slots ++ t1.slots).all (plainS s1) then
      match compLoop2 (t.slots ++ t1.slots) t ifs t1 it1 ifs1 e ds [] s1 with
      | none => none
      | some (ys, s2) => some (.list ys, restS s1 s2 (t.slots ++ t1.slots))
    else none

/-! ### the evaluator -/
structure Sm where
  v : M D := fails
  t : M Bool := fails
  a : M Ar := fails
  as : M (List Ar) := fails
  it : M (List D) := fails
  ts : M Bool := fails
def mk (v : M D) : Sm := { v := v, t := bnd v fun d => lift (truD d), a := bnd v fun d => gives (.vl d) }

abbrev Calls := Nat → List D → Option (D × List D)

def enumD : Nat → List D → List D
  | _, [] => []
  | n, d :: r => .tuple [.int n, d] :: enumD (n + 1) r
def zipD : List D → List D → List D
  | a :: r, b :: q => .tuple [a, b] :: zipD r q
  | _, _ => []

def opM (o : Op) (as : M (List Ar)) : M D := bnd as fun l s => match resAs s l with
  | none => none
  | some ds => match opD o ds with
    | none => none
    | some d => some (d, s)
def callM (C : Calls) (f : Nat) (perm : List Nat) (as : M (List Ar)) : M D := bnd as fun l s => match permL perm l with
  | none => none
  | some l' => match resAs s l' with
    | none => none
    | some ds => match C f ds with
      | none => none
      | some (r, ls) => match backS l' ls s with
        | none => none
        | some s' => some (r, s')
def valsA : List Ar → Option (List D)
  | [] => some []
  | .vl d :: r => match valsA r with
    | some ds => some (d :: ds)
    | none => none
  | _ :: _ => none

def isListA (s : S) (a : Ar) (t : Ty) : Bool := match resA s a with
  | some d => isTy t d
  | none => false
def muM (m : Mu) (i : Nat) (as : M (List Ar)) : M D := fun s0 => if isListA s0 (.ln i) .list then (match as s0 with
    | none => none
    | some (l, s) => match valsA l, resA s (.ln i) with
      | some ds, some x => match muD m x ds with
        | none => none
        | some (r, x') => match mutS i x' s with
          | none => none
          | some s' => some (r, s')
      | _, _ => none) else none
def mtM (m : Mt) (o : M Ar) (as : M (List Ar)) : M D := bnd o fun a s0 => if isListA s0 a m.ty then (match as s0 with
    | none => none
    | some (l, s) => match resA s a, resAs s l with
      | some x, some ds => match mtD m x ds with
        | none => none
        | some r => some (r, s)
      | _, _ => none) else none
def newObj : D → Bool
  | .list _ => true
  | .dict _ => true
  | _ => false
def slotA (a : Ar) : M Ar := fun s => match resA s a with
  | some _ => some (a, s)
  | none => none

def sem (C : Calls) : Ex → Sm
  | .con d => mk (gives d)
  | .glob _ d => mk (gives d)
  | .var i => mk (rdV i)
  | .pk i => { a := slotA (.pl i), t := fun s => match resA s (.pl i) with
      | none => none
      | some d => match truD d with
        | none => none
        | some k => some (k, s) }
  | .lend i => { a := slotA (.ln i) }
  | .give e => { a := bnd (sem C e).v fun d => if newObj d then gives (.ow d) else fails }
  | .op o es =>
    let v := opM o (sem C es).as
    { mk v with t := bnd v fun d => lift (truD d) }
  | .not a => { mk (bnd (sem C a).v fun x => bnd (lift (truD x)) fun k => gives (.bool (!k))) with t := bnd (sem C a).t fun k => gives (!k) }
  | .and a b =>
    { mk (bnd (sem C a).v fun x => bnd (lift (truD x)) fun k => if k then (sem C b).v else gives x) with
      t := bnd (sem C a).t fun k => if k then (sem C b).t else gives false }
  | .or a b =>
    { mk (bnd (sem C a).v fun x => bnd (lift (truD x)) fun k => if k then gives x else (sem C b).v) with
      t := bnd (sem C a).t fun k => if k then gives true else (sem C b).t }
  | .chain o o' a b c =>
    mk (bnd (sem C a).v fun x => bnd (sem C b).v fun y => bnd (lift (opD o [x, y])) fun r => match r with
      | .bool true => bnd (sem C c).v fun z => lift (opD o' [y, z])
      | .bool false => gives (.bool false)
      | _ => fails)
  | .ife c a b => { mk (bnd (sem C c).t fun k => if k then (sem C a).v else (sem C b).v) with t := fails }
  | .nev => {}
  | .tup es => mk (bnd (sem C es).as fun l => bnd (lift (valsA l)) fun ds => if ds.length ≤ sizeLine then gives (.tuple ds) else fails)
  | .lst es => mk (bnd (sem C es).as fun l => bnd (lift (valsA l)) fun ds => if ds.length ≤ sizeLine then gives (.list ds) else fails)
  | .call f perm es => mk (callM C f perm (sem C es).as)
  | .mu m i es => mk (muM m i (sem C es).as)
  | .mt m o es => mk (mtM m (sem C o).a (sem C es).as)
  | .sl2 a lo hi => mk (bnd (sem C a).a fun x => bnd (sem C lo).v fun l => bnd (lift (intD l)) fun i => bnd (sem C hi).v fun h => bnd (lift (intD h)) fun j s => match resA s x with
      | none => none
      | some d => match opSl (some i) (some j) d with
        | none => none
        | some r => some (r, s))
  | .comp e t it ifs => mk (compM t (sem C it).it (sem C ifs).ts (sem C e).v)
  | .comp2 e t it ifs t1 it1 ifs1 => mk (compM2 t (sem C it).it (sem C ifs).ts t1 (sem C it1).it (sem C ifs1).ts (sem C e).v)
  | .nil => { as := gives [], ts := gives true }
  | .cons e es =>
    { as := bnd (sem C e).a fun x => bnd (sem C es).as fun l => gives (x :: l)
      ts := bnd (sem C e).t fun k => if k then (sem C es).ts else gives false }
  | .itOf e => { it := bnd (sem C e).v fun d => lift (walkOf d) }
  | .itRange es => { it := bnd (sem C es).as fun l => bnd (lift (valsA l)) fun ds => match ds with
      | [.int n] => if smallI n then gives (rgD n) else fails
      | [.int a, .int b] => if smallI a && smallI b then gives (rgD2 a b) else fails
      | _ => fails }
  | .itEnum e => { it := bnd (sem C e).v fun d => match d with
      | .list xs => gives (enumD 0 xs)
      | _ => fails }
  | .itZip es => { it := bnd (sem C es).as fun l => bnd (lift (valsA l)) fun ds => match ds with
      | [.list xs, .list ys] => gives (zipD xs ys)
      | [.tuple xs, .tuple ys] => gives (zipD xs ys)
      | _ => fails }

def forLoop (t : Tg) (b : M Fl) : List D → M Fl
  | [] => gives .nx
  | d :: ds => fun s => match bindT t d s with
    | none => none
    | some s1 => match b s1 with
      | none => none
      | some (.nx, s2) => forLoop t b ds s2
      | some (.ct, s2) => forLoop t b ds s2
      | some (.bk, s2) => some (.nx, s2)
      | some (.rt o d, s2) => some (.rt o d, s2)
def whileLoop (c : M Bool) (b : M Fl) : Nat → M Fl
  | 0 => fails
  | n + 1 => fun s => match c s with
    | none => none
    | some (false, s1) => some (.nx, s1)
    | some (true, s1) => match b s1 with
      | none => none
      | some (.nx, s2) => whileLoop c b n s2
      | some (.ct, s2) => whileLoop c b n s2
      | some (.bk, s2) => some (.nx, s2)
      | some (.rt o d, s2) => some (.rt o d, s2)

/-- what a display or a call hands to a slot -/
def bOf : Ar → Option B
  | .vl d => some (.val d)
  | .ow d => some (.own d)
  | _ => none
def bsOf : List Ar → Option (List B)
  | [] => some []
  | a :: r => match bOf a, bsOf r with
    | some b, some bs => some (b :: bs)
    | _, _ => none
def subD : D → D → D → Option D
  | .list xs, .int k, d => match L2.ixN xs.length k with
    | some j => some (.list (xs.set j d))
    | none => none
  | _, _, _ => none

def augD : Op → D → D → Option D
  | .add, .int i, .int j => some (.int (i + j))
  | .sub, .int i, .int j => some (.int (i - j))
  | .mul, .int i, .int j => if (decide (-(2 ^ 64) < i) && decide (i < 2 ^ 64)) || (decide (-(2 ^ 64) < j) && decide (j < 2 ^ 64)) then some (.int (i * j)) else none
  | .fdiv, .int i, .int j => if decide (0 < j) && decide (j < 2 ^ 30) then some (.int (i / j)) else none
  | .mod, .int i, .int j => if decide (0 < j) then some (.int (i % j)) else none
  | .add, .str x, .str y => opAdd (.str x) (.str y)
  | _, _, _ => none
def stm (w : Nat) (C : Calls) : Sx → M Fl
  | .set i e => bnd (sem C e).v fun d s => match putS i (.val d) s with
    | none => none
    | some s' => some (.nx, s')
  | .seto i e => bnd (sem C e).v fun d s => if newObj d then match putS i (.own d) s with
    | none => none
    | some s' => some (.nx, s') else none
  | .par is es => bnd (sem C es).as fun l s => match bsOf l with
    | none => none
    | some bs => if bs.length = is.length then match putAll (is.zip bs) s with
      | none => none
      | some s' => some (.nx, s') else none
  | .unp is e => bnd (sem C e).v fun d s => match bindT (.tp is) d s with
    | none => none
    | some s' => some (.nx, s')
  | .sub i k e => bnd (sem C e).v fun d => bnd (slotA (.ln i)) fun _ => bnd (sem C k).v fun kd s => match resA s (.ln i) with
    | none => none
    | some x => match subD x kd d with
      | none => none
      | some x' => match mutS i x' s with
        | none => none
        | some s' => some (.nx, s')
  | .aug i o e => bnd (rdV i) fun x => bnd (sem C e).v fun y => bnd (lift (augD o x y)) fun z s => match putS i (.val z) s with
    | none => none
    | some s' => some (.nx, s')
  | .expr e => bnd (sem C e).v fun _ => gives .nx
  | .ret e => bnd (sem C e).v fun d => gives (.rt false d)
  | .reto e => bnd (sem C e).v fun d => if newObj d then gives (.rt true d) else fails
  | .retv i => fun s => match s[i]? with
    | some (some (.own d)) => some (.rt true d, s.set i none)
    | _ => none
  | .retn => gives (.rt false .none)
  | .ife c a b => bnd (sem C c).t fun k => if k then stm w C a else stm w C b
  | .for_ t it b => bnd (sem C it).it fun ds => forLoop t (stm w C b) ds
  | .while_ c b => whileLoop (sem C c).t (stm w C b) w
  | .pass => gives .nx
  | .brk => gives .bk
  | .cont => gives .ct
  | .nev => fails
  | .nil => gives .nx
  | .cons a b => bnd (stm w C a) fun f => match f with
    | .nx => stm w C b
    | f => gives f

structure FnI where
  modes : List Bool
  own : Bool
  n : Nat
  body : Sx

def inB (m : Bool) (d : D) : B := if m then .lent d else .val d
def startS (fi : FnI) (ds : List D) : S := (List.zipWith inB fi.modes ds).map some ++ List.replicate (fi.n - ds.length) none
def lentsOf : List Bool → S → Option (List D)
  | [], _ => some []
  | false :: ms, s => lentsOf ms s.tail
  | true :: ms, s => match s.head? with
    | some (some (.lent d)) => match lentsOf ms s.tail with
      | some ds => some (d :: ds)
      | none => none
    | _ => none
def endD (fi : FnI) (r : Option (Fl × S)) : Option (D × List D) :=
  match r with
  | some (.rt o d, s) => if o = fi.own then match lentsOf fi.modes s with
    | some ls => some (d, ls)
    | none => none else none
  | some (.nx, s) => if fi.own = false then match lentsOf fi.modes s with
    | some ls => some (.none, ls)
    | none => none else none
  | _ => none
def run (T : List FnI) (w : Nat) : Nat → Calls
  | 0 => fun _ _ => none
  | k + 1 => fun f ds => match T[f]? with
    | none => none
    | some fi => if ds.length = fi.modes.length then endD fi (stm w (run T w k) fi.body (startS fi ds)) else none
end FC

/-! Part 2: how data and slots lie in the abstract heap. -/
namespace FC
open PySem PySem.Spec PyProof.Rows L2

mutual
inductive Rp (K : PySem.W.Frag) (F : Hp) : V → D → Prop
  | non : Rp K F .non .none
  | bl (b : Bool) : Rp K F (.bl b) (.bool b)
  | int (i : Int) : Rp K F (.int i) (.int i)
  | str (x : Str) : Rp K F (.str x) (.str x)
  | lst {a : Addr} {xs : List V} {ds : List D} : Rd F a (.lst xs) → Rps K F xs ds → Rp K F (.ref a) (.list ds)
  | tup {a : Addr} {xs : List V} {ds : List D} : SqT K F a xs → Rps K F xs ds → Rp K F (.ref a) (.tuple ds)
  | dct {a : Addr} {kvs : List (Key × V)} {ds : List (D × D)} : F a = some (.dK kvs) → Rpk K F kvs ds → Rp K F (.ref a) (.dict ds)
inductive Rps (K : PySem.W.Frag) (F : Hp) : List V → List D → Prop
  | nil : Rps K F [] []
  | cons {v : V} {vs : List V} {d : D} {ds : List D} : Rp K F v d → Rps K F vs ds → Rps K F (v :: vs) (d :: ds)
inductive Rpk (K : PySem.W.Frag) (F : Hp) : List (Key × V) → List (D × D) → Prop
  | nil : Rpk K F [] []
  | cons {k : Key} {v : V} {vs : List (Key × V)} {d : D} {ds : List (D × D)} : Rp K F v d → Rpk K F vs ds → Rpk K F ((k, v) :: vs) ((ofKey k, d) :: ds)
end

section
variable {K : PySem.W.Frag} {F F' G H H' : Hp}
theorem Rd.same {a : Addr} {u : HO} (s : Same F F') (h : Rd F a u) : Rd F' a u := by
  rcases h with h | ⟨o, h⟩
  · exact .inl (s _ _ h)
  · exact .inr ⟨o, s _ _ h⟩
theorem SqL.same {a : Addr} {xs : List V} (s : Same F F') (h : SqL K F a xs) : SqL K F' a xs := by
  rcases h with h | h
  · exact .inl (Rd.same s h)
  · exact .inr h
theorem SqT.same {a : Addr} {xs : List V} (s : Same F F') (h : SqT K F a xs) : SqT K F' a xs := by
  rcases h with h | h
  · exact .inl (Rd.same s h)
  · exact .inr h
mutual
theorem Rp.same (s : Same F F') : ∀ {v : V} {d : D}, Rp K F v d → Rp K F' v d
  | _, _, .non => .non
  | _, _, .bl b => .bl b
  | _, _, .int i => .int i
  | _, _, .str x => .str x
  | _, _, .lst h r => .lst (Rd.same s h) (Rps.same s r)
  | _, _, .tup h r => .tup (SqT.same s h) (Rps.same s r)
  | _, _, .dct h r => .dct (s _ _ h) (Rpk.same s r)
theorem Rps.same (s : Same F F') : ∀ {v : List V} {d : List D}, Rps K F v d → Rps K F' v d
  | _, _, .nil => .nil
  | _, _, .cons h r => .cons (Rp.same s h) (Rps.same s r)
theorem Rpk.same (s : Same F F') : ∀ {v : List (Key × V)} {d : List (D × D)}, Rpk K F v d → Rpk K F' v d
  | _, _, .nil => .nil
  | _, _, .cons h r => .cons (Rp.same s h) (Rpk.same s r)
end
theorem Rps.length : ∀ {v : List V} {d : List D}, Rps K F v d → v.length = d.length
  | _, _, .nil => rfl
  | _, _, .cons _ r => by rw [List.length_cons, List.length_cons, Rps.length r]
theorem Rps.get : ∀ {v : List V} {ds : List D} {i : Nat} {d : D}, Rps K F v ds → ds[i]? = some d → ∃ x, v[i]? = some x ∧ Rp K F x d
  | _, _, _, _, .nil, e => by simp at e
  | _, _, 0, _, .cons h _, e => by simp at e; subst e; exact ⟨_, rfl, h⟩
  | _, _, i + 1, d, .cons _ r, e => by
    obtain ⟨x, h1, h2⟩ := Rps.get (i := i) (d := d) r (by simpa using e)
    exact ⟨x, by simpa using h1, h2⟩
theorem Rps.get' : ∀ {v : List V} {ds : List D} {i : Nat} {x : V}, Rps K F v ds → v[i]? = some x → ∃ d, ds[i]? = some d ∧ Rp K F x d
  | _, _, _, _, .nil, e => by simp at e
  | _, _, 0, _, .cons h _, e => by simp at e; subst e; exact ⟨_, rfl, h⟩
  | _, _, i + 1, d, .cons _ r, e => by
    obtain ⟨x, h1, h2⟩ := Rps.get' (i := i) (x := d) r (by simpa using e)
    exact ⟨x, by simpa using h1, h2⟩
theorem Rps.append : ∀ {v w : List V} {d e : List D}, Rps K F v d → Rps K F w e → Rps K F (v ++ w) (d ++ e)
  | _, _, _, _, .nil, s => s
  | _, _, _, _, .cons h r, s => .cons h (Rps.append r s)
theorem Rps.take : ∀ {v : List V} {d : List D} (n : Nat), Rps K F v d → Rps K F (v.take n) (d.take n)
  | _, _, 0, _ => .nil
  | _, _, _ + 1, .nil => .nil
  | _, _, n + 1, .cons h r => .cons h (Rps.take n r)
theorem Rps.drop : ∀ {v : List V} {d : List D} (n : Nat), Rps K F v d → Rps K F (v.drop n) (d.drop n)
  | _, _, 0, h => h
  | _, _, _ + 1, .nil => .nil
  | _, _, n + 1, .cons _ r => Rps.drop n r
theorem Rps.reverse : ∀ {v : List V} {d : List D}, Rps K F v d → Rps K F v.reverse d.reverse
  | _, _, .nil => .nil
  | _, _, .cons h r => by
    rw [List.reverse_cons, List.reverse_cons]
    exact Rps.append (Rps.reverse r) (.cons h .nil)
theorem Rps.set {x : V} {y : D} (h : Rp K F x y) : ∀ {v : List V} {d : List D} (n : Nat), Rps K F v d → Rps K F (v.set n x) (d.set n y)
  | _, _, _, .nil => .nil
  | _, _, 0, .cons _ r => .cons h r
  | _, _, n + 1, .cons q r => .cons q (Rps.set h n r)
theorem Rps.erase : ∀ {v : List V} {d : List D} (n : Nat), Rps K F v d → Rps K F (v.eraseIdx n) (d.eraseIdx n)
  | _, _, _, .nil => .nil
  | _, _, 0, .cons _ r => r
  | _, _, n + 1, .cons q r => .cons q (Rps.erase n r)
theorem Rps.dropLast {v : List V} {d : List D} (h : Rps K F v d) : Rps K F v.dropLast d.dropLast := by
  rw [List.dropLast_eq_take, List.dropLast_eq_take, h.length]
  exact h.take _
theorem Rps.ints : ∀ {ns : List Int} {v : List V}, Rps K F v (ns.map .int) → v = ns.map V.int
  | [], _, .nil => rfl
  | n :: ns, _, .cons h r => by
    cases h
    rw [List.map_cons, Rps.ints r]
theorem Rps.strs : ∀ {ns : List Str} {v : List V}, Rps K F v (ns.map .str) → v = ns.map V.str
  | [], _, .nil => rfl
  | n :: ns, _, .cons h r => by
    cases h
    rw [List.map_cons, Rps.strs r]
theorem Rps.bools : ∀ {ns : List Bool} {v : List V}, Rps K F v (ns.map .bool) → v = ns.map V.bl
  | [], _, .nil => rfl
  | n :: ns, _, .cons h r => by
    cases h
    rw [List.map_cons, Rps.bools r]
theorem rps_ints : ∀ (ns : List Int), Rps K F (ns.map V.int) (ns.map .int)
  | [] => .nil
  | n :: ns => .cons (.int n) (rps_ints ns)
theorem rps_strs : ∀ (ns : List Str), Rps K F (ns.map V.str) (ns.map .str)
  | [] => .nil
  | n :: ns => .cons (.str n) (rps_strs ns)
theorem Rps.rep {v : List V} {d : List D} (h : Rps K F v d) : ∀ n : Nat, Rps K F (List.replicate n v).flatten (List.replicate n d).flatten
  | 0 => .nil
  | n + 1 => by
    rw [List.replicate_succ, List.replicate_succ, List.flatten_cons, List.flatten_cons]
    exact h.append (h.rep n)
theorem cutD_rps {v : List V} {d : List D} (h : Rps K F v d) (lo hi : Option Int) : Rps K F (cutV v lo hi) (cutD d lo hi) := by
  unfold cutV cutD
  rw [h.length]
  exact (h.drop _).take _
theorem intsOf_eq : ∀ {ds : List D} {ns : List Int}, intsOf ds = some ns → ds = ns.map .int
  | [], ns, h => by cases h; rfl
  | .int i :: r, ns, h => by
    simp only [intsOf, Option.map_eq_some_iff] at h
    obtain ⟨m, h1, rfl⟩ := h
    rw [intsOf_eq h1]; rfl
  | .none :: _, _, h | .bool _ :: _, _, h | .str _ :: _, _, h | .list _ :: _, _, h | .tuple _ :: _, _, h | .dict _ :: _, _, h => by simp [intsOf] at h
theorem strsOf_eq : ∀ {ds : List D} {ns : List Str}, strsOf ds = some ns → ds = ns.map .str
  | [], ns, h => by cases h; rfl
  | .str i :: r, ns, h => by
    simp only [strsOf, Option.map_eq_some_iff] at h
    obtain ⟨m, h1, rfl⟩ := h
    rw [strsOf_eq h1]; rfl
  | .none :: _, _, h | .bool _ :: _, _, h | .int _ :: _, _, h | .list _ :: _, _, h | .tuple _ :: _, _, h | .dict _ :: _, _, h => by simp [strsOf] at h
theorem boolsOf_eq : ∀ {ds : List D} {ns : List Bool}, boolsOf ds = some ns → ds = ns.map .bool
  | [], ns, h => by cases h; rfl
  | .bool i :: r, ns, h => by
    simp only [boolsOf, Option.map_eq_some_iff] at h
    obtain ⟨m, h1, rfl⟩ := h
    rw [boolsOf_eq h1]; rfl
  | .none :: _, _, h | .str _ :: _, _, h | .int _ :: _, _, h | .list _ :: _, _, h | .tuple _ :: _, _, h | .dict _ :: _, _, h => by simp [boolsOf] at h

mutual
theorem Rp.dp : ∀ (d : D) {v : V}, Rp K F v d → d.canLay0 = true → Dp K F v d
  | .none, _, .non, _ => .non
  | .bool b, _, .bl _, _ => .bl b
  | .int i, _, .int _, _ => .int i
  | .str x, _, .str _, _ => .str x
  | .list ds, _, .lst h r, c => .lst (.inl h) (Rps.dp ds r (by simpa [PyData.canLay0] using c))
  | .tuple ds, _, .tup h r, c => .tup h (Rps.dp ds r (by simpa [PyData.canLay0] using c))
  | .dict _, _, _, c => by simp [PyData.canLay0] at c
theorem Rps.dp : ∀ (d : List D) {v : List V}, Rps K F v d → PyData.canLayAll0 d = true → DpAll K F v d
  | [], _, .nil, _ => .nil
  | x :: r, _, .cons h t, c => by
    simp only [PyData.canLayAll0, Bool.and_eq_true] at c
    exact .cons (Rp.dp x h c.1) (Rps.dp r t c.2)
end

/-! ### own objects -/
def Ob (K : PySem.W.Frag) (F H : Hp) (a : Addr) : D → Prop
  | .list ds => ∃ vs, H a = some (.lst vs) ∧ Rps K F vs ds
  | .dict ds => ∃ vs, H a = some (.dK vs) ∧ Rpk K F vs ds
  | _ => False
theorem Ob.has {a : Addr} {d : D} (h : Ob K F H a d) : ∃ o, H a = some o := by
  cases d <;> first | exact h.elim | (obtain ⟨vs, e, _⟩ := h; exact ⟨_, e⟩)
theorem Ob.mono {a : Addr} {d : D} (h : Ob K F H a d) (s : Same F F') (e : H' a = H a) : Ob K F' H' a d := by
  cases d with
  | list ds => obtain ⟨vs, e1, r⟩ := h; exact ⟨vs, by rw [e, e1], Rps.same s r⟩
  | dict ds => obtain ⟨vs, e1, r⟩ := h; exact ⟨vs, by rw [e, e1], Rpk.same s r⟩
  | _ => exact h.elim
theorem Ob.frz {a : Addr} {d : D} {o : HO} (h : Ob K F H a d) (e : H a = some o) (hn : F a = none) : Rp K (upd F a o) (.ref a) d := by
  have s : Same F (upd F a o) := fun b x q => by rw [upd_ne (ne_of_none q hn)]; exact q
  cases d with
  | list ds =>
    obtain ⟨vs, e1, r⟩ := h
    rw [e] at e1; cases e1
    exact .lst (.inl upd_same) (Rps.same s r)
  | dict ds =>
    obtain ⟨vs, e1, r⟩ := h
    rw [e] at e1; cases e1
    exact .dct upd_same (Rpk.same s r)
  | _ => exact h.elim
/-- an operand: a value, or an object that lies open -/
def TR (K : PySem.W.Frag) (F H : Hp) (v : V) (d : D) : Prop := Rp K F v d ∨ ∃ a, v = .ref a ∧ Ob K F H a d
inductive TRs (K : PySem.W.Frag) (F H : Hp) : List V → List D → Prop
  | nil : TRs K F H [] []
  | cons {v : V} {vs : List V} {d : D} {ds : List D} : TR K F H v d → TRs K F H vs ds → TRs K F H (v :: vs) (d :: ds)
theorem TR.list {v : V} {ds : List D} (s : Same F H) (h : TR K F H v (.list ds)) : ∃ a vs, v = .ref a ∧ Rd H a (.lst vs) ∧ Rps K F vs ds := by
  rcases h with h | ⟨a, rfl, vs, e, r⟩
  · cases h with
    | lst h r => exact ⟨_, _, rfl, Rd.same s h, r⟩
  · exact ⟨a, vs, rfl, .inl e, r⟩
theorem TR.tuple {v : V} {ds : List D} (s : Same F H) (h : TR K F H v (.tuple ds)) : ∃ a vs, v = .ref a ∧ SqT K H a vs ∧ SqT K F a vs ∧ Rps K F vs ds := by
  rcases h with h | ⟨a, rfl, h⟩
  · cases h with
    | tup h r => exact ⟨_, _, rfl, SqT.same s h, h, r⟩
  · exact h.elim
theorem TR.int {v : V} {i : Int} (h : TR K F H v (.int i)) : v = .int i := by
  rcases h with h | ⟨a, rfl, h⟩
  · cases h; rfl
  · exact h.elim
theorem TR.bl {v : V} {i : Bool} (h : TR K F H v (.bool i)) : v = .bl i := by
  rcases h with h | ⟨a, rfl, h⟩
  · cases h; rfl
  · exact h.elim
theorem TR.str {v : V} {i : Str} (h : TR K F H v (.str i)) : v = .str i := by
  rcases h with h | ⟨a, rfl, h⟩
  · cases h; rfl
  · exact h.elim
theorem TR.non {v : V} (h : TR K F H v .none) : v = .non := by
  rcases h with h | ⟨a, rfl, h⟩
  · cases h; rfl
  · exact h.elim
theorem TR.rp {v : V} {d : D} (h : TR K F H v d) (hd : newObj d = false) : Rp K F v d := by
  rcases h with h | ⟨a, rfl, h⟩
  · exact h
  · cases d <;> first | exact h.elim | cases hd
theorem TR.dp {v : V} {d : D} (s : Same F H) (h : TR K F H v d) (c : d.canLay0 = true) : Dp K H v d := by
  rcases h with h | ⟨a, rfl, h⟩
  · exact Rp.dp d (Rp.same s h) c
  · cases d with
    | list ds =>
      obtain ⟨vs, e, r⟩ := h
      exact .lst (.inl (.inl e)) (Rps.dp ds (Rps.same s r) (by simpa [PyData.canLay0] using c))
    | dict _ => simp [PyData.canLay0] at c
    | _ => exact h.elim

/-! ### slots -/
def RB (K : PySem.W.Frag) (F H : Hp) (v : V) : B → Prop
  | .val d => Rp K F v d
  | .own d => ∃ a, v = .ref a ∧ F a = none ∧ Ob K F H a d
  | .lent d => ∃ a, v = .ref a ∧ F a = none ∧ Ob K F H a d
theorem RB.tr {v : V} {b : B} (h : RB K F H v b) : TR K F H v b.d := by
  cases b with
  | val d => exact .inl h
  | own d => obtain ⟨a, e, _, o⟩ := h; exact .inr ⟨a, e, o⟩
  | lent d => obtain ⟨a, e, _, o⟩ := h; exact .inr ⟨a, e, o⟩
theorem RB.mineAt {v : V} {b : B} (h : RB K F H v b) (m : b.mine = true) : ∃ a, v = .ref a ∧ F a = none ∧ Ob K F H a b.d := by
  cases b with
  | val d => cases m
  | own d => exact h
  | lent d => exact h
/-- the addresses of own and lent slots -/
def Ad (σ : L2.St) (s : S) (a : Addr) : Prop := ∃ (i : Nat) (b : B), s[i]? = some (some b) ∧ b.mine = true ∧ σ[i]? = some (some (.ref a))
structure Rs (K : PySem.W.Frag) (F H : Hp) (σ : L2.St) (s : S) : Prop where
  sub : Same F H
  len : σ.length = s.length
  at_ : ∀ (i : Nat) (b : B), s[i]? = some (some b) → ∃ v, σ[i]? = some (some v) ∧ RB K F H v b
  dis : ∀ (i j : Nat) (b c : B) (a : Addr), s[i]? = some (some b) → s[j]? = some (some c) → b.mine = true → c.mine = true → σ[i]? = some (some (.ref a)) → σ[j]? = some (some (.ref a)) → i = j
structure Ext (A : Addr → Prop) (F H F' H' : Hp) : Prop where
  f : Same F F'
  k : ∀ a o, ¬ A a → H a = some o → H' a = some o
  z : ∀ a, ¬ A a → F a = none → H a ≠ none → F' a = none
  t : ∀ a, H a ≠ none → H' a ≠ none
theorem Same.refl : Same H H := fun _ _ e => e
theorem Ext.refl {A : Addr → Prop} : Ext A F H F H := ⟨Same.refl, fun _ _ _ e => e, fun _ _ e _ => e, fun _ e => e⟩
theorem Ext.trans {A B : Addr → Prop} {F1 H1 F2 H2 : Hp} (x : Ext A F H F1 H1) (y : Ext B F1 H1 F2 H2) (h : ∀ a, B a → A a ∨ H a = none) : Ext A F H F2 H2 := by
  have nb : ∀ a, ¬ A a → H a ≠ none → ¬ B a := fun a n e b => by
    rcases h a b with q | q
    · exact n q
    · exact e q
  refine ⟨fun a o e => y.f a o (x.f a o e), fun a o n e => y.k a o (nb a n (by rw [e]; intro z; cases z)) (x.k a o n e), fun a n e q => ?_, fun a e => y.t a (x.t a e)⟩
  refine y.z a (nb a n q) (x.z a n e q) ?_
  cases e2 : H a with
  | none => exact absurd e2 q
  | some o => rw [x.k a o n e2]; intro z; cases z
theorem Ext.mono {A B : Addr → Prop} (x : Ext A F H F' H') (h : ∀ a, A a → B a) : Ext B F H F' H' :=
  ⟨x.f, fun a o n e => x.k a o (fun z => n (h a z)) e, fun a n e q => x.z a (fun z => n (h a z)) e q, x.t⟩
/-- nothing was open: all stays -/
theorem Ext.none_ {A : Addr → Prop} (x : Ext (fun _ => False) F H F' H') : Ext A F H F' H' := x.mono fun _ z => z.elim

/-- the slots stay where the heap grows -/
theorem Rs.ext {σ : L2.St} {s : S} (r : Rs K F H σ s) (x : Ext (fun _ => False) F H F' H') (q : Same F' H') : Rs K F' H' σ s := by
  refine ⟨q, r.len, fun i b e => ?_, r.dis⟩
  obtain ⟨v, e1, h⟩ := r.at_ i b e
  refine ⟨v, e1, ?_⟩
  cases b with
  | val d => exact Rp.same x.f h
  | own d =>
    obtain ⟨a, rfl, hn, ob⟩ := h
    obtain ⟨o, eo⟩ := ob.has
    exact ⟨a, rfl, x.z a (fun z => z) hn (by rw [eo]; intro z; cases z), ob.mono x.f (by rw [x.k a o (fun z => z) eo, eo])⟩
  | lent d =>
    obtain ⟨a, rfl, hn, ob⟩ := h
    obtain ⟨o, eo⟩ := ob.has
    exact ⟨a, rfl, x.z a (fun z => z) hn (by rw [eo]; intro z; cases z), ob.mono x.f (by rw [x.k a o (fun z => z) eo, eo])⟩
theorem upd_some {p a : Addr} {o : HO} (e : H a ≠ none) : upd H p o a ≠ none := by
  unfold upd
  split
  · intro z; cases z
  · exact e
theorem ext_new {p : Addr} {o : HO} (hp : H p = none) : Ext (fun _ => False) F H F (upd H p o) :=
  ⟨Same.refl, fun a u _ e => by rw [upd_ne (ne_of_none e hp)]; exact e, fun _ _ e _ => e, fun a e => upd_some e⟩
theorem ext_newF {p : Addr} {o : HO} (sub : Same F H) (hp : H p = none) : Ext (fun _ => False) F H (upd F p o) (upd H p o) := by
  have fp : F p = none := by
    cases e : F p with
    | none => rfl
    | some u => rw [sub p u e] at hp; cases hp
  refine ⟨fun a u e => by rw [upd_ne (ne_of_none e fp)]; exact e, fun a u _ e => by rw [upd_ne (ne_of_none e hp)]; exact e, fun a _ e q => ?_, fun a e => upd_some e⟩
  rw [upd_ne (show a ≠ p from fun z => q (by rw [z]; exact hp))]
  exact e
theorem same_newF {p : Addr} {o : HO} (sub : Same F H) : Same (upd F p o) (upd H p o) := fun a u e => by
  by_cases h : a = p
  · subst h; rw [upd_same] at e ⊢; exact e
  · rw [upd_ne h] at e ⊢; exact sub a u e
theorem same_new {p : Addr} {o : HO} (sub : Same F H) (hp : H p = none) : Same F (upd H p o) := fun a u e => by
  have q := sub a u e
  rw [upd_ne (ne_of_none q hp)]; exact q
/-- an open object is shut: from now on a value -/
theorem ext_shut {A : Addr → Prop} {p : Addr} {o : HO} (hf : F p = none) (hA : A p) : Ext A F H (upd F p o) H :=
  ⟨fun a u e => by rw [upd_ne (ne_of_none e hf)]; exact e, fun _ _ _ e => e, fun a n e _ => by rw [upd_ne (fun z => n (by rw [z]; exact hA))]; exact e, fun _ e => e⟩
theorem same_shut {p : Addr} {o : HO} (sub : Same F H) (e : H p = some o) : Same (upd F p o) H := fun a u q => by
  by_cases h : a = p
  · subst h; rw [upd_same] at q; cases q; exact e
  · rw [upd_ne h] at q; exact sub a u q
end
end FC

/-! Part 3a: more operations on tuples. -/
namespace FC
open PySem PySem.Spec PyProof.Rows L2
/-! ### t * n: n = 1 or t empty gives t itself, n ≤ 0 an empty one -/
theorem tuple_mulSame (l : Addr) (items : Array Value) (n : Nat) (dd : Option Addr) (sl : Array (Option Value)) (x : Int) (u : Tok) (c0 : (decide (x < -(2 ^ 63)) || decide (x ≥ 2 ^ 63)) = false) (c1 : (items.isEmpty || x == 1) = true) :
    Meets (Builtin.«tuple.__mul__» ⟨[.ref l, .int x u], []⟩) (fun _ R s => s.heap.get? l = some { cls := .type "tuple", dict := dd, data := .seq items n, slots := sl } ∧ R (.ok (.ret (Value.ref l))) s) :=
  .of_wp fun prog w A R s h => by
    obtain ⟨hp, g, d, tk, os⟩ := s
    obtain ⟨hl, h⟩ := h
    have f1 := AutoSeq1.idx_int
    wp_walk using wpAny_loadPart' hl
    repeat (first
      | (refine wpAny_ite_false (decide_eq_false (by rw [c0]; exact Bool.false_ne_true)) ?_; wp_walk using wpAny_loadPart' hl)
      | (refine wpAny_ite_true (decide_eq_true c1) ?_; wp_walk using wpAny_loadPart' hl))
    exact ⟨_, rfl, h⟩
theorem tuple_mulNone (l : Addr) (items : Array Value) (n : Nat) (dd : Option Addr) (sl : Array (Option Value)) (x : Int) (u : Tok) (c0 : (decide (x < -(2 ^ 63)) || decide (x ≥ 2 ^ 63)) = false) (c1 : (items.isEmpty || x == 1) = false) (c2 : (decide (x ≤ 0) || items.isEmpty) = true) :
    Meets (Builtin.«tuple.__mul__» ⟨[.ref l, .int x u], []⟩) (fun _ R s => s.heap.get? l = some { cls := .type "tuple", dict := dd, data := .seq items n, slots := sl } ∧
      R (.ok (.ret (Value.ref s.heap.objs.size))) { s with heap := s.heap.push { cls := Value.type "tuple", data := Data.seq #[] }, toks := s.toks }) :=
  .of_wp fun prog w A R s h => by
    obtain ⟨hp, g, d, tk, os⟩ := s
    obtain ⟨hl, h⟩ := h
    have f1 := AutoSeq1.idx_int
    wp_walk using wpAny_loadPart' hl
    repeat (first
      | (refine wpAny_ite_false (decide_eq_false (by rw [c0]; exact Bool.false_ne_true)) ?_; wp_walk using wpAny_loadPart' hl)
      | (refine wpAny_ite_false (decide_eq_false (by rw [c1]; exact Bool.false_ne_true)) ?_; wp_walk using wpAny_loadPart' hl)
      | (refine wpAny_ite_true (decide_eq_true c2) ?_; wp_walk using wpAny_loadPart' hl))
    exact ⟨_, rfl, h⟩
section
variable {X : Cx}
def rRepA (K : PySem.W.Frag) : R2 := fun x y H Q => ∃ l k xs, x = .ref l ∧ y = .int k ∧ SqT K H l xs ∧ k ≤ 1000 ∧ -(2 ^ 62) ≤ k ∧ xs.length ≤ 1000 ∧
  ((xs = [] ∨ k = 1) → Q (.ref l) H) ∧ (¬ (xs = [] ∨ k = 1) → ∀ p, H p = none → Q (.ref p) (upd H p (.tup (List.replicate k.toNat xs).flatten)))
theorem op_repA : OpR X (binaryOp .Mult) (rRepA X.K) := by
  intro pins s σ H x y v u Q I rx ry h
  obtain ⟨l, k, xs, rfl, rfl, hT, h2, h1, hz, q1, q2⟩ := h
  by_cases hb : 2 ≤ k ∧ xs ≠ []
  · refine op_repT pins s σ H _ _ v u Q I rx ry ⟨l, k, xs, rfl, rfl, hT, hb.2, hb.1, h2, hz, q2 ?_⟩
    rintro (z | z)
    · exact hb.2 z
    · omega
  · cases rx
    obtain ⟨t, rfl⟩ := ry
    obtain ⟨its, r, ⟨⟨cls, dd, data, sl⟩, ho, hc, n, hd⟩, hs⟩ := I.tuple hT
    simp only at hc hd
    subst hc hd
    have he : its.toArray.isEmpty = xs.isEmpty := by
      cases r <;> rfl
    have c0 : (decide (k < -(2 ^ 63)) || decide (k ≥ 2 ^ 63)) = false := by
      rw [decide_eq_false (by omega), decide_eq_false (by omega)] <;> rfl
    by_cases h3 : xs = [] ∨ k = 1
    · have c1 : (its.toArray.isEmpty || k == 1) = true := by
        rw [he, Bool.or_eq_true]
        rcases h3 with rfl | rfl
        · exact .inl rfl
        · exact .inr rfl
      exact wpAny_binaryOp_repeat_ref (T := "tuple") (U := "int") (by decide) ⟨_, ho, rfl⟩ (fun s' => typeIs_int s' k t) noFill_tuple_mul F.fills_int_mul F.slot_int_rmul repeat_tuple F.slot_int_index.lookup
        (call_meets F.slot_int_rmul (typeIs_int s k t) F.entry_int_rmul (F.args_int_rmul_2 _ _) (int_rmul_tuple k t l its.toArray n dd sl)
          ⟨ho, rfl, ⟨_, ho, rfl⟩, call_meets F.slot_tuple_mul ⟨_, ho, rfl⟩ F.entry_tuple_mul (F.args_tuple_mul_2 _ _) (tuple_mulSame l its.toArray n dd sl k t c0 c1) ⟨ho, .ref l, H, I, rfl, q1 h3⟩⟩)
    · have hx : xs ≠ [] := fun z => h3 (.inl z)
      have hk : k ≤ 0 := by
        have : k ≠ 1 := fun z => h3 (.inr z)
        have : ¬ 2 ≤ k := fun z => hb ⟨z, hx⟩
        omega
      have c1 : (its.toArray.isEmpty || k == 1) = false := by
        rw [he, Bool.or_eq_false_iff]
        refine ⟨?_, beq_eq_false_iff_ne.mpr fun z => h3 (.inr z)⟩
        cases xs with
        | nil => exact absurd rfl hx
        | cons _ _ => rfl
      have c2 : (decide (k ≤ 0) || its.toArray.isEmpty) = true := by
        rw [decide_eq_true hk] <;> rfl
      refine wpAny_binaryOp_repeat_ref (T := "tuple") (U := "int") (by decide) ⟨_, ho, rfl⟩ (fun s' => typeIs_int s' k t) noFill_tuple_mul F.fills_int_mul F.slot_int_rmul repeat_tuple F.slot_int_index.lookup
        (call_meets F.slot_int_rmul (typeIs_int s k t) F.entry_int_rmul (F.args_int_rmul_2 _ _) (int_rmul_tuple k t l its.toArray n dd sl)
          ⟨ho, rfl, ⟨_, ho, rfl⟩, call_meets F.slot_tuple_mul ⟨_, ho, rfl⟩ F.entry_tuple_mul (F.args_tuple_mul_2 _ _) (tuple_mulNone l its.toArray n dd sl k t c0 c1 c2) ⟨ho, ?_⟩⟩)
      have e0 : (List.replicate k.toNat xs).flatten = [] := by
        rw [show k.toNat = 0 by omega]
        rfl
      have q3 := q2 h3
      rw [e0] at q3
      refine ⟨.ref s.heap.objs.size, _, I.laid (t' := s.toks) (o := .tup []) (fun b ob q => Heap.get?_push_of_some _ q) (Nat.le_refl _) ?_, rfl, q3 _ (I.hok.fresh (Nat.le_refl _))⟩
      exact ⟨by decide, _, .nil, IsTup.new _ _⟩

/-! ### t[::-1] -/
theorem sliceApplied_rev {prog : Program} {w : World} {A : Around} {E : Value → Shared → Prop} {s : Shared} {sl : Addr} {vs : Value} {n : Nat} {Q : Int × Int × Nat → Shared → Prop} (hs : s.heap.IsSliceOf sl .none .none vs) (ps : IsPart vs (some (-1)))
    (h : Q ((n : Int) - 1, -1, n) s) : wpAny (model prog w) A (Builtin.Slice.sliceApplied (.ref sl) (pure (n : Int))) Q E s := by
  obtain ⟨os, hos, hcs, hds⟩ := id hs
  unfold Builtin.Slice.sliceApplied Builtin.Slice.sliceFields
  refine wpAny_bind (wpAny_bind (wpAny_field hos hds (x := .none) rfl (wpAny_bind (wpAny_field hos hds (x := .none) rfl (wpAny_bind (wpAny_field hos hds (x := vs) rfl (wpAny_pure ?_)))))))
  refine wpAny_bind (HT.slicePart_ ps ?_)
  show wpAny _ _ (if ((-1 : Int) == 0) = true then _ else _) _ _ s
  rw [if_neg (by decide)]
  refine wpAny_bind (HT.slicePart_ .none (wpAny_bind (HT.slicePart_ .none (wpAny_bind (wpAny_pure ?_)))))
  show wpAny _ _ (match Builtin.Slice.sliceAdjust none none (-1) (n : Int) with | (lo, hi) => pure (lo, (-1 : Int), Builtin.Slice.slicePlaces lo hi (-1))) _ _ s
  have e1 : Builtin.Slice.sliceAdjust none none (-1) (n : Int) = ((n : Int) - 1, -1) := by
    unfold Builtin.Slice.sliceAdjust
    simp
  rw [e1]
  have e2 : Builtin.Slice.slicePlaces ((n : Int) - 1) (-1) (-1) = n := by
    unfold Builtin.Slice.slicePlaces
    simp
    omega
  show wpAny _ _ (pure ((n : Int) - 1, (-1 : Int), Builtin.Slice.slicePlaces ((n : Int) - 1) (-1) (-1))) _ _ s
  rw [e2]
  exact wpAny_pure h
theorem fm_congr {α β : Type} {f g : α → Option β} : ∀ (l : List α), (∀ m ∈ l, f m = g m) → l.filterMap f = l.filterMap g
  | [], _ => rfl
  | a :: l, h => by
    rw [List.filterMap_cons, List.filterMap_cons, h a List.mem_cons_self, fm_congr l fun m hm => h m (List.mem_cons_of_mem _ hm)]
theorem pick_rev (xs : Array Value) : ((List.range xs.size).filterMap fun (m : Nat) => xs[(((xs.size : Int) - 1) + (m : Int) * (-1)).toNat]?).toArray = xs.toList.reverse.toArray := by
  congr 1
  have e : ∀ (l : List Value), ((List.range l.length).filterMap fun (m : Nat) => l[(((l.length : Int) - 1) + (m : Int) * (-1)).toNat]?) = l.reverse := by
    intro l
    apply List.ext_getElem?
    intro i
    have h1 : (List.range l.length).filterMap (fun (m : Nat) => l[(((l.length : Int) - 1) + (m : Int) * (-1)).toNat]?) = (List.range l.length).map fun m => l.reverse[m]?.getD default := by
      rw [← List.filterMap_eq_map]
      apply fm_congr
      intro m hm
      have hm' : m < l.length := List.mem_range.mp hm
      have e1 : (((l.length : Int) - 1) + (m : Int) * (-1)).toNat = l.length - 1 - m := by omega
      show l[(((l.length : Int) - 1) + (m : Int) * (-1)).toNat]? = some (l.reverse[m]?.getD default)
      rw [e1, List.getElem?_reverse hm', List.getElem?_eq_getElem (by omega)]
      rfl
    rw [h1, List.getElem?_map]
    by_cases hi : i < l.length
    · rw [List.getElem?_range hi]
      show some (l.reverse[i]?.getD default) = l.reverse[i]?
      rw [List.getElem?_eq_getElem (by simpa using hi)]
      rfl
    · rw [List.getElem?_eq_none (by simpa using hi), List.getElem?_eq_none (by simpa using hi)]
      rfl
  have := e xs.toList
  rw [Array.length_toList] at this
  rw [← this]
  apply fm_congr
  intro m _
  rw [Array.getElem?_toList]
theorem getItem_tuple_rev {prog : Program} {w : World} {A : Around} {E : Value → Shared → Prop} {s : Shared} {t sl : Addr} {items : Array Value} {vs : Value} {Q : Value → Shared → Prop} (ht : IsTup s.heap t items) (hs : s.heap.IsSliceOf sl .none .none vs) (ps : IsPart vs (some (-1)))
    (h : Q (.ref s.heap.objs.size) { s with heap := s.heap.push { cls := .type "tuple", data := .seq items.toList.reverse.toArray } })
    (hsz : items.size ≤ sizeLine) : wpAny (model prog w) A (getItem (.ref t) (.ref sl)) Q E s := by
  have htake : sizeOk (.seq items.toList.reverse.toArray) := by
    show items.toList.reverse.toArray.size ≤ sizeLine
    rw [List.size_toArray, List.length_reverse, Array.length_toList]
    omega
  obtain ⟨os, hos, hcs, hds⟩ := id hs
  have hTs : s.TypeIs (.ref sl) "slice" := ⟨os, hos, hcs⟩
  unfold getItem
  try with_reducible refine wpAny_holding ?_
  first | refine wpAny_bind (wpAny_pure ?_) | skip
  refine wpAny_bind (wpAny_sequenceKey ht.typeIs (by decide) ?_)
  refine wpAny_bind (wpAny_callSpecial?_slot (name := Str.ofString "__getitem__") ht.typeIs PyProof.Rows.slot_tuple_getitem
    (wpAny_call_entry PyProof.Rows.slot_tuple_getitem ht.typeIs entry_tuple_getitem ?_ (args_tuple_getitem _ _)))
  show wpAny _ _ (Builtin.Tuple.tupleItemsOf (.ref t) >>= _) _ _ s
  refine wpAny_bind (tupleItemsOf_ ht ?_)
  refine wpAny_bind (wpAny_typeOf hTs ?_)
  rw [if_pos (by decide)]
  refine wpAny_bind (sliceApplied_rev hs ps ?_)
  have hno : ¬ ((((items.size : Int) - 1) == 0 && (-1 : Int) == 1 && items.size == items.size) = true) := by
    intro q
    rw [Bool.and_eq_true, Bool.and_eq_true] at q
    exact absurd q.1.2 (by decide)
  show wpAny _ _ (if (((items.size : Int) - 1) == 0 && (-1 : Int) == 1 && items.size == items.size) = true then _ else _) _ _ s
  rw [if_neg hno, pick_rev]
  first
    | exact wpAny_bind (m := Builtin.Tuple.tupleExact _) (wpAny_newObj_type (wpAny_pure ⟨_, rfl, wpAny_pure h⟩) htake)
    | exact wpAny_bind (m := Builtin.Tuple.tupleExact _) (wpAny_newObj_type (wpAny_bind (wpAny_pure (wpAny_pure ⟨_, rfl, wpAny_pure h⟩))) htake)
    | exact wpAny_bind (wpAny_bind (m := Builtin.Tuple.tupleExact _) (wpAny_newObj_type (wpAny_pure (wpAny_pure ⟨_, rfl, wpAny_pure h⟩)) htake))
    | exact wpAny_bind (wpAny_bind (m := Builtin.Tuple.tupleExact _) (wpAny_newObj_type (wpAny_pure ⟨_, rfl, wpAny_pure h⟩) htake))
def tRevA (K : PySem.W.Frag) (te : TE) : TE := fun σ H Q => te σ H fun x H1 => ∃ a xs, x = .ref a ∧ ((SqL K H1 a xs ∧ ∀ p, H1 p = none → Q (.ref p) (upd H1 p (.lst xs.reverse))) ∨ (SqT K H1 a xs ∧ ∀ p, H1 p = none → Q (.ref p) (upd H1 p (.tup xs.reverse))))
theorem pe_revA {e : Expr} {te : TE} {k : Nat} {p1 p2 p3 pos : Pos} (he : PE X e te) : PE X (.Subscript e (.Slice none none (some (.UnaryOp .USub (.Constant (.int 1) k p1) p2)) p3) pos) (tRevA X.K te) := by
  refine ⟨fun pins s σ H Q I h => ?_⟩
  refine Subscript_ (thn (he.run pins s σ H _ I h) fun v s1 ⟨x, H1, I1, r1, q1⟩ => ?_)
  obtain ⟨a, xs, ex, hx⟩ := q1
  subst ex
  cases r1
  have hst : PO X (some (.UnaryOp .USub (.Constant (.int 1) k p1) p2)) (tPart (tUn (rU fun i => .int (-i)) (tC (.int 1)))) := po_some (pe_un un_neg pe_int)
  refine wpAny_Slice (thn (po_none.run pins s1 σ H1 (fun o H2 => o = none ∧ H2 = H1) I1 ⟨rfl, rfl⟩) fun vl s2 ⟨l, H2, I2, pl, el, e2⟩ => ?_)
  subst el e2
  refine thn (po_none.run pins s2 σ H2 (fun o H3 => o = none ∧ H3 = H2) I2 ⟨rfl, rfl⟩) fun vu s3 ⟨u, H3, I3, pu, eu, e3⟩ => ?_
  subst eu e3
  refine thn (hst.run pins s3 σ H3 (fun o H4 => o = some (-1) ∧ H4 = H3) I3 ⟨1, rfl, -1, rfl, rfl, rfl⟩) fun vs s4 ⟨o, H4, I4, ps, eo, e4⟩ => ?_
  subst eo e4
  have I5 : Inv X pins σ H4 { s4 with heap := s4.heap.push { cls := .type "slice", data := .fields #[vl, vu, vs] } } := I4.kept (t' := s4.toks) fun b ob q => Heap.get?_push_of_some _ q
  show wpAny (model X.prog X.w) X.A (subscriptTail e (.Slice none none (some (.UnaryOp .USub (.Constant (.int 1) k p1) p2)) p3) (.ref a) (.ref s4.heap.objs.size)) (EP X pins σ Q) X.xe { s4 with heap := s4.heap.push { cls := .type "slice", data := .fields #[vl, vu, vs] } }
  rcases hx with ⟨hx, q⟩ | ⟨hx, q⟩
  · obtain ⟨its, r, ht, hz⟩ := I5.list hx
    have hlen := r.length
    refine tail_any (ops := [.ref a, .ref s4.heap.objs.size]) ht.isList.typeIs (PySem.slot_list_getitem.lookup) ?_ (by with_unfolding_all rfl)
    refine wpAny_getItem_list_slice ht.isList (Heap.IsSliceOf.new _ vl vu vs) pl pu ps (by decide) ?_ (by rw [List.size_toArray]; omega)
    rw [PySem.W.krv_pick]
    refine ⟨.ref _, _, I5.laid (t' := s4.toks) (o := .lst xs.reverse) (fun b ob q => Heap.get?_push_of_some _ q) (Nat.le_refl _) ?_, rfl, q _ (I5.hok.fresh (Nat.le_refl _))⟩
    exact ⟨by rw [List.length_reverse]; exact hz, _, 0, r.reverse, Heap.get?_push_size _ rfl⟩
  · obtain ⟨its, r, ht, hz⟩ := I5.tuple hx
    have hlen := r.length
    cases pl
    cases pu
    refine tail_any (ops := [.ref a, .ref s4.heap.objs.size]) ht.typeIs (PyProof.Rows.slot_tuple_getitem.lookup) ?_ (by with_unfolding_all rfl)
    refine getItem_tuple_rev ht (Heap.IsSliceOf.new _ .none .none vs) ps ?_ (by rw [List.size_toArray]; omega)
    refine ⟨.ref _, _, I5.laid (t' := s4.toks) (o := .tup xs.reverse) (fun b ob q => Heap.get?_push_of_some _ q) (Nat.le_refl _) ?_, rfl, q _ (I5.hok.fresh (Nat.le_refl _))⟩
    exact ⟨by rw [List.length_reverse]; exact hz, _, r.reverse, IsTup.new _ _⟩
end
end FC

/-! Part 3: each operation on data is what the hand layer's rule says. -/
namespace FC
open PySem PySem.Spec PyProof.Rows L2

def opFresh : Op → Bool
  | .add | .mul | .sl _ _ | .rev | .list | .listR | .sorted => true
  | _ => false
def Out (fr : Bool) (K : PySem.W.Frag) (F H : Hp) (d : D) (Q : VK) : Prop := ∀ (v : V) (F' H' : Hp), Ext (fun _ => False) F H F' H' → Same F' H' →
  (if (fr && newObj d) = true then (∃ a, v = V.ref a ∧ H a = none ∧ F' a = none ∧ Ob K F' H' a d) else Rp K F' v d) → Q v H'
def OpRd (K : PySem.W.Frag) (o : Op) (vs : List V) (H : Hp) (Q : VK) : Prop := ∃ (F : Hp) (ds : List D) (d : D), Same F H ∧ TRs K F H vs ds ∧ opD o ds = some d ∧ Out (opFresh o) K F H d Q

section
variable {K : PySem.W.Frag} {F H : Hp} {Q : VK} {fr : Bool} {v : V} {d : D}
theorem none_sub {p : Addr} (sub : Same F H) (hp : H p = none) : F p = none := by
  cases e : F p with
  | none => rfl
  | some u => rw [sub p u e] at hp; cases hp
theorem Out.scal (sub : Same F H) (r : Rp K F v d) (hd : newObj d = false) (o : Out fr K F H d Q) : Q v H := by
  refine o v F H Ext.refl sub ?_
  rw [hd, Bool.and_false, if_neg Bool.false_ne_true]
  exact r
theorem Out.val (sub : Same F H) (r : Rp K F v d) (o : Out false K F H d Q) : Q v H := by
  refine o v F H Ext.refl sub ?_
  rw [Bool.false_and, if_neg Bool.false_ne_true]
  exact r
theorem Out.tup {vs : List V} {ds : List D} {p : Addr} (sub : Same F H) (r : Rps K F vs ds) (hp : H p = none) (o : Out fr K F H (.tuple ds) Q) : Q (.ref p) (upd H p (.tup vs)) := by
  refine o _ (upd F p (.tup vs)) _ (ext_newF sub hp) (same_newF sub) ?_
  rw [show newObj (.tuple ds) = false from rfl, Bool.and_false, if_neg Bool.false_ne_true]
  exact .tup (.inl (.inl upd_same)) (Rps.same (ext_newF sub hp).f r)
theorem Out.lst {vs : List V} {ds : List D} {p : Addr} (sub : Same F H) (r : Rps K F vs ds) (hp : H p = none) (o : Out true K F H (.list ds) Q) : Q (.ref p) (upd H p (.lst vs)) := by
  refine o _ F _ (ext_new hp) (same_new sub hp) ?_
  rw [show (true && newObj (.list ds)) = true from rfl, if_pos rfl]
  exact ⟨p, rfl, hp, none_sub sub hp, vs, upd_same, r⟩
theorem trs1 {x : V} {ds : List D} (h : TRs K F H [x] ds) : ∃ d, ds = [d] ∧ TR K F H x d := by
  cases h with
  | cons h r => cases r; exact ⟨_, rfl, h⟩
theorem trs2 {x y : V} {ds : List D} (h : TRs K F H [x, y] ds) : ∃ d e, ds = [d, e] ∧ TR K F H x d ∧ TR K F H y e := by
  cases h with
  | cons h r => obtain ⟨e, rfl, q⟩ := trs1 r; exact ⟨_, _, rfl, h, q⟩
theorem trs3 {x y z : V} {ds : List D} (h : TRs K F H [x, y, z] ds) : ∃ d e f, ds = [d, e, f] ∧ TR K F H x d ∧ TR K F H y e ∧ TR K F H z f := by
  cases h with
  | cons h r => obtain ⟨e, f, rfl, q, q'⟩ := trs2 r; exact ⟨_, _, _, rfl, h, q, q'⟩
theorem TRs.length {vs : List V} {ds : List D} (h : TRs K F H vs ds) : vs.length = ds.length := by
  induction h with
  | nil => rfl
  | cons _ _ ih => rw [List.length_cons, List.length_cons, ih]
end

section
variable {X : Cx}
theorem OpR.imp {f : Value → Value → Sem Value} {r r0 : R2} (h : OpR X f r0) (i : ∀ x y H Q, r x y H Q → r0 x y H Q) : OpR X f r :=
  fun pins s σ H x y v u Q I rx ry q => h pins s σ H x y v u Q I rx ry (i _ _ _ _ q)
theorem Inv.lstR {pins : List (Addr × Obj)} {σ : L2.St} {H : Hp} {s : Shared} {l : Addr} {xs : List V} (I : Inv X pins σ H s) (hH : Rd H l (.lst xs)) : xs.length ≤ sizeLine ∧ ∃ (its : List Value) (n : Nat), Vals xs its ∧ xs.length = its.length ∧ s.heap.get? l = some { cls := .type "list", data := .seq its.toArray n } := by
  obtain ⟨z, its, n, r, e⟩ := hH.ok I.hok
  exact ⟨z, its, n, r, r.length, e⟩
def rCatR : R2 := fun x y H Q => ∃ l b xs zs, x = .ref l ∧ y = .ref b ∧ Rd H l (.lst xs) ∧ Rd H b (.lst zs) ∧ xs.length + zs.length ≤ sizeLine ∧ ∀ p, H p = none → Q (.ref p) (upd H p (.lst (xs ++ zs)))
theorem op_catR : OpR X (binaryOp .Add) rCatR := by
  intro pins s σ H x y v u Q I rx ry h
  obtain ⟨l, b, xs, zs, rfl, rfl, hH, hB, hz, q⟩ := h
  cases rx
  cases ry
  obtain ⟨z, its, n, r, hl, e⟩ := Inv.lstR I hH
  obtain ⟨z2, its2, n2, r2, hl2, e2⟩ := Inv.lstR I hB
  refine PySem.P.add_list e e2 ?_ (by rw [List.size_toArray, List.size_toArray]; omega)
  have ea : its.toArray ++ its2.toArray = (its ++ its2).toArray := by simp
  rw [ea]
  exact ⟨.ref _, _, I.lnew (t' := s.toks) (r.append r2) (by rw [List.length_append]; omega), rfl, q _ I.fresh⟩
def rRepR : R2 := fun x y H Q => ∃ l k xs, x = .ref l ∧ y = .int k ∧ Rd H l (.lst xs) ∧ -(2 ^ 63) ≤ k ∧ k < 2 ^ 63 ∧ xs.length * k.toNat ≤ sizeLine ∧
  ∀ p, H p = none → Q (.ref p) (upd H p (.lst (List.replicate k.toNat xs).flatten))
theorem op_repR : OpR X (binaryOp .Mult) rRepR := by
  intro pins s σ H x y v u Q I rx ry h
  obtain ⟨l, k, xs, rfl, rfl, hH, h1, h2, hz, q⟩ := h
  cases rx
  obtain ⟨t, rfl⟩ := ry
  obtain ⟨z, its, n, r, hl, e⟩ := Inv.lstR I hH
  have hlen : its.toArray.size * k.toNat ≤ sizeLine := by rw [List.size_toArray, ← hl]; exact hz
  have hcap : ¬ its.toArray.size * k.toNat > (2 ^ 63 - 1) / 8 := by
    have : (sizeLine : Nat) ≤ (2 ^ 63 - 1) / 8 := by decide
    omega
  have hfit : ¬ (!Builtin.List.listFitsIndex k) = true := by
    rw [fitsIndex_both h1 h2]
    exact Bool.false_ne_true
  have hlong : ¬ Builtin.List.listTooLong (its.toArray.size * k.toNat) = true := by
    rw [notLongL hlen]
    exact Bool.false_ne_true
  have hnew : List.foldl (fun x1 x2 => x1 ++ x2) #[] (List.replicate (if its.toArray.isEmpty = true then 0 else k.toNat) its.toArray) = (List.replicate k.toNat its).flatten.toArray := by
    have f0 : ∀ m : Nat, List.foldl (fun x1 x2 => x1 ++ x2) #[] (List.replicate m its.toArray) = (List.replicate m its).flatten.toArray := fun m => by
      have := foldl_rep its m []
      rw [List.nil_append] at this
      exact this
    rw [f0]
    cases its with
    | nil => simp
    | cons a r' => rw [if_neg (by simp)]
  refine wpAny_binaryOp_repeat_ref (T := "list") (U := "int") (by decide) ⟨_, e, rfl⟩ (fun s' => typeIs_int s' k t) noFill_list_mul F.fills_int_mul F.slot_int_rmul repeat_list F.slot_int_index.lookup
    (call_meets F.slot_int_rmul (typeIs_int s k t) F.entry_int_rmul (F.args_int_rmul_2 _ _) (int___rmul___int_list k t l its.toArray n)
      ⟨e, rfl, ⟨_, e, rfl⟩, call_meets F.slot_list_mul ⟨_, e, rfl⟩ F.entry_list_mul (F.args_list_mul_2 _ _) (AutoListH.list___mul___list_int_3 l its.toArray n k t hfit hcap hlong) ⟨e, ?_⟩⟩)
  rw [hnew]
  exact ⟨.ref _, _, I.lnew (t' := s.toks) (r.rep k.toNat) (by rw [PyProof.Rows.lm_len_rep_flat, Nat.mul_comm]; exact hz), rfl, q _ I.fresh⟩

theorem ro_add : OpR X (binaryOp .Add) (fun x y H Q => OpRd X.K .add [x, y] H Q) := by
  refine OpR.imp (((op_add.or op_add_str).or (op_catR.or op_catA))) fun x y H Q h => ?_
  obtain ⟨F, ds, d, sub, trs, hd, out⟩ := h
  obtain ⟨d1, d2, rfl, t1, t2⟩ := trs2 trs
  change opAdd d1 d2 = some d at hd
  unfold opAdd at hd
  split at hd
  · cases hd
    exact .inl (.inl ⟨_, _, t1.int, t2.int, out.scal sub (.int _) rfl⟩)
  · split at hd
    · rename_i h
      cases hd
      exact .inl (.inr ⟨_, _, t1.str, t2.str, h, out.scal sub (.str _) rfl⟩)
    · cases hd
  · split at hd
    · rename_i h
      cases hd
      obtain ⟨a, xs, rfl, h1, r1⟩ := t1.list sub
      obtain ⟨b, ys, rfl, h2, r2⟩ := t2.list sub
      exact .inr (.inl ⟨a, b, xs, ys, rfl, rfl, h1, h2, by rw [r1.length, r2.length]; exact h, fun p hp => out.lst sub (r1.append r2) hp⟩)
    · cases hd
  · split at hd
    · rename_i h
      cases hd
      obtain ⟨a, xs, rfl, h1, f1, r1⟩ := t1.tuple sub
      obtain ⟨b, ys, rfl, h2, f2, r2⟩ := t2.tuple sub
      refine .inr (.inr ⟨a, b, xs, ys, rfl, rfl, h1, h2, by rw [r1.length, r2.length]; exact h, fun e => ?_, fun _ e => ?_, fun _ _ p hp => out.tup sub (r1.append r2) hp⟩)
      · subst e
        cases r1
        exact out.scal sub (.tup f2 r2) rfl
      · subst e
        cases r2
        refine out.scal sub (.tup f1 ?_) rfl
        rw [List.append_nil]
        exact r1
    · cases hd
  · cases hd
theorem ro_sub : OpR X (binaryOp .Sub) (fun x y H Q => OpRd X.K .sub [x, y] H Q) := by
  refine OpR.imp op_sub fun x y H Q h => ?_
  obtain ⟨F, ds, d, sub, trs, hd, out⟩ := h
  obtain ⟨d1, d2, rfl, t1, t2⟩ := trs2 trs
  change opSub d1 d2 = some d at hd
  cases d1 <;> cases d2 <;> simp only [opSub] at hd <;> first | cases hd | skip
  exact ⟨_, _, t1.int, t2.int, out.scal sub (.int _) rfl⟩
theorem flat_nil {α : Type} : ∀ n : Nat, (List.replicate n ([] : List α)).flatten = []
  | 0 => rfl
  | n + 1 => by rw [List.replicate_succ, List.flatten_cons, flat_nil n]; rfl
theorem ro_mul : OpR X (binaryOp .Mult) (fun x y H Q => OpRd X.K .mul [x, y] H Q) := by
  refine OpR.imp ((op_mul.or op_mulW).or (op_repR.or op_repA)) fun x y H Q h => ?_
  obtain ⟨F, ds, d, sub, trs, hd, out⟩ := h
  obtain ⟨d1, d2, rfl, t1, t2⟩ := trs2 trs
  change opMul d1 d2 = some d at hd
  unfold opMul at hd
  split at hd
  · split at hd
    · rename_i i j hm
      cases hd
      unfold mulOk at hm
      simp only [Bool.or_eq_true, Bool.and_eq_true, decide_eq_true_eq] at hm
      rcases hm with hm | hm
      · exact .inl (.inl ⟨_, _, t1.int, t2.int, hm, out.scal sub (.int _) rfl⟩)
      · exact .inl (.inr ⟨_, _, t1.int, t2.int, hm, out.scal sub (.int _) rfl⟩)
    · cases hd
  · split at hd
    · rename_i xs k hk
      cases hd
      simp only [Bool.and_eq_true, decide_eq_true_eq, smallI] at hk
      obtain ⟨a, vs, rfl, h1, r1⟩ := t1.list sub
      exact .inr (.inl ⟨a, k, vs, rfl, t2.int, h1, by omega, by omega, by rw [r1.length]; exact hk.2, fun p hp => out.lst sub (r1.rep _) hp⟩)
    · cases hd
  · split at hd
    · rename_i xs k hk
      cases hd
      simp only [Bool.and_eq_true, decide_eq_true_eq] at hk
      obtain ⟨a, vs, rfl, h1, f1, r1⟩ := t1.tuple sub
      refine .inr (.inr ⟨a, k, vs, rfl, t2.int, h1, hk.1.2, hk.1.1, by rw [r1.length]; exact hk.2, fun e => ?_, fun _ p hp => out.tup sub (r1.rep _) hp⟩)
      have e2 : (List.replicate k.toNat xs).flatten = xs := by
        rcases e with rfl | rfl
        · cases r1
          exact flat_nil _
        · show (List.replicate 1 xs).flatten = xs
          simp
      rw [e2] at out
      exact out.scal sub (.tup f1 r1) rfl
    · cases hd
  · cases hd
theorem ro_fdiv : OpR X (binaryOp .FloorDiv) (fun x y H Q => OpRd X.K .fdiv [x, y] H Q) := by
  refine OpR.imp op_fdivW fun x y H Q h => ?_
  obtain ⟨F, ds, d, sub, trs, hd, out⟩ := h
  obtain ⟨d1, d2, rfl, t1, t2⟩ := trs2 trs
  change opFdiv d1 d2 = some d at hd
  cases d1 <;> cases d2 <;> simp only [opFdiv] at hd <;> first | cases hd | skip
  split at hd
  · rename_i hk
    cases hd
    simp only [Bool.and_eq_true, decide_eq_true_eq] at hk
    exact ⟨_, _, t1.int, t2.int, hk, out.scal sub (.int _) rfl⟩
  · cases hd
theorem ro_mod : OpR X (binaryOp .Mod) (fun x y H Q => OpRd X.K .mod [x, y] H Q) := by
  refine OpR.imp op_mod fun x y H Q h => ?_
  obtain ⟨F, ds, d, sub, trs, hd, out⟩ := h
  obtain ⟨d1, d2, rfl, t1, t2⟩ := trs2 trs
  change opMod d1 d2 = some d at hd
  cases d1 <;> cases d2 <;> simp only [opMod] at hd <;> first | cases hd | skip
  split at hd
  · rename_i hk
    cases hd
    simp only [decide_eq_true_eq] at hk
    exact ⟨_, _, t1.int, t2.int, hk, out.scal sub (.int _) rfl⟩
  · cases hd
theorem ro_pow : OpR X (binaryOp .Pow) (fun x y H Q => OpRd X.K .pow [x, y] H Q) := by
  refine OpR.imp op_pow fun x y H Q h => ?_
  obtain ⟨F, ds, d, sub, trs, hd, out⟩ := h
  obtain ⟨d1, d2, rfl, t1, t2⟩ := trs2 trs
  change opPow d1 d2 = some d at hd
  cases d1 <;> cases d2 <;> simp only [opPow] at hd <;> first | cases hd | skip
  split at hd
  · rename_i hk
    cases hd
    simp only [Bool.and_eq_true, decide_eq_true_eq] at hk
    exact ⟨_, _, t1.int, t2.int, ⟨hk.1.1, hk.1.2, hk.2⟩, out.scal sub (.int _) rfl⟩
  · cases hd
theorem ro_eq (hu : X.A.units + 64 < cLine) : OpR X (compareOp .Eq) (fun x y H Q => OpRd X.K .eq [x, y] H Q) := by
  refine OpR.imp (op_eqD hu) fun x y H Q h => ?_
  obtain ⟨F, ds, d, sub, trs, hd, out⟩ := h
  obtain ⟨d1, d2, rfl, t1, t2⟩ := trs2 trs
  change (if (sh d1 && sh d2) = true then some (.bool (PyData.eqv d1 d2)) else none) = some d at hd
  split at hd
  · rename_i hk
    cases hd
    simp only [sh, Bool.and_eq_true] at hk
    exact ⟨d1, d2, t1.dp sub (SeqAt.canLay_of_shaped hk.1), t2.dp sub (SeqAt.canLay_of_shaped hk.2), hk.1, hk.2, out.scal sub (.bl _) rfl⟩
  · cases hd
theorem ro_ne (hu : X.A.units + 64 < cLine) : OpR X (compareOp .NotEq) (fun x y H Q => OpRd X.K .ne [x, y] H Q) := by
  refine OpR.imp (op_neD hu) fun x y H Q h => ?_
  obtain ⟨F, ds, d, sub, trs, hd, out⟩ := h
  obtain ⟨d1, d2, rfl, t1, t2⟩ := trs2 trs
  change (if (sh d1 && sh d2) = true then some (.bool (!PyData.eqv d1 d2)) else none) = some d at hd
  split at hd
  · rename_i hk
    cases hd
    simp only [sh, Bool.and_eq_true] at hk
    exact ⟨d1, d2, t1.dp sub (SeqAt.canLay_of_shaped hk.1), t2.dp sub (SeqAt.canLay_of_shaped hk.2), hk.1, hk.2, out.scal sub (.bl _) rfl⟩
  · cases hd
theorem ro_lt : OpR X (compareOp .Lt) (fun x y H Q => OpRd X.K .lt [x, y] H Q) := by
  refine OpR.imp (op_lt.or op_lt_str) fun x y H Q h => ?_
  obtain ⟨F, ds, d, sub, trs, hd, out⟩ := h
  obtain ⟨d1, d2, rfl, t1, t2⟩ := trs2 trs
  change opLt d1 d2 = some d at hd
  cases d1 <;> cases d2 <;> simp only [opLt] at hd <;> first | cases hd | skip
  · exact .inl ⟨_, _, t1.int, t2.int, out.scal sub (.bl _) rfl⟩
  · exact .inr ⟨_, _, t1.str, t2.str, out.scal sub (.bl _) rfl⟩
theorem ro_le : OpR X (compareOp .LtE) (fun x y H Q => OpRd X.K .le [x, y] H Q) := by
  refine OpR.imp op_le fun x y H Q h => ?_
  obtain ⟨F, ds, d, sub, trs, hd, out⟩ := h
  obtain ⟨d1, d2, rfl, t1, t2⟩ := trs2 trs
  change opLe d1 d2 = some d at hd
  cases d1 <;> cases d2 <;> simp only [opLe] at hd <;> first | cases hd | skip
  exact ⟨_, _, t1.int, t2.int, out.scal sub (.bl _) rfl⟩
theorem ro_gt : OpR X (compareOp .Gt) (fun x y H Q => OpRd X.K .gt [x, y] H Q) := by
  refine OpR.imp op_gt fun x y H Q h => ?_
  obtain ⟨F, ds, d, sub, trs, hd, out⟩ := h
  obtain ⟨d1, d2, rfl, t1, t2⟩ := trs2 trs
  cases d1 <;> cases d2 <;> simp only [opD, op2] at hd <;> first | cases hd | skip
  exact ⟨_, _, t1.int, t2.int, out.scal sub (.bl _) rfl⟩
theorem ro_ge : OpR X (compareOp .GtE) (fun x y H Q => OpRd X.K .ge [x, y] H Q) := by
  refine OpR.imp op_ge fun x y H Q h => ?_
  obtain ⟨F, ds, d, sub, trs, hd, out⟩ := h
  obtain ⟨d1, d2, rfl, t1, t2⟩ := trs2 trs
  cases d1 <;> cases d2 <;> simp only [opD, op2] at hd <;> first | cases hd | skip
  exact ⟨_, _, t1.int, t2.int, out.scal sub (.bl _) rfl⟩
theorem ro_in (hu : X.A.units + 65 < cLine) : OpR X (compareOp .In) (fun x y H Q => OpRd X.K .inn [x, y] H Q) := by
  refine OpR.imp ((op_inD hu).or op_in_str) fun x y H Q h => ?_
  obtain ⟨F, ds, d, sub, trs, hd, out⟩ := h
  obtain ⟨d1, d2, rfl, t1, t2⟩ := trs2 trs
  change (match opIn d1 d2 with | some k => some (.bool (k)) | none => none) = some d at hd
  cases hk : opIn d1 d2 with
  | none => rw [hk] at hd; cases hd
  | some k =>
  rw [hk] at hd
  cases hd
  unfold opIn at hk
  split at hk
  · split at hk
    · rename_i ds hs
      cases hk
      simp only [sh, Bool.and_eq_true] at hs
      exact .inl ⟨d1, ds, t1.dp sub (SeqAt.canLay_of_shaped hs.1), t2.dp sub (SeqAt.canLay_of_shaped hs.2), hs.1, hs.2, out.scal sub (.bl _) rfl⟩
    · cases hk
  · split at hk
    · cases hk
      exact .inr ⟨_, _, t1.str, t2.str, out.scal sub (.bl _) rfl⟩
    · cases hk
  · cases hk
theorem ro_notin (hu : X.A.units + 65 < cLine) : OpR X (compareOp .NotIn) (fun x y H Q => OpRd X.K .notin [x, y] H Q) := by
  refine OpR.imp ((op_notInD hu).or op_notIn_str) fun x y H Q h => ?_
  obtain ⟨F, ds, d, sub, trs, hd, out⟩ := h
  obtain ⟨d1, d2, rfl, t1, t2⟩ := trs2 trs
  change (match opIn d1 d2 with | some k => some (.bool (!k)) | none => none) = some d at hd
  cases hk : opIn d1 d2 with
  | none => rw [hk] at hd; cases hd
  | some k =>
  rw [hk] at hd
  cases hd
  unfold opIn at hk
  split at hk
  · split at hk
    · rename_i ds hs
      cases hk
      simp only [sh, Bool.and_eq_true] at hs
      exact .inl ⟨d1, ds, t1.dp sub (SeqAt.canLay_of_shaped hs.1), t2.dp sub (SeqAt.canLay_of_shaped hs.2), hs.1, hs.2, out.scal sub (.bl _) rfl⟩
    · cases hk
  · split at hk
    · cases hk
      exact .inr ⟨_, _, t1.str, t2.str, out.scal sub (.bl _) rfl⟩
    · cases hk
  · cases hk

/-! ### one operand -/
theorem ro_neg : UnR X (unaryOp .USub) (fun x H Q => OpRd X.K .neg [x] H Q) := by
  intro pins s σ H x v Q I rx h
  refine un_neg pins s σ H x v Q I rx ?_
  obtain ⟨F, ds, d, sub, trs, hd, out⟩ := h
  obtain ⟨d1, rfl, t1⟩ := trs1 trs
  change opNeg d1 = some d at hd
  cases d1 <;> simp only [opNeg] at hd <;> first | cases hd | skip
  exact ⟨_, t1.int, out.scal sub (.int _) rfl⟩
theorem isN_of {F H : Hp} {x : V} {d : D} (t : TR X.K F H x d) : decide (x = .non) = isNone d := by
  rcases t with t | ⟨a, rfl, t⟩
  · cases t <;> simp [isNone]
  · cases d <;> first | exact t.elim | simp [isNone]
theorem ro_isN {H : Hp} {x : V} {Q : VK} (h : OpRd X.K .isN [x] H Q) : Q (.bl (decide (x = .non))) H := by
  obtain ⟨F, ds, d, sub, trs, hd, out⟩ := h
  obtain ⟨d1, rfl, t1⟩ := trs1 trs
  change some (.bool (isNone d1)) = some d at hd
  cases hd
  rw [isN_of t1]
  exact out.scal sub (.bl _) rfl
theorem ro_notN {H : Hp} {x : V} {Q : VK} (h : OpRd X.K .notN [x] H Q) : Q (.bl (!decide (x = .non))) H := by
  obtain ⟨F, ds, d, sub, trs, hd, out⟩ := h
  obtain ⟨d1, rfl, t1⟩ := trs1 trs
  change some (.bool (!isNone d1)) = some d at hd
  cases hd
  rw [isN_of t1]
  exact out.scal sub (.bl _) rfl
theorem ro_isB {b : Bool} {H : Hp} {x : V} {Q : VK} (h : OpRd X.K (.isB b) [x] H Q) : ∃ a, x = .bl a ∧ Q (.bl (decide (a = b))) H := by
  obtain ⟨F, ds, d, sub, trs, hd, out⟩ := h
  obtain ⟨d1, rfl, t1⟩ := trs1 trs
  change opIsB b d1 = some d at hd
  cases d1 <;> simp only [opIsB] at hd <;> first | cases hd | skip
  exact ⟨_, t1.bl, out.scal sub (.bl _) rfl⟩
theorem ro_notB {b : Bool} {H : Hp} {x : V} {Q : VK} (h : OpRd X.K (.notB b) [x] H Q) : ∃ a, x = .bl a ∧ Q (.bl (!decide (a = b))) H := by
  obtain ⟨F, ds, d, sub, trs, hd, out⟩ := h
  obtain ⟨d1, rfl, t1⟩ := trs1 trs
  change opNotB b d1 = some d at hd
  cases d1 <;> simp only [opNotB] at hd <;> first | cases hd | skip
  exact ⟨_, t1.bl, out.scal sub (.bl _) rfl⟩

/-! ### items and slices -/
theorem atI_rps {K : PySem.W.Frag} {F : Hp} {vs : List V} {ds : List D} {i : Int} {d : D} (r : Rps K F vs ds) (h : atI ds i = some d) : ∃ v, atI vs i = some v ∧ Rp K F v d := by
  unfold atI at h ⊢
  rw [r.length]
  cases e : ixN ds.length i with
  | none => rw [e] at h; cases h
  | some j =>
    rw [e] at h
    exact r.get h
theorem ro_ix : IxR X (fun x y H Q => OpRd X.K .ix [x, y] H Q) := by
  intro va sl pins s σ H x y v u Q I rx ry h
  refine ix_seq va sl pins s σ H x y v u Q I rx ry ?_
  obtain ⟨F, ds, d, sub, trs, hd, out⟩ := h
  obtain ⟨d1, d2, rfl, t1, t2⟩ := trs2 trs
  change opIx d1 d2 = some d at hd
  unfold opIx at hd
  split at hd
  · obtain ⟨a, vs, rfl, h1, r1⟩ := t1.list sub
    obtain ⟨w, hw, rw'⟩ := atI_rps r1 hd
    exact .inl ⟨a, vs, _, w, rfl, t2.int, .inl h1, hw, out.val sub rw'⟩
  · obtain ⟨a, vs, rfl, h1, f1, r1⟩ := t1.tuple sub
    obtain ⟨w, hw, rw'⟩ := atI_rps r1 hd
    exact .inr (.inl ⟨a, vs, _, w, rfl, t2.int, h1, hw, out.val sub rw'⟩)
  · split at hd
    · rename_i hz
      simp only [Option.map_eq_some_iff] at hd
      obtain ⟨c, hc, rfl⟩ := hd
      exact .inr (.inr ⟨_, _, c, t1.str, t2.int, hz, hc, out.scal sub (.str _) rfl⟩)
    · cases hd
  · cases hd
def rSlAll (K : PySem.W.Frag) : V → Option Int → Option Int → Hp → VK → Prop := fun x lo hi H Q => ((∃ a xs, x = .ref a ∧ SqL K H a xs ∧ ∀ p, H p = none → Q (.ref p) (upd H p (.lst (cutV xs lo hi)))) ∨ rSlA K x lo hi H Q) ∨ rSlS x lo hi H Q
theorem sl_out {K : PySem.W.Frag} {F H : Hp} {x : V} {lo hi : Option Int} {d1 d : D} {Q : VK} (sub : Same F H) (t1 : TR K F H x d1) (hd : opSl lo hi d1 = some d) (out : Out true K F H d Q) : rSlAll K x lo hi H Q := by
  unfold opSl at hd
  split at hd
  · cases hd
    obtain ⟨a, vs, rfl, h1, r1⟩ := t1.list sub
    exact .inl (.inl ⟨a, vs, rfl, .inl h1, fun p hp => out.lst sub (cutD_rps r1 lo hi) hp⟩)
  · cases hd
    obtain ⟨a, vs, rfl, h1, f1, r1⟩ := t1.tuple sub
    refine .inl (.inr ⟨a, vs, rfl, h1, fun e => ?_, fun _ p hp => out.tup sub (cutD_rps r1 lo hi) hp⟩)
    refine out.scal sub (.tup f1 ?_) rfl
    have e2 : cutV vs lo hi = vs := by
      unfold cutV
      rw [e.1, e.2, List.drop_zero, Nat.sub_zero, List.take_length]
    have := cutD_rps r1 lo hi
    rw [e2] at this
    exact this
  · split at hd
    · rename_i z hz
      cases hd
      exact .inr ⟨z, t1.str, hz, out.scal sub (.str _) rfl⟩
    · cases hd
  · cases hd
theorem sl_both : SlR X (rSlAll X.K) := (sl_list.or sl_tupA).or sl_str

/-! ### built-ins -/
theorem CallR.imp {f : Value} {r r0 : List V → Hp → VK → Prop} (h : CallR X f r0) (i : ∀ vs H Q, r vs H Q → r0 vs H Q) : CallR X f r :=
  fun pins s σ H xs us Q I rx q => h pins s σ H xs us Q I rx (i _ _ _ q)
theorem CallR.or {f : Value} {r r' : List V → Hp → VK → Prop} (h : CallR X f r) (h' : CallR X f r') : CallR X f (fun vs H Q => r vs H Q ∨ r' vs H Q) :=
  fun pins s σ H xs us Q I rx q => q.elim (h pins s σ H xs us Q I rx) (h' pins s σ H xs us Q I rx)
theorem one_of {K : PySem.W.Frag} {F H : Hp} {vs : List V} {d : D} (h : TRs K F H vs [d]) : ∃ x, vs = [x] ∧ TR K F H x d := by
  cases h with
  | cons h r => cases r; exact ⟨_, rfl, h⟩
theorem two_of {K : PySem.W.Frag} {F H : Hp} {vs : List V} {d e : D} (h : TRs K F H vs [d, e]) : ∃ x y, vs = [x, y] ∧ TR K F H x d ∧ TR K F H y e := by
  cases h with
  | cons h r => obtain ⟨y, rfl, q⟩ := one_of r; exact ⟨_, _, rfl, h, q⟩
theorem op_one {o : Op} {ds : List D} {d : D} (h : opD o ds = some d) (h2 : ∀ a b, op2 o a b = none) (h3 : ∀ a b c, op3 o a b c = none) : ∃ a, ds = [a] ∧ op1 o a = some d := by
  match ds, h with
  | [a], h => exact ⟨a, rfl, h⟩
  | [a, b], h => rw [show opD o [a, b] = op2 o a b from rfl, h2] at h; cases h
  | [a, b, c], h => rw [show opD o [a, b, c] = op3 o a b c from rfl, h3] at h; cases h
theorem op_two {o : Op} {ds : List D} {d : D} (h : opD o ds = some d) (h1 : ∀ a, op1 o a = none) (h3 : ∀ a b c, op3 o a b c = none) : ∃ a b, ds = [a, b] ∧ op2 o a b = some d := by
  match ds, h with
  | [a], h => rw [show opD o [a] = op1 o a from rfl, h1] at h; cases h
  | [a, b], h => exact ⟨a, b, rfl, h⟩
  | [a, b, c], h => rw [show opD o [a, b, c] = op3 o a b c from rfl, h3] at h; cases h
theorem call_len_dK (X : Cx) : CallR X (.builtin "len") (fun xs H Q => ∃ p kvs, xs = [.ref p] ∧ H p = some (.dK kvs) ∧ Q (.int kvs.length) H) :=
  CallR.imp call_lenD fun vs H Q ⟨p, kvs, e, h, q⟩ => ⟨p, kvs, e, h, q⟩
theorem TR.dict {K : PySem.W.Frag} {F H : Hp} {v : V} {ds : List (D × D)} (s : Same F H) (h : TR K F H v (.dict ds)) : ∃ a vs, v = .ref a ∧ H a = some (.dK vs) ∧ Rpk K F vs ds := by
  rcases h with h | ⟨a, rfl, vs, e, r⟩
  · cases h with
    | dct h r => exact ⟨_, _, rfl, s _ _ h, r⟩
  · exact ⟨a, vs, rfl, e, r⟩
theorem Rpk.length {K : PySem.W.Frag} {F : Hp} : ∀ {v : List (Key × V)} {d : List (D × D)}, Rpk K F v d → v.length = d.length
  | _, _, .nil => rfl
  | _, _, .cons _ r => by rw [List.length_cons, List.length_cons, Rpk.length r]
theorem ro_len : CallR X (.builtin "len") (fun vs H Q => OpRd X.K .len vs H Q) := by
  refine CallR.imp ((call_len_seq.or call_len_str).or (call_len_dK X)) fun vs H Q h => ?_
  obtain ⟨F, ds, d, sub, trs, hd, out⟩ := h
  obtain ⟨a, rfl, hd⟩ := op_one hd (fun _ _ => rfl) (fun _ _ _ => rfl)
  obtain ⟨x, rfl, t⟩ := one_of trs
  change opLen a = some d at hd
  unfold opLen at hd
  split at hd
  · cases hd
    obtain ⟨a, vs, rfl, h1, r1⟩ := t.list sub
    refine .inl (.inl ⟨a, vs, rfl, .inl (.inl h1), ?_⟩)
    rw [r1.length]
    exact out.scal sub (.int _) rfl
  · cases hd
    obtain ⟨a, vs, rfl, h1, f1, r1⟩ := t.tuple sub
    refine .inl (.inl ⟨a, vs, rfl, .inr h1, ?_⟩)
    rw [r1.length]
    exact out.scal sub (.int _) rfl
  · split at hd
    · rename_i hz
      cases hd
      exact .inl (.inr ⟨_, by rw [t.str], hz, out.scal sub (.int _) rfl⟩)
    · cases hd
  · cases hd
    obtain ⟨a, vs, rfl, h1, r1⟩ := t.dict sub
    refine .inr ⟨a, vs, rfl, h1, ?_⟩
    rw [r1.length]
    exact out.scal sub (.int _) rfl
  · cases hd
theorem ro_abs : CallR X (.builtin "abs") (fun vs H Q => OpRd X.K .abs vs H Q) := by
  refine CallR.imp call_abs fun vs H Q h => ?_
  obtain ⟨F, ds, d, sub, trs, hd, out⟩ := h
  obtain ⟨a, rfl, hd⟩ := op_one hd (fun _ _ => rfl) (fun _ _ _ => rfl)
  obtain ⟨x, rfl, t⟩ := one_of trs
  change opAbs a = some d at hd
  cases a <;> simp only [opAbs] at hd <;> first | cases hd | skip
  exact ⟨_, by rw [t.int], out.scal sub (.int _) rfl⟩
theorem ro_int : CallR X (.type "int") (fun vs H Q => OpRd X.K .int vs H Q) := by
  refine CallR.imp call_int1 fun vs H Q h => ?_
  obtain ⟨F, ds, d, sub, trs, hd, out⟩ := h
  obtain ⟨a, rfl, hd⟩ := op_one hd (fun _ _ => rfl) (fun _ _ _ => rfl)
  obtain ⟨x, rfl, t⟩ := one_of trs
  change opInt a = some d at hd
  cases a <;> simp only [opInt] at hd <;> first | cases hd | skip
  · exact .inr ⟨_, by rw [t.bl], out.scal sub (.int _) rfl⟩
  · exact .inl ⟨_, by rw [t.int], out.scal sub (.int _) rfl⟩
theorem rpk_keys {K : PySem.W.Frag} {F : Hp} : ∀ {v : List (Key × V)} {d : List (D × D)}, Rpk K F v d → Rps K F (v.map fun kv => kV kv.1) (d.map (·.1))
  | _, _, .nil => .nil
  | _, _, .cons (k := k) _ r => by
    refine .cons ?_ (rpk_keys r)
    cases k with
    | inl i => exact .int i
    | inr x => exact .str x
theorem ro_list (hc : X.calm = true) : CallR X (.type "list") (fun vs H Q => OpRd X.K .list vs H Q) := by
  refine CallR.imp (call_list_of.or (call_list_dK hc)) fun vs H Q h => ?_
  obtain ⟨F, ds, d, sub, trs, hd, out⟩ := h
  obtain ⟨a, rfl, hd⟩ := op_one hd (fun _ _ => rfl) (fun _ _ _ => rfl)
  obtain ⟨x, rfl, t⟩ := one_of trs
  change opList a = some d at hd
  cases a <;> simp only [opList] at hd <;> first | cases hd | skip
  · obtain ⟨a, vs, rfl, h1, r1⟩ := t.list sub
    exact .inl ⟨a, vs, rfl, .inl (.inl h1), fun p hp => out.lst sub r1 hp⟩
  · obtain ⟨a, vs, rfl, h1, f1, r1⟩ := t.tuple sub
    exact .inl ⟨a, vs, rfl, .inr h1, fun p hp => out.lst sub r1 hp⟩
  · obtain ⟨a, vs, rfl, h1, r1⟩ := t.dict sub
    exact .inr ⟨a, vs, rfl, h1, fun p hp => out.lst sub (rpk_keys r1) hp⟩
theorem ro_tuple : CallR X (.type "tuple") (fun vs H Q => OpRd X.K .tuple vs H Q) := by
  refine CallR.imp call_tuple_of fun vs H Q h => ?_
  obtain ⟨F, ds, d, sub, trs, hd, out⟩ := h
  obtain ⟨a, rfl, hd⟩ := op_one hd (fun _ _ => rfl) (fun _ _ _ => rfl)
  obtain ⟨x, rfl, t⟩ := one_of trs
  change opTuple a = some d at hd
  cases a <;> simp only [opTuple] at hd <;> first | cases hd | skip
  · obtain ⟨a, vs, rfl, h1, r1⟩ := t.list sub
    exact ⟨a, vs, rfl, .inl ⟨.inl h1, fun p hp => out.tup sub r1 hp⟩⟩
  · obtain ⟨a, vs, rfl, h1, f1, r1⟩ := t.tuple sub
    exact ⟨a, vs, rfl, .inr ⟨h1, out.scal sub (.tup f1 r1) rfl⟩⟩
theorem sortI_uniq {ns ns' : List Int} (h : ns'.Perm ns) (p : ns'.Pairwise (· ≤ ·)) : ns' = sortI ns := by
  have hs : (sortI ns).Pairwise (· ≤ ·) := by
    have := List.pairwise_mergeSort (le := fun (a b : Int) => decide (a ≤ b)) (fun a b c h1 h2 => by simp only [decide_eq_true_eq] at *; omega) (fun a b => by simp only [Bool.or_eq_true, decide_eq_true_eq]; omega) ns
    exact this.imp fun h => by simpa using h
  have hp : (sortI ns).Perm ns := List.mergeSort_perm ns _
  exact List.Perm.eq_of_pairwise (le := (· ≤ ·)) (fun a b _ _ h1 h2 => by omega) p hs (h.trans hp.symm)
theorem strLe_trans (a b c : Str) (h1 : strLe a b = true) (h2 : strLe b c = true) : strLe a c = true := by
  simp only [strLe, Bool.not_eq_true', decide_eq_false_iff_not] at *
  have h1 := List.not_lt.mp h1
  have h2 := List.not_lt.mp h2
  exact List.not_lt.mpr (List.le_trans h1 h2)
theorem strLe_total (a b : Str) : (strLe a b || strLe b a) = true := by
  simp only [strLe, Bool.or_eq_true, Bool.not_eq_true', decide_eq_false_iff_not]
  rcases List.le_total a.cps.toList b.cps.toList with h | h
  · exact .inl (List.not_lt.mpr h)
  · exact .inr (List.not_lt.mpr h)
theorem strLe_anti (a b : Str) (h1 : strLe a b = true) (h2 : strLe b a = true) : a = b := by
  simp only [strLe, Bool.not_eq_true', decide_eq_false_iff_not] at *
  have h := List.le_antisymm (List.not_lt.mp h1) (List.not_lt.mp h2)
  cases a; cases b
  simp only at h
  rw [Array.toList_inj.mp h]
theorem ltCps_eq : ∀ (a b : List Nat), ltCps a b = decide (a < b)
  | [], [] => by simp [ltCps]
  | [], _ :: _ => by simp [ltCps]
  | _ :: _, [] => by simp [ltCps]
  | a :: r, b :: t => by
    simp only [ltCps, ltCps_eq r t, List.cons_lt_cons_iff, Bool.decide_or, Bool.decide_and]
    rfl
theorem risingS_pair : ∀ (r : List Str) (x : Str), risingS x r = true → (x :: r).Pairwise (fun a b => strLe a b = true)
  | [], x, _ => List.pairwise_singleton _ _
  | y :: r, x, h => by
    have h' : (!ltCps y.cps.toList x.cps.toList && risingS y r) = true := h
    simp only [Bool.and_eq_true] at h'
    have hxy : strLe x y = true := by
      unfold strLe
      rw [← ltCps_eq]
      exact h'.1
    have ih := risingS_pair r y h'.2
    refine List.pairwise_cons.mpr ⟨fun z hz => ?_, ih⟩
    rcases List.mem_cons.mp hz with rfl | hz
    · exact hxy
    · exact strLe_trans x y z hxy ((List.pairwise_cons.mp ih).1 z hz)
theorem sortS_uniq {ns ns' : List Str} (h : ns'.Perm ns) (p : sortedS ns' = true) : ns' = sortS ns := by
  have p2 : ns'.Pairwise (fun a b => strLe a b = true) := by
    cases ns' with
    | nil => exact List.Pairwise.nil
    | cons x r => exact risingS_pair r x p
  have hs : (sortS ns).Pairwise (fun a b => strLe a b = true) := List.pairwise_mergeSort strLe_trans strLe_total ns
  have hp : (sortS ns).Perm ns := List.mergeSort_perm ns _
  exact List.Perm.eq_of_pairwise (le := fun a b => strLe a b = true) (fun a b _ _ h1 h2 => strLe_anti a b h1 h2) p2 hs (h.trans hp.symm)
theorem ro_sorted : CallR X (.builtin "sorted") (fun vs H Q => OpRd X.K .sorted vs H Q) := by
  refine CallR.imp (cr_sortedI.or cr_sortedS) fun vs H Q h => ?_
  obtain ⟨F, ds, d, sub, trs, hd, out⟩ := h
  obtain ⟨a, rfl, hd⟩ := op_one hd (fun _ _ => rfl) (fun _ _ _ => rfl)
  obtain ⟨x, rfl, t⟩ := one_of trs
  change opSorted a = some d at hd
  unfold opSorted at hd
  split at hd
  · split at hd
    · rename_i ns e
      cases hd
      rw [intsOf_eq e] at t
      obtain ⟨a, vs, rfl, h1, r1⟩ := t.list sub
      rw [r1.ints] at h1
      refine .inl ⟨a, ns, rfl, .inl h1, fun ns' p h2 h3 hp => ?_⟩
      rw [sortI_uniq h2 h3]
      exact out.lst sub (rps_ints _) hp
    · split at hd
      · split at hd
        · rename_i ns e h64
          cases hd
          rw [strsOf_eq e] at t
          obtain ⟨a, vs, rfl, h1, r1⟩ := t.list sub
          rw [r1.strs] at h1
          refine .inr ⟨a, ns, rfl, .inl h1, h64, fun ns' p h2 h3 hp => ?_⟩
          rw [sortS_uniq h2 h3]
          exact out.lst sub (rps_strs _) hp
        · cases hd
      · cases hd
  · cases hd
theorem maxOf_is : ∀ (r : List Int) (x m : Int), r.foldl (fun a b => if b > a then b else a) x = m → (m ∈ x :: r) ∧ ∀ y ∈ x :: r, y ≤ m
  | [], x, m, h => by
    have h : x = m := h
    subst h
    exact ⟨List.mem_cons_self, fun y hy => by rcases List.mem_cons.mp hy with rfl | hy; exact Int.le_refl _; cases hy⟩
  | z :: r, x, m, h => by
    have h : r.foldl (fun a b => if b > a then b else a) (if z > x then z else x) = m := h
    obtain ⟨h1, h2⟩ := maxOf_is r _ m h
    have hx : x ≤ m := by
      have := h2 _ List.mem_cons_self
      split at this <;> omega
    have hz : z ≤ m := by
      have := h2 _ List.mem_cons_self
      split at this <;> omega
    refine ⟨?_, fun y hy => ?_⟩
    · rcases List.mem_cons.mp h1 with e | e
      · split at e
        · rw [e]; exact List.mem_cons_of_mem _ List.mem_cons_self
        · rw [e]; exact List.mem_cons_self
      · exact List.mem_cons_of_mem _ (List.mem_cons_of_mem _ e)
    · rcases List.mem_cons.mp hy with rfl | hy
      · exact hx
      · rcases List.mem_cons.mp hy with rfl | hy
        · exact hz
        · exact h2 y (List.mem_cons_of_mem _ hy)
theorem minOf_is : ∀ (r : List Int) (x m : Int), r.foldl (fun a b => if b < a then b else a) x = m → (m ∈ x :: r) ∧ ∀ y ∈ x :: r, m ≤ y
  | [], x, m, h => by
    have h : x = m := h
    subst h
    exact ⟨List.mem_cons_self, fun y hy => by rcases List.mem_cons.mp hy with rfl | hy; exact Int.le_refl _; cases hy⟩
  | z :: r, x, m, h => by
    have h : r.foldl (fun a b => if b < a then b else a) (if z < x then z else x) = m := h
    obtain ⟨h1, h2⟩ := minOf_is r _ m h
    have hx : m ≤ x := by
      have := h2 _ List.mem_cons_self
      split at this <;> omega
    have hz : m ≤ z := by
      have := h2 _ List.mem_cons_self
      split at this <;> omega
    refine ⟨?_, fun y hy => ?_⟩
    · rcases List.mem_cons.mp h1 with e | e
      · split at e
        · rw [e]; exact List.mem_cons_of_mem _ List.mem_cons_self
        · rw [e]; exact List.mem_cons_self
      · exact List.mem_cons_of_mem _ (List.mem_cons_of_mem _ e)
    · rcases List.mem_cons.mp hy with rfl | hy
      · exact hx
      · rcases List.mem_cons.mp hy with rfl | hy
        · exact hz
        · exact h2 y (List.mem_cons_of_mem _ hy)
theorem ro_max1 (hc : X.calm = true) : CallR X (.builtin "max") (fun vs H Q => OpRd X.K .max1 vs H Q) := by
  refine CallR.imp (cr_max hc) fun vs H Q h => ?_
  obtain ⟨F, ds, d, sub, trs, hd, out⟩ := h
  obtain ⟨a, rfl, hd⟩ := op_one hd (fun _ _ => rfl) (fun _ _ _ => rfl)
  obtain ⟨x, rfl, t⟩ := one_of trs
  change opMax1 a = some d at hd
  unfold opMax1 at hd
  split at hd
  · split at hd
    · rename_i ns e
      rw [intsOf_eq e] at t
      obtain ⟨a, vs, rfl, h1, r1⟩ := t.list sub
      rw [r1.ints] at h1
      cases ns with
      | nil => cases hd
      | cons z r =>
        cases hd
        refine ⟨a, _, rfl, .inl h1, by simp, fun m hm hm2 => ?_⟩
        obtain ⟨k1, k2⟩ := maxOf_is r z _ rfl
        rw [show m = r.foldl (fun a b => if b > a then b else a) z from Int.le_antisymm (k2 m hm) (hm2 _ k1)]
        exact out.scal sub (.int _) rfl
    · cases hd
  · cases hd
theorem ro_min1 (hc : X.calm = true) : CallR X (.builtin "min") (fun vs H Q => OpRd X.K .min1 vs H Q) := by
  refine CallR.imp (cr_min hc) fun vs H Q h => ?_
  obtain ⟨F, ds, d, sub, trs, hd, out⟩ := h
  obtain ⟨a, rfl, hd⟩ := op_one hd (fun _ _ => rfl) (fun _ _ _ => rfl)
  obtain ⟨x, rfl, t⟩ := one_of trs
  change opMin1 a = some d at hd
  unfold opMin1 at hd
  split at hd
  · split at hd
    · rename_i ns e
      rw [intsOf_eq e] at t
      obtain ⟨a, vs, rfl, h1, r1⟩ := t.list sub
      rw [r1.ints] at h1
      cases ns with
      | nil => cases hd
      | cons z r =>
        cases hd
        refine ⟨a, _, rfl, .inl h1, by simp, fun m hm hm2 => ?_⟩
        obtain ⟨k1, k2⟩ := minOf_is r z _ rfl
        rw [show m = r.foldl (fun a b => if b < a then b else a) z from Int.le_antisymm (hm2 _ k1) (k2 m hm)]
        exact out.scal sub (.int _) rfl
    · cases hd
  · cases hd
theorem ro_max2 (hc : X.calm = true) : CallR X (.builtin "max") (fun vs H Q => OpRd X.K .max2 vs H Q) := by
  refine CallR.imp (call_max2 hc) fun vs H Q h => ?_
  obtain ⟨F, ds, d, sub, trs, hd, out⟩ := h
  obtain ⟨a, b, rfl, hd⟩ := op_two hd (fun _ => rfl) (fun _ _ _ => rfl)
  obtain ⟨x, y, rfl, t1, t2⟩ := two_of trs
  change opMax2 a b = some d at hd
  cases a <;> cases b <;> simp only [opMax2] at hd <;> first | cases hd | skip
  exact ⟨_, _, by rw [t1.int, t2.int], out.scal sub (.int _) rfl⟩
theorem ro_min2 (hc : X.calm = true) : CallR X (.builtin "min") (fun vs H Q => OpRd X.K .min2 vs H Q) := by
  refine CallR.imp (call_min2 hc) fun vs H Q h => ?_
  obtain ⟨F, ds, d, sub, trs, hd, out⟩ := h
  obtain ⟨a, b, rfl, hd⟩ := op_two hd (fun _ => rfl) (fun _ _ _ => rfl)
  obtain ⟨x, y, rfl, t1, t2⟩ := two_of trs
  change opMin2 a b = some d at hd
  cases a <;> cases b <;> simp only [opMin2] at hd <;> first | cases hd | skip
  exact ⟨_, _, by rw [t1.int, t2.int], out.scal sub (.int _) rfl⟩
/-! ### isinstance -/
def tyN : Ty → String
  | .int => "int"
  | .bool => "bool"
  | .str => "str"
  | .list => "list"
  | .tuple => "tuple"
  | .dict => "dict"
def dTy : D → String
  | .none => "NoneType"
  | .bool _ => "bool"
  | .int _ => "int"
  | .str _ => "str"
  | .list _ => "list"
  | .tuple _ => "tuple"
  | .dict _ => "dict"
theorem tyx_of {K : PySem.W.Frag} {F H : Hp} {x : V} {d : D} (sub : Same F H) (t : TR K F H x d) : TyX K H x (.type (dTy d)) := by
  cases d with
  | none => rw [t.non]; exact .base .non
  | bool b => rw [t.bl]; exact .base (.bl _)
  | int i => rw [t.int]; exact .base (.int _)
  | str z => rw [t.str]; exact .base (.str _)
  | list ds =>
    obtain ⟨a, vs, rfl, h1, _⟩ := t.list sub
    rcases h1 with h1 | ⟨o, h1⟩
    · exact .base (.lst h1)
    · exact .base (.frz h1)
  | tuple ds =>
    obtain ⟨a, vs, rfl, h1, _, _⟩ := t.tuple sub
    rcases h1 with h1 | ⟨o, its, n, hk, hc, _⟩
    · rcases h1 with h1 | ⟨o, h1⟩
      · exact .base (.tup h1)
      · exact .fTuple h1
    · exact .kTuple hk hc
  | dict ds =>
    obtain ⟨a, vs, rfl, h1, _⟩ := t.dict sub
    exact .base (.dK h1)
def isTyS : Ty → String → Bool
  | .int, s => s == "int" || s == "bool"
  | t, s => s == tyN t
theorem kit_tab : (["NoneType", "bool", "int", "str", "list", "tuple", "dict"].all fun s => [Ty.int, Ty.bool, Ty.str, Ty.list, Ty.tuple, Ty.dict].all fun t => decide (kitB s (tyN t) = some (isTyS t s))) = true := by decide +kernel
theorem isTyS_eq (t : Ty) (d : D) : isTyS t (dTy d) = isTy t d := by
  cases t <;> cases d <;> rfl
theorem kit_dty {K : PySem.W.Frag} (t : Ty) (d : D) : PySem.W.kitOne K (.type (dTy d)) (.type (tyN t)) = some (isTy t d) := by
  refine kit_ty ?_
  rw [← isTyS_eq]
  have h1 := List.all_eq_true.mp kit_tab (dTy d) (by cases d <;> simp [dTy])
  have h2 := List.all_eq_true.mp h1 t (by cases t <;> simp)
  exact of_decide_eq_true h2
theorem kit_dtys {K : PySem.W.Frag} (d : D) : ∀ ts : List Ty, PySem.W.kitAny K (.type (dTy d)) (ts.map fun t => .type (tyN t)) = some (ts.any fun t => isTy t d)
  | [] => rfl
  | t :: ts => by
    rw [List.map_cons, List.any_cons]
    refine kitAny_cons (kit_dty t d) (fun e => ?_) fun e => ?_
    · rw [kit_dtys d ts, e, Bool.false_or]
    · rw [e, Bool.true_or]
theorem ro_sum (hc : X.calm = true) : CallR X (.builtin "sum") (fun vs H Q => OpRd X.K .sum vs H Q) := by
  refine CallR.imp (cr_sum hc) fun vs H Q h => ?_
  obtain ⟨F, ds, d, sub, trs, hd, out⟩ := h
  obtain ⟨a, rfl, hd⟩ := op_one hd (fun _ _ => rfl) (fun _ _ _ => rfl)
  obtain ⟨x, rfl, t⟩ := one_of trs
  change opSum a = some d at hd
  unfold opSum at hd
  split at hd
  · split at hd
    · rename_i ns e
      cases hd
      rw [intsOf_eq e] at t
      obtain ⟨a, vs, rfl, h1, r1⟩ := t.list sub
      rw [r1.ints] at h1
      exact ⟨a, ns, rfl, .inl h1, out.scal sub (.int _) rfl⟩
    · cases hd
  · cases hd
theorem ro_all (hc : X.calm = true) : CallR X (.builtin "all") (fun vs H Q => OpRd X.K .all vs H Q) := by
  refine CallR.imp (cr_all hc) fun vs H Q h => ?_
  obtain ⟨F, ds, d, sub, trs, hd, out⟩ := h
  obtain ⟨a, rfl, hd⟩ := op_one hd (fun _ _ => rfl) (fun _ _ _ => rfl)
  obtain ⟨x, rfl, t⟩ := one_of trs
  change opAll a = some d at hd
  unfold opAll at hd
  split at hd
  · split at hd
    · rename_i ns e
      cases hd
      rw [boolsOf_eq e] at t
      obtain ⟨a, vs, rfl, h1, r1⟩ := t.list sub
      rw [r1.bools] at h1
      exact ⟨a, ns, rfl, .inl h1, out.scal sub (.bl _) rfl⟩
    · cases hd
  · cases hd
theorem ro_any (hc : X.calm = true) : CallR X (.builtin "any") (fun vs H Q => OpRd X.K .any vs H Q) := by
  refine CallR.imp (cr_any hc) fun vs H Q h => ?_
  obtain ⟨F, ds, d, sub, trs, hd, out⟩ := h
  obtain ⟨a, rfl, hd⟩ := op_one hd (fun _ _ => rfl) (fun _ _ _ => rfl)
  obtain ⟨x, rfl, t⟩ := one_of trs
  change opAny a = some d at hd
  unfold opAny at hd
  split at hd
  · split at hd
    · rename_i ns e
      cases hd
      rw [boolsOf_eq e] at t
      obtain ⟨a, vs, rfl, h1, r1⟩ := t.list sub
      rw [r1.bools] at h1
      exact ⟨a, ns, rfl, .inl h1, out.scal sub (.bl _) rfl⟩
    · cases hd
  · cases hd
end
end FC

/-! Part 4: the check of an inner text against the given syntax. -/
namespace FC
open PySem PySem.Spec PyProof.Rows L2

structure Sig where
  name : Str
  ps : List Str
  modes : List Bool
  own : Bool
  kws : List (Nat × List Str × List Nat) := []
structure Gam where
  N : List Str
  sigs : List Sig
  globs : List (Str × D)
structure Scp where
  sc : Scope
  fn : Str → Bool

def ns : Expr → Bool
  | .Starred .. => false
  | _ => true
def visB (q : Scp) (x : Str) : Bool := match q.sc.names.lookup x with
  | some .local => true
  | some .cell => true
  | some .free => true
  | _ => false
def locB (q : Scp) (x : Str) : Bool := match q.sc.names.lookup x with
  | some .local => true
  | some .cell => q.fn x
  | _ => false
def vis (Γ : Gam) (q : Scp) (i : Nat) : Expr → Bool
  | .Name x _ => (Γ.N[i]? == some x) && visB q x && !(x == ("__debug__" : Str)) && !(x == ("__classdict__" : Str))
  | _ => false
def tgn (Γ : Gam) (q : Scp) (i : Nat) : Expr → Bool
  | .Name x _ => (Γ.N[i]? == some x) && locB q x
  | _ => false
def tgns (Γ : Gam) (q : Scp) : List Nat → List Expr → Bool
  | [], [] => true
  | i :: is, x :: xs => tgn Γ q i x && tgns Γ q is xs
  | _, _ => false
def mTg (Γ : Gam) (q : Scp) : Tg → Expr → Bool
  | .nm i, x => tgn Γ q i x
  | .tp is, .Tuple xs _ _ => tgns Γ q is xs && decide is.Nodup
  | _, _ => false
def gl (q : Scp) (x : Str) : Bool := q.sc.names.lookup x == some .globalImplicit
def conOk : D → Expr → Bool
  | .none, .Constant .none _ _ => true
  | .bool b, .Constant (.bool c) _ _ => b == c
  | .int i, .Constant (.int j) _ _ => decide (i = j)
  | .str x, .Constant (.str y) _ _ => decide (x = y)
  | _, _ => false
def noSlice : Expr → Bool
  | .Slice .. => false
  | _ => true
def notCall0 : Expr → Bool
  | .Call _ [] [] _ => false
  | _ => true
def noSet : Expr → Bool
  | .Set .. => false
  | _ => true
/-- a call of a built-in by its name, with one argument -/
def bi1 (q : Scp) (n : Str) : Expr → Option (List Expr)
  | .Call (.Name x _) [a] [] _ => if x == n && gl q n then some [a] else none
  | _ => none
def bi2 (q : Scp) (n : Str) : Expr → Option (List Expr)
  | .Call (.Name x _) [a, b] [] _ => if x == n && gl q n then some [a, b] else none
  | _ => none
def tyE (q : Scp) (t : Ty) : Expr → Bool
  | .Name x _ => x == (Str.ofString (tyN t)) && gl q (Str.ofString (tyN t))
  | _ => false
def tyEs (q : Scp) : List Ty → List Expr → Bool
  | [], [] => true
  | t :: ts, x :: xs => tyE q t x && tyEs q ts xs
  | _, _ => false
def rangeArg (q : Scp) : Expr → Option (List Expr)
  | .Call (.Name x _) [a] [] _ => if x == "range" && gl q "range" then some [a] else none
  | _ => none

def opArgs (q : Scp) : Op → Expr → Option (List Expr)
  | .add, .BinOp a .Add b _ => some [a, b]
  | .sub, .BinOp a .Sub b _ => some [a, b]
  | .mul, .BinOp a .Mult b _ => some [a, b]
  | .fdiv, .BinOp a .FloorDiv b _ => some [a, b]
  | .mod, .BinOp a .Mod b _ => some [a, b]
  | .pow, .BinOp a .Pow b _ => some [a, b]
  | .neg, .UnaryOp .USub a _ => some [a]
  | .eq, .Compare a [.Eq] [b] _ => some [a, b]
  | .ne, .Compare a [.NotEq] [b] _ => some [a, b]
  | .lt, .Compare a [.Lt] [b] _ => some [a, b]
  | .le, .Compare a [.LtE] [b] _ => some [a, b]
  | .gt, .Compare a [.Gt] [b] _ => some [a, b]
  | .ge, .Compare a [.GtE] [b] _ => some [a, b]
  | .isN, .Compare a [.Is] [.Constant .none _ _] _ => some [a]
  | .notN, .Compare a [.IsNot] [.Constant .none _ _] _ => some [a]
  | .isB b, .Compare a [.Is] [.Constant (.bool c) _ _] _ => if b == c then some [a] else none
  | .notB b, .Compare a [.IsNot] [.Constant (.bool c) _ _] _ => if b == c then some [a] else none
  | .inn, .Compare a [.In] [b] _ => if noSet b then some [a, b] else none
  | .notin, .Compare a [.NotIn] [b] _ => if noSet b then some [a, b] else none
  | .ix, .Subscript a b _ => if noSlice b then some [a, b] else none
  | .sl false false, .Subscript a (.Slice none none none _) _ => some [a]
  | .sl true false, .Subscript a (.Slice (some l) none none _) _ => some [a, l]
  | .sl false true, .Subscript a (.Slice none (some u) none _) _ => some [a, u]
  | .rev, .Subscript a (.Slice none none (some (.UnaryOp .USub (.Constant (.int j) _ _) _)) _) _ => if j = 1 then some [a] else none
  | .len, x => bi1 q "len" x
  | .abs, x => bi1 q "abs" x
  | .int, x => bi1 q "int" x
  | .list, x => bi1 q "list" x
  | .tuple, x => bi1 q "tuple" x
  | .listR, x => match bi1 q "list" x with
    | some [r] => rangeArg q r
    | _ => none
  | .tupleR, x => match bi1 q "tuple" x with
    | some [r] => rangeArg q r
    | _ => none
  | .sorted, x => bi1 q "sorted" x
  | .sum, x => bi1 q "sum" x
  | .max1, x => bi1 q "max" x
  | .min1, x => bi1 q "min" x
  | .max2, x => bi2 q "max" x
  | .min2, x => bi2 q "min" x
  | .all, x => bi1 q "all" x
  | .any, x => bi1 q "any" x
  | .isi t, x => match bi2 q "isinstance" x with
    | some [a, b] => if tyE q t b then some [a] else none
    | _ => none
  | .isis ts, x => match bi2 q "isinstance" x with
    | some [a, .Tuple bs _ _] => if tyEs q ts bs && bs.all ns && decide (bs.length ≤ 100) then some [a] else none
    | _ => none
  | _, _ => none

def copOf : Op → Option CmpOp
  | .lt => some .Lt
  | .le => some .LtE
  | .gt => some .Gt
  | .ge => some .GtE
  | _ => none
def muName : Mu → Str
  | .append => "append"
  | .extend => "extend"
  | .pop0 => "pop"
  | .pop1 => "pop"
def muN : Mu → Nat
  | .append => 1
  | .extend => 1
  | .pop0 => 0
  | .pop1 => 1
def mtName : Mt → Str
  | .endswith => "endswith"
  | .index => "index"
  | .get1 => "get"
  | .get2 => "get"
def mtN : Mt → Nat
  | .endswith => 1
  | .index => 1
  | .get1 => 1
  | .get2 => 2
/-- the modes of the arguments as they are written -/
def modeOf : Ex → Option Bool
  | .lend _ => some true
  | .give _ => some true
  | .pk _ => none
  | _ => some false
def lendOf : Ex → Option Nat
  | .lend i => some i
  | _ => none
def listE : Ex → List Ex
  | .cons e es => e :: listE es
  | _ => []
/-- yields an object of its own -/
def fresh (sigs : List Sig) : Ex → Bool
  | .op o _ => opFresh o
  | .sl2 .. => true
  | .lst _ => true
  | .comp .. => true
  | .comp2 .. => true
  | .call f _ _ => match sigs[f]? with
    | some s => s.own
    | none => false
  | .or a b => fresh sigs a && fresh sigs b
  | .nev => true
  | _ => false
def kwVal : Keyword → Expr
  | ⟨_, v, _⟩ => v
def kwName : Keyword → Option Str
  | ⟨n, _, _⟩ => n
def kwNamed : Keyword → Bool
  | ⟨some _, _, _⟩ => true
  | ⟨none, _, _⟩ => false
def blkSc (q : Scp) (scope : Scope) : Scp := { sc := relS scope q.sc, fn := fun x => scope.names.lookup x == some .cell }

/-- these hand out a tuple: the target must be one -/
def needTup : Ex → Bool
  | .itEnum _ => true
  | .itZip _ => true
  | _ => false
def isTup : Tg → Bool
  | .tp _ => true
  | _ => false
structure Mm where
  e : Scp → Expr → Bool := fun _ _ => false
  es : Scp → List Expr → Bool := fun _ _ => false
  it : Scp → Expr → Bool := fun _ _ => false

def mm (Γ : Gam) : Ex → Mm
  | .con d => { e := fun _ x => conOk d x }
  | .glob y d => { e := fun q x => match x with
      | .Name z _ => z == y && gl q y && (Γ.globs.any fun p => p.1 == y && conOk d (match p.2 with
          | .int i => .Constant (.int i) 0 ⟨0, 0, 0, 0⟩
          | .str t => .Constant (.str t) 0 ⟨0, 0, 0, 0⟩
          | _ => .Constant .none 0 ⟨0, 0, 0, 0⟩)) && !(y == ("__debug__" : Str))
      | _ => false }
  | .var i => { e := fun q x => vis Γ q i x }
  | .pk i => { e := fun q x => vis Γ q i x }
  | .lend i => { e := fun q x => vis Γ q i x }
  | .give e => { e := fun q x => fresh Γ.sigs e && (mm Γ e).e q x }
  | .op o es => { e := fun q x => match opArgs q o x with
      | some xs => (mm Γ es).es q xs
      | none => false }
  | .not a => { e := fun q x => match x with
      | .UnaryOp .Not y _ => (mm Γ a).e q y
      | _ => false }
  | .and a b => { e := fun q x => match x with
      | .BoolOp .And [y, z] _ => (mm Γ a).e q y && (mm Γ b).e q z
      | .BoolOp .And (y :: z :: w :: r) p => (mm Γ a).e q y && (mm Γ b).e q (.BoolOp .And (z :: w :: r) p)
      | _ => false }
  | .or a b => { e := fun q x => match x with
      | .BoolOp .Or [y, z] _ => (mm Γ a).e q y && (mm Γ b).e q z
      | .BoolOp .Or (y :: z :: w :: r) p => (mm Γ a).e q y && (mm Γ b).e q (.BoolOp .Or (z :: w :: r) p)
      | _ => false }
  | .chain o o' a b c => { e := fun q x => match x with
      | .Compare y [c1, c2] [z, w] _ => (copOf o == some c1) && (copOf o' == some c2) && (mm Γ a).e q y && (mm Γ b).e q z && (mm Γ c).e q w
      | _ => false }
  | .ife c a b => { e := fun q x => match x with
      | .IfExp t y z _ => (mm Γ c).e q t && (mm Γ a).e q y && (mm Γ b).e q z
      | _ => false }
  | .tup es => { e := fun q x => match x with
      | .Tuple xs _ _ => (mm Γ es).es q xs
      | _ => false }
  | .lst es => { e := fun q x => match x with
      | .List xs _ => (mm Γ es).es q xs
      | _ => false }
  | .call f perm es => { e := fun q x => match x with
      | .Call (.Name y _) xs kws _ => match Γ.sigs[f]? with
        | some s => s.name == y && gl q y && !(y == ("__debug__" : Str)) && (mm Γ es).es q (xs ++ kws.map kwVal)
            && (if kws.isEmpty then decide (perm = List.range s.ps.length) && (xs.length == s.ps.length) else (kws.all kwNamed) && s.kws.contains (xs.length, kws.filterMap kwName, perm))
            && decide (perm.map (fun i => ((listE es)[i]?).bind modeOf) = s.modes.map some) && (s.ps.length == s.modes.length)
            && decide ((listE es).filterMap lendOf).Nodup && decide perm.Nodup
        | none => false
      | _ => false }
  | .mu m i es => { e := fun q x => match x with
      | .Call (.Attribute o n ap) xs [] cp => n == muName m && vis Γ q i o && (ap.endLine == cp.line) && (mm Γ es).es q xs && (xs.length == muN m)
      | _ => false }
  | .mt m o es => { e := fun q x => match x with
      | .Call (.Attribute y n ap) xs [] cp => n == mtName m && (m == .endswith || m == .index) && (mm Γ o).e q y && notCall0 y && (ap.endLine == cp.line) && (mm Γ es).es q xs && (xs.length == mtN m)
      | _ => false }
  | .sl2 a lo hi => { e := fun q x => match x with
      | .Subscript y (.Slice (some l) (some u) none _) _ => (mm Γ a).e q y && (mm Γ lo).e q l && (mm Γ hi).e q u
      | _ => false }
  | .comp e t it ifs => { e := fun q x => match x with
      | .ListComp elt [⟨tg, iter, cs, k⟩] scope _ => (k == 0) && noSet iter && (!needTup it || isTup t) && (mm Γ it).it q iter && mTg Γ (blkSc q scope) t tg && blkC Γ.N q.sc scope (t.slots.filterMap fun i => (Γ.N[i]?).map fun n => (n, i))
          && decide ((t.slots.filterMap fun i => (Γ.N[i]?).map fun n => (n, i)).map (·.2) = t.slots)
          && (mm Γ e).e (blkSc q scope) elt && (mm Γ ifs).es (blkSc q scope) cs && decide (cs.length ≤ 1)
      | _ => false }
  | .comp2 e t it ifs t1 it1 ifs1 => { e := fun q x => match x with
      | .ListComp elt [⟨tg, iter, cs, k⟩, ⟨tg1, iter1, cs1, k1⟩] scope _ => (k == 0) && (k1 == 0) && noSet iter && noSet iter1 && (!needTup it || isTup t) && (!needTup it1 || isTup t1) && (mm Γ it).it q iter && (mm Γ it1).it (blkSc q scope) iter1
          && mTg Γ (blkSc q scope) t tg && mTg Γ (blkSc q scope) t1 tg1 && blkC Γ.N q.sc scope ((t.slots ++ t1.slots).filterMap fun i => (Γ.N[i]?).map fun n => (n, i))
          && decide (((t.slots ++ t1.slots).filterMap fun i => (Γ.N[i]?).map fun n => (n, i)).map (·.2) = t.slots ++ t1.slots)
          && (mm Γ e).e (blkSc q scope) elt && (mm Γ ifs).es (blkSc q scope) cs && decide (cs.length ≤ 1) && (mm Γ ifs1).es (blkSc q scope) cs1 && decide (cs1.length ≤ 1)
      | _ => false }
  | .nev => { e := fun _ _ => true }
  | .nil => { es := fun _ xs => xs.isEmpty }
  | .cons e es => { es := fun q xs => match xs with
      | x :: r => ns x && (mm Γ e).e q x && (mm Γ es).es q r
      | [] => false }
  | .itOf e => { it := fun q x => (mm Γ e).e q x }
  | .itRange es => { it := fun q x => match x with
      | .Call (.Name y _) xs [] _ => y == "range" && gl q "range" && (mm Γ es).es q xs && (xs.length == 1 || xs.length == 2)
      | _ => false }
  | .itEnum e => { it := fun q x => match x with
      | .Call (.Name y _) [a] [] _ => y == "enumerate" && gl q "enumerate" && ns a && (mm Γ e).e q a
      | _ => false }
  | .itZip es => { it := fun q x => match x with
      | .Call (.Name y _) [a, b] [] _ => y == "zip" && gl q "zip" && (mm Γ es).es q [a, b]
      | _ => false }
end FC

/-! Part 5: readings; operands; operations. -/
namespace FC
open PySem PySem.Spec PyProof.Rows L2

def blts : List Str := ["len", "abs", "int", "list", "tuple", "range", "sorted", "sum", "max", "min", "all", "any", "isinstance", "enumerate", "zip", "bool", "str", "dict"]

structure Gd (X : Cx) (Γ : Gam) (q : Scp) : Prop where
  calm : X.calm = true
  nd : X.N.Nodup
  xe : X.xe = fun _ _ => False
  un : X.A.units + 65 < cLine
  mgb : ∀ x ∈ blts, X.mg x = none
  N : X.N = Γ.N
  sc : X.env.scope = q.sc
  fn : X.fn = q.fn
  gv : ∀ p ∈ Γ.globs, ∃ u, X.mg p.1 = some u ∧ (match p.2 with
    | .int i => RelV (.int i) u
    | .str t => RelV (.str t) u
    | _ => False)

/-! ### readings -/
def Raw (K : PySem.W.Frag) (F H H0 : Hp) (v : V) (d : D) : Prop :=
  if newObj d = true then (∃ a, v = V.ref a ∧ H0 a = none ∧ F a = none ∧ Ob K F H a d) else Rp K F v d
def ArR (K : PySem.W.Frag) (F H : Hp) (σ : L2.St) (H0 : Hp) (v : V) : Ar → Prop
  | .pl i => σ[i]? = some (some v)
  | .ln i => σ[i]? = some (some v)
  | .vl d => Rp K F v d
  | .ow d => newObj d = true ∧ ∃ a, v = V.ref a ∧ H0 a = none ∧ F a = none ∧ Ob K F H a d
/-- the reading of a piece that yields one value -/
def tG {α : Type} (K : PySem.W.Frag) (m : M α) (R : Hp → Hp → L2.St → Hp → V → α → Prop) : TE := fun σ H Q =>
  ∃ (s : S) (F : Hp) (a : α) (s' : S), Rs K F H σ s ∧ m s = some (a, s') ∧
    ∀ (v : V) (F' H' : Hp), Rs K F' H' σ s' → Ext (Ad σ s) F H F' H' → (∀ a, Ad σ s' a → Ad σ s a) → R F' H' σ H v a → Q v H'
def tV (K : PySem.W.Frag) (C : Calls) (e : Ex) : TE := tG K (sem C e).v fun F _ _ _ v d => Rp K F v d
def tO (K : PySem.W.Frag) (C : Calls) (e : Ex) : TE := tG K (sem C e).v fun F H _ H0 v d => Raw K F H H0 v d
def tA (K : PySem.W.Frag) (C : Calls) (e : Ex) : TE := tG K (sem C e).a fun F H σ H0 v a => ArR K F H σ H0 v a
def tT (K : PySem.W.Frag) (m : M Bool) : TT := fun σ H Q =>
  ∃ (s : S) (F : Hp) (k : Bool) (s' : S), Rs K F H σ s ∧ m s = some (k, s') ∧
    ∀ (F' H' : Hp), Rs K F' H' σ s' → Ext (Ad σ s) F H F' H' → (∀ a, Ad σ s' a → Ad σ s a) → Q k H'
def tAs (K : PySem.W.Frag) (C : Calls) : Ex → TA
  | .cons e es => tCons (tA K C e) (tAs K C es)
  | _ => tNil
theorem PE.imp {X : Cx} {e : Expr} {t t' : TE} (h : PE X e t) (i : ∀ σ H Q, t' σ H Q → t σ H Q) : PE X e t' := ⟨fun pins s σ H Q I q => h.run pins s σ H Q I (i σ H Q q)⟩
theorem PT.imp {X : Cx} {e : Expr} {t t' : TT} (h : PT X e t) (i : ∀ σ H Q, t' σ H Q → t σ H Q) : PT X e t' := ⟨fun pins s σ H Q I q => h.run pins s σ H Q I (i σ H Q q)⟩
theorem PA.imp {X : Cx} {e : List Expr} {t t' : TA} (h : PA X e t) (i : ∀ σ H Q, t' σ H Q → t σ H Q) : PA X e t' := ⟨fun pos pins s σ H Q I q => h.run pos pins s σ H Q I (i σ H Q q)⟩
theorem PE.fails {α : Type} {X : Cx} {e : Expr} {K : PySem.W.Frag} {R : Hp → Hp → L2.St → Hp → V → α → Prop} : PE X e (tG K (fails : M α) R) := ⟨fun pins s σ H Q I h => by
  obtain ⟨_, _, _, _, _, e, _⟩ := h
  cases e⟩
theorem PT.fails {X : Cx} {e : Expr} {K : PySem.W.Frag} : PT X e (tT K fails) := ⟨fun pins s σ H Q I h => by
  obtain ⟨_, _, _, _, _, e, _⟩ := h
  cases e⟩
theorem bnd_some {α β : Type} {m : M α} {f : α → M β} {s : S} {r : β × S} (h : bnd m f s = some r) : ∃ a s1, m s = some (a, s1) ∧ f a s1 = some r := by
  unfold bnd at h
  split at h
  · cases h
  · rename_i a s1 e
    exact ⟨a, s1, e, h⟩
theorem lift_some {α : Type} {o : Option α} {s : S} {r : α × S} (h : lift o s = some r) : o = some r.1 ∧ r.2 = s := by
  unfold lift at h
  split at h
  · cases h
  · cases h; exact ⟨rfl, rfl⟩
theorem gives_some {α : Type} {a : α} {s : S} {r : α × S} (h : gives a s = some r) : r = (a, s) := by
  cases h; rfl
theorem fails_some {α : Type} {s : S} {r : α × S} (h : (fails : M α) s = some r) : False := by cases h

section
variable {K : PySem.W.Frag} {F H F' H' : Hp} {σ : L2.St} {s s' : S}
theorem Ad.tracked {a : Addr} (r : Rs K F H σ s) (h : Ad σ s a) : H a ≠ none ∧ F a = none := by
  obtain ⟨i, b, e1, m, e2⟩ := h
  obtain ⟨v, e3, rb⟩ := r.at_ i b e1
  rw [e2] at e3
  cases e3
  obtain ⟨a', e, hf, ob⟩ := rb.mineAt m
  cases e
  obtain ⟨o, eo⟩ := ob.has
  exact ⟨(by rw [eo]; intro z; cases z), hf⟩
theorem Ad.of_eq {a : Addr} (h : Ad σ s' a) (e : s' = s) : Ad σ s a := e ▸ h
theorem ArR.keep {H0 H1 : Hp} {A : Addr → Prop} {v : V} {a : Ar} (x : Ext A F H F' H') (h : ArR K F H σ H0 v a) (hA : ∀ b, A b → H0 b ≠ none) : ArR K F' H' σ H0 v a := by
  cases a with
  | pl i => exact h
  | ln i => exact h
  | vl d => exact Rp.same x.f h
  | ow d =>
    obtain ⟨hn, b, e, h0, hf, ob⟩ := h
    obtain ⟨o, eo⟩ := ob.has
    have nA : ¬ A b := fun z => hA b z h0
    exact ⟨hn, b, e, h0, x.z b nA hf (by rw [eo]; intro z; cases z), ob.mono x.f (by rw [x.k b o nA eo, eo])⟩
theorem ArR.back {H0 H1 : Hp} {v : V} {a : Ar} (h : ArR K F H σ H1 v a) (t : ∀ b, H0 b ≠ none → H1 b ≠ none) : ArR K F H σ H0 v a := by
  cases a with
  | pl i => exact h
  | ln i => exact h
  | vl d => exact h
  | ow d =>
    obtain ⟨hn, b, e, h0, r⟩ := h
    refine ⟨hn, b, e, ?_, r⟩
    cases q : H0 b with
    | none => rfl
    | some o => exact absurd h0 (t b (by rw [q]; intro z; cases z))
structure ArRs (K : PySem.W.Frag) (F H : Hp) (σ : L2.St) (H0 : Hp) (vs : List V) (l : List Ar) : Prop where
  len : vs.length = l.length
  at_ : ∀ (i : Nat) (v : V) (a : Ar), vs[i]? = some v → l[i]? = some a → ArR K F H σ H0 v a
  dis : ∀ (i j : Nat) (a : Addr) (d e : D), vs[i]? = some (.ref a) → l[i]? = some (.ow d) → vs[j]? = some (.ref a) → l[j]? = some (.ow e) → i = j
theorem ArRs.nil {H0 : Hp} : ArRs K F H σ H0 [] [] := ⟨rfl, fun i v a e _ => by simp at e, fun i j a d e h _ _ _ => by simp at h⟩
theorem ArRs.cons {H0 H1 : Hp} {v : V} {a : Ar} {vs : List V} {l : List Ar} (h : ArR K F H σ H0 v a) (r : ArRs K F H σ H1 vs l) (t : ∀ b, H0 b ≠ none → H1 b ≠ none)
    (ne : ∀ b d, v = .ref b → a = .ow d → H1 b ≠ none) : ArRs K F H σ H0 (v :: vs) (a :: l) := by
  refine ⟨by rw [List.length_cons, List.length_cons, r.len], fun i w x e1 e2 => ?_, fun i j b d e h1 h2 h3 h4 => ?_⟩
  · cases i with
    | zero => cases e1; cases e2; exact h
    | succ i => exact (r.at_ i w x (by simpa using e1) (by simpa using e2)).back t
  · have far : ∀ (k : Nat) (f : D), vs[k]? = some (.ref b) → l[k]? = some (.ow f) → H1 b = none := fun k f k1 k2 => by
      obtain ⟨_, b', e', h0, _⟩ := r.at_ k _ _ k1 k2
      cases e'
      exact h0
    cases i with
    | zero =>
      cases j with
      | zero => rfl
      | succ j =>
        cases h1; cases h2
        exact absurd (far j e (by simpa using h3) (by simpa using h4)) (ne b d rfl rfl)
    | succ i =>
      cases j with
      | zero =>
        cases h3; cases h4
        exact absurd (far i d (by simpa using h1) (by simpa using h2)) (ne b e rfl rfl)
      | succ j => rw [r.dis i j b d e (by simpa using h1) (by simpa using h2) (by simpa using h3) (by simpa using h4)]
end

/-- the operands are read one behind another -/
theorem as_read {K : PySem.W.Frag} {C : Calls} : ∀ (es : Ex) {F H : Hp} {σ : L2.St} {s s' : S} {l : List Ar} {k : List V → Hp → Prop}, Rs K F H σ s → (sem C es).as s = some (l, s') →
    (∀ (vs : List V) (F' H' : Hp), Rs K F' H' σ s' → Ext (Ad σ s) F H F' H' → (∀ a, Ad σ s' a → Ad σ s a) → ArRs K F' H' σ H vs l → k vs H') → tAs K C es σ H k
  | .nil, F, H, σ, s, s', l, k, r, e, h => by
    cases e
    exact h [] F H r Ext.refl (fun _ z => z) ArRs.nil
  | .cons x es, F, H, σ, s, s', l, k, r, e, h => by
    have e : bnd (sem C x).a (fun x => bnd (sem C es).as fun l => gives (x :: l)) s = some (l, s') := e
    obtain ⟨a, s1, e1, e⟩ := bnd_some e
    obtain ⟨l1, s2, e2, e⟩ := bnd_some e
    cases e
    refine ⟨s, F, a, s1, r, e1, fun v F1 H1 r1 x1 a1 q1 => ?_⟩
    refine as_read es r1 e2 fun vs F2 H2 r2 x2 a2 q2 => ?_
    have hA : ∀ b, Ad σ s1 b → H b ≠ none := fun b z => (Ad.tracked r (a1 b z)).1
    refine h (v :: vs) F2 H2 r2 (x1.trans x2 fun b z => .inl (a1 b z)) (fun b z => a1 b (a2 b z)) (ArRs.cons (q1.keep x2 (H1 := H1) hA) q2 x1.t fun b d ev ea => ?_)
    subst ev ea
    obtain ⟨_, b', eb, h0, hf, ob⟩ := q1
    cases eb
    obtain ⟨o, eo⟩ := ob.has
    rw [eo]; intro z; cases z
  | .con _, _, _, _, _, _, _, _, _, e, _ => by cases e
  | .glob _ _, _, _, _, _, _, _, _, _, e, _ => by cases e
  | .var _, _, _, _, _, _, _, _, _, e, _ => by cases e
  | .pk _, _, _, _, _, _, _, _, _, e, _ => by cases e
  | .lend _, _, _, _, _, _, _, _, _, e, _ => by cases e
  | .give _, _, _, _, _, _, _, _, _, e, _ => by cases e
  | .op _ _, _, _, _, _, _, _, _, _, e, _ => by cases e
  | .not _, _, _, _, _, _, _, _, _, e, _ => by cases e
  | .and _ _, _, _, _, _, _, _, _, _, e, _ => by cases e
  | .or _ _, _, _, _, _, _, _, _, _, e, _ => by cases e
  | .chain .., _, _, _, _, _, _, _, _, e, _ => by cases e
  | .ife .., _, _, _, _, _, _, _, _, e, _ => by cases e
  | .tup _, _, _, _, _, _, _, _, _, e, _ => by cases e
  | .lst _, _, _, _, _, _, _, _, _, e, _ => by cases e
  | .call .., _, _, _, _, _, _, _, _, e, _ => by cases e
  | .mt .., _, _, _, _, _, _, _, _, e, _ => by cases e
  | .sl2 .., _, _, _, _, _, _, _, _, e, _ => by cases e
  | .mu .., _, _, _, _, _, _, _, _, e, _ => by cases e
  | .comp .., _, _, _, _, _, _, _, _, e, _ => by cases e
  | .itOf _, _, _, _, _, _, _, _, _, e, _ => by cases e
  | .itRange _, _, _, _, _, _, _, _, _, e, _ => by cases e
  | .itEnum _, _, _, _, _, _, _, _, _, e, _ => by cases e
  | .itZip _, _, _, _, _, _, _, _, _, e, _ => by cases e

/-- operands as the operation sees them -/
theorem ArR.tr {K : PySem.W.Frag} {F H H0 : Hp} {σ : L2.St} {s : S} {v : V} {a : Ar} {d : D} (r : Rs K F H σ s) (h : ArR K F H σ H0 v a) (e : resA s a = some d) : TR K F H v d := by
  cases a with
  | pl i =>
    simp only [resA] at e
    split at e
    · rename_i b eb
      cases e
      obtain ⟨w, e1, rb⟩ := r.at_ _ b eb
      have h : σ[_]? = some (some v) := h
      rw [h] at e1
      cases e1
      exact rb.tr
    · cases e
  | ln i =>
    simp only [resA] at e
    split at e
    · rename_i d' eb
      cases e
      obtain ⟨w, e1, rb⟩ := r.at_ _ _ eb
      have h : σ[_]? = some (some v) := h
      rw [h] at e1
      cases e1
      exact rb.tr
    · rename_i d' eb
      cases e
      obtain ⟨w, e1, rb⟩ := r.at_ _ _ eb
      have h : σ[_]? = some (some v) := h
      rw [h] at e1
      cases e1
      exact rb.tr
    · cases e
  | vl d' => cases e; exact .inl h
  | ow d' =>
    cases e
    obtain ⟨_, b, e, _, _, ob⟩ := h
    exact .inr ⟨b, e, ob⟩
theorem ArRs.trs {K : PySem.W.Frag} {F H H0 : Hp} {σ : L2.St} {s : S} (r : Rs K F H σ s) : ∀ {vs : List V} {l : List Ar} {ds : List D}, ArRs K F H σ H0 vs l → resAs s l = some ds → TRs K F H vs ds
  | [], [], ds, _, e => by cases e; exact .nil
  | [], _ :: _, _, h, _ => absurd h.len (by simp)
  | _ :: _, [], _, h, _ => absurd h.len (by simp)
  | v :: vs, a :: l, ds, h, e => by
    unfold resAs at e
    split at e
    · rename_i d ds' e1 e2
      cases e
      refine .cons ((h.at_ 0 v a rfl rfl).tr r e1) (ArRs.trs r ⟨by simpa using h.len, fun i w x k1 k2 => h.at_ (i + 1) w x (by simpa using k1) (by simpa using k2), fun i j b d e k1 k2 k3 k4 => ?_⟩ e2)
      have := h.dis (i + 1) (j + 1) b d e (by simpa using k1) (by simpa using k2) (by simpa using k3) (by simpa using k4)
      omega
    · cases e

/-! ### an operation in the text -/
inductive PAx (X : Cx) (C : Calls) : List Expr → Ex → Prop
  | nil : PAx X C [] .nil
  | cons {x : Expr} {xs : List Expr} {e es : Ex} : ns x = true → PE X x (tA X.K C e) → PAx X C xs es → PAx X C (x :: xs) (.cons e es)
theorem star_ns {env : Env} {x : Expr} {xs : List Expr} (h : ns x = true) : starEach (x :: xs) env = (false, eval x env) :: starEach xs env := by
  cases x <;> first | rfl | (cases h; done)
theorem PAx.star {X : Cx} {C : Calls} {env : Env} {pos : Pos} : ∀ {xs : List Expr} {es : Ex}, PAx X C xs es → (backTo pos (starEach xs env)).any (·.1) = false
  | _, _, .nil => rfl
  | _, _, .cons h _ r => by
    rw [star_ns h]
    show (false || (backTo pos (starEach _ env)).any (·.1)) = false
    rw [r.star]
    rfl
theorem PAx.pa {X : Cx} {C : Calls} : ∀ {xs : List Expr} {es : Ex}, PAx X C xs es → PA X xs (tAs X.K C es)
  | _, _, .nil => pa_nil
  | _, _, .cons h p r => pa_cons p r.pa (star_ns h)
theorem pax1 {X : Cx} {C : Calls} {x : Expr} {es : Ex} (h : PAx X C [x] es) : ∃ e, es = .cons e .nil ∧ ns x = true ∧ PE X x (tA X.K C e) := by
  cases h with
  | cons a b c => cases c; exact ⟨_, rfl, a, b⟩
theorem pax2 {X : Cx} {C : Calls} {x y : Expr} {es : Ex} (h : PAx X C [x, y] es) : ∃ e f, es = .cons e (.cons f .nil) ∧ ns x = true ∧ PE X x (tA X.K C e) ∧ ns y = true ∧ PE X y (tA X.K C f) := by
  cases h with
  | cons a b c => obtain ⟨f, rfl, n, p⟩ := pax1 c; exact ⟨_, f, rfl, a, b, n, p⟩
theorem pax3 {X : Cx} {C : Calls} {x y z : Expr} {es : Ex} (h : PAx X C [x, y, z] es) : ∃ e f g, es = .cons e (.cons f (.cons g .nil)) ∧ ns x = true ∧ PE X x (tA X.K C e) ∧ ns y = true ∧ PE X y (tA X.K C f) ∧ ns z = true ∧ PE X z (tA X.K C g) := by
  cases h with
  | cons a b c => obtain ⟨f, g, rfl, r⟩ := pax2 c; exact ⟨_, f, g, rfl, a, b, r⟩
def tOpA (K : PySem.W.Frag) (o : Op) (ta : TA) : TE := fun σ H Q => ta σ H fun vs H1 => OpRd K o vs H1 Q

section
variable {X : Cx} {Γ : Gam} {q : Scp} {C : Calls}
theorem Gd.glx (g : Gd X Γ q) {x : Str} (h : gl q x = true) : Gl X x := by
  unfold gl at h
  unfold Gl Env.kindOf
  rw [g.sc]
  simpa using h
theorem bi1_of {n : Str} {x : Expr} {xs : List Expr} (h : bi1 q n x = some xs) : ∃ a p pos, x = .Call (.Name n p) [a] [] pos ∧ xs = [a] ∧ gl q n = true := by
  unfold bi1 at h
  split at h
  · split at h
    · rename_i y p a pos hc
      cases h
      simp only [Bool.and_eq_true, beq_iff_eq] at hc
      obtain ⟨rfl, hg⟩ := hc
      exact ⟨_, _, _, rfl, rfl, hg⟩
    · cases h
  · cases h
theorem bi2_of {n : Str} {x : Expr} {xs : List Expr} (h : bi2 q n x = some xs) : ∃ a b p pos, x = .Call (.Name n p) [a, b] [] pos ∧ xs = [a, b] ∧ gl q n = true := by
  unfold bi2 at h
  split at h
  · split at h
    · rename_i y p a b pos hc
      cases h
      simp only [Bool.and_eq_true, beq_iff_eq] at hc
      obtain ⟨rfl, hg⟩ := hc
      exact ⟨_, _, _, _, rfl, rfl, hg⟩
    · cases h
  · cases h
theorem pe_bi1 {n : Str} {id : String} {o : Op} {x : Expr} {xs : List Expr} {es : Ex} (g : Gd X Γ q) (hb : n ∈ blts) (hc : CallR X (.builtin id) (fun vs H Q => OpRd X.K o vs H Q)) (hv : bootBuiltins n = some (.builtin id)) (h : bi1 q n x = some xs) (hp : PAx X C xs es)
    (hn : n ≠ "__name__" := by decide) (hd : (n == ("__debug__" : Str)) = false := by decide) : PE X x (tOpA X.K o (tAs X.K C es)) := by
  obtain ⟨a, p, pos, rfl, rfl, hg⟩ := bi1_of h
  cases hp with
  | cons a b c => exact pe_callB hc (g.glx hg) (g.mgb _ hb) hv (PAx.cons a b c).pa hn hd (star_ns a) c.star
theorem pe_bi2 {n : Str} {id : String} {o : Op} {x : Expr} {xs : List Expr} {es : Ex} (g : Gd X Γ q) (hb : n ∈ blts) (hc : CallR X (.builtin id) (fun vs H Q => OpRd X.K o vs H Q)) (hv : bootBuiltins n = some (.builtin id)) (h : bi2 q n x = some xs) (hp : PAx X C xs es)
    (hn : n ≠ "__name__" := by decide) (hd : (n == ("__debug__" : Str)) = false := by decide) : PE X x (tOpA X.K o (tAs X.K C es)) := by
  obtain ⟨a, b, p, pos, rfl, rfl, hg⟩ := bi2_of h
  cases hp with
  | cons a b c => exact pe_callB hc (g.glx hg) (g.mgb _ hb) hv (PAx.cons a b c).pa hn hd (star_ns a) c.star
theorem pe_ty1 {n : Str} {id : String} {o : Op} {x : Expr} {xs : List Expr} {es : Ex} (g : Gd X Γ q) (hb : n ∈ blts) (hc : CallR X (.type id) (fun vs H Q => OpRd X.K o vs H Q)) (hv : bootBuiltins n = some (.type id)) (h : bi1 q n x = some xs) (hp : PAx X C xs es)
    (hn : n ≠ "__name__" := by decide) (hd : (n == ("__debug__" : Str)) = false := by decide) : PE X x (tOpA X.K o (tAs X.K C es)) := by
  obtain ⟨a, p, pos, rfl, rfl, hg⟩ := bi1_of h
  cases hp with
  | cons a b c => exact pe_callTy hc (g.glx hg) (g.mgb _ hb) hv (PAx.cons a b c).pa hn hd (star_ns a) c.star
end
end FC

/-! Part 6: operations in the text. -/
namespace FC
open PySem PySem.Spec PyProof.Rows L2
section
variable {X : Cx} {Γ : Gam} {q : Scp} {C : Calls}
theorem noset_marks {op : CmpOp} {b : Expr} (h : noSet b = true) : behindInMarks op b = false := by
  cases b <;> first | rfl | (cases h; done)
theorem plainIx_of {b : Expr} (h : noSlice b = true) : PlainIx b := by
  intro o i
  cases b <;> first | rfl | (cases h; done)
theorem po_int {l : Expr} {t : TE} (h : PE X l t) : PO X (some l) (tPart t) := po_some h
theorem sl_op1 {K : PySem.W.Frag} {H : Hp} {x : V} {Q : VK} (h : OpRd K (.sl false false) [x] H Q) : rSlAll K x none none H Q := by
  obtain ⟨F, ds, d, sub, trs, hd, out⟩ := h
  obtain ⟨d1, rfl, t1⟩ := trs1 trs
  exact sl_out sub t1 hd out
theorem sl_op2 {K : PySem.W.Frag} {H : Hp} {x y : V} {Q : VK} (h : OpRd K (.sl true false) [x, y] H Q) : ∃ i, y = .int i ∧ rSlAll K x (some i) none H Q := by
  obtain ⟨F, ds, d, sub, trs, hd, out⟩ := h
  obtain ⟨d1, d2, rfl, t1, t2⟩ := trs2 trs
  change opSl1 false d1 d2 = some d at hd
  cases d2 <;> simp only [opSl1] at hd <;> first | cases hd | skip
  exact ⟨_, t2.int, sl_out sub t1 hd out⟩
theorem sl_op3 {K : PySem.W.Frag} {H : Hp} {x y : V} {Q : VK} (h : OpRd K (.sl false true) [x, y] H Q) : ∃ i, y = .int i ∧ rSlAll K x none (some i) H Q := by
  obtain ⟨F, ds, d, sub, trs, hd, out⟩ := h
  obtain ⟨d1, d2, rfl, t1, t2⟩ := trs2 trs
  change opSl1 true d1 d2 = some d at hd
  cases d2 <;> simp only [opSl1] at hd <;> first | cases hd | skip
  exact ⟨_, t2.int, sl_out sub t1 hd out⟩
/-- what a piece promises is only what it can yield -/
theorem tG_mono {α : Type} {K : PySem.W.Frag} {m : M α} {R : Hp → Hp → L2.St → Hp → V → α → Prop} {σ : L2.St} {H : Hp} {Q Q' : VK} (h : tG K m R σ H Q) (i : ∀ v H, Q v H → Q' v H) : tG K m R σ H Q' := by
  obtain ⟨s, F, a, s', r, e, k⟩ := h
  exact ⟨s, F, a, s', r, e, fun v F' H' r' x' a' q' => i _ _ (k v F' H' r' x' a' q')⟩
theorem rg1 {q : Scp} {x : Expr} {xs : List Expr} (h : rangeArg q x = some xs) : ∃ a p pos, x = .Call (.Name "range" p) [a] [] pos ∧ xs = [a] ∧ gl q "range" = true := by
  unfold rangeArg at h
  split at h
  · split at h
    · rename_i y p a pos hc
      cases h
      simp only [Bool.and_eq_true, beq_iff_eq] at hc
      obtain ⟨rfl, hg⟩ := hc
      exact ⟨_, _, _, rfl, rfl, hg⟩
    · cases h
  · cases h
theorem rgV_rps {K : PySem.W.Frag} {F : Hp} (n : Int) : Rps K F (rgV 0 n) (rgD n) := by
  unfold rgV rgD
  rw [Int.sub_zero]
  generalize n.toNat = m
  induction m with
  | zero => exact .nil
  | succ m ih =>
    rw [List.range_succ, List.map_append, List.map_append]
    exact ih.append (.cons (.int _) .nil)
theorem ro_listR {K : PySem.W.Frag} {H : Hp} {x : V} {Q : VK} (h : OpRd K .listR [x] H Q) : ∃ n, x = .int n ∧ RgOk 0 n ∧ ∀ p, H p = none → Q (.ref p) (upd H p (.lst (rgV 0 n))) := by
  obtain ⟨F, ds, d, sub, trs, hd, out⟩ := h
  obtain ⟨d1, rfl, t1⟩ := trs1 trs
  change opListR d1 = some d at hd
  cases d1 <;> simp only [opListR] at hd <;> first | cases hd | skip
  split at hd
  · rename_i n hk
    cases hd
    simp only [smallI, Bool.and_eq_true, decide_eq_true_eq] at hk
    refine ⟨n, t1.int, ⟨by omega, by omega, hk.1.1, hk.1.2, ?_⟩, fun p hp => out.lst sub (rgV_rps n) hp⟩
    rw [Int.sub_zero]
    exact hk.2
  · cases hd
theorem ro_tupleR {K : PySem.W.Frag} {H : Hp} {x : V} {Q : VK} (h : OpRd K .tupleR [x] H Q) : ∃ n, x = .int n ∧ RgOk 0 n ∧ ∀ p, H p = none → Q (.ref p) (upd H p (.tup (rgV 0 n))) := by
  obtain ⟨F, ds, d, sub, trs, hd, out⟩ := h
  obtain ⟨d1, rfl, t1⟩ := trs1 trs
  change opTupleR d1 = some d at hd
  cases d1 <;> simp only [opTupleR] at hd <;> first | cases hd | skip
  split at hd
  · rename_i n hk
    cases hd
    simp only [smallI, Bool.and_eq_true, decide_eq_true_eq] at hk
    refine ⟨n, t1.int, ⟨by omega, by omega, hk.1.1, hk.1.2, ?_⟩, fun p hp => out.tup sub (rgV_rps n) hp⟩
    rw [Int.sub_zero]
    exact hk.2
  · cases hd
theorem ro_rev {K : PySem.W.Frag} {H : Hp} {x : V} {Q : VK} (h : OpRd K .rev [x] H Q) : ∃ a xs, x = .ref a ∧ ((SqL K H a xs ∧ ∀ p, H p = none → Q (.ref p) (upd H p (.lst xs.reverse))) ∨ (SqT K H a xs ∧ ∀ p, H p = none → Q (.ref p) (upd H p (.tup xs.reverse)))) := by
  obtain ⟨F, ds, d, sub, trs, hd, out⟩ := h
  obtain ⟨d1, rfl, t1⟩ := trs1 trs
  change opRev d1 = some d at hd
  cases d1 <;> simp only [opRev] at hd <;> first | (cases hd; done) | skip
  · cases hd
    obtain ⟨a, vs, rfl, h1, r1⟩ := t1.list sub
    exact ⟨a, vs, rfl, .inl ⟨.inl h1, fun p hp => out.lst sub r1.reverse hp⟩⟩
  · cases hd
    obtain ⟨a, vs, rfl, h1, f1, r1⟩ := t1.tuple sub
    exact ⟨a, vs, rfl, .inr ⟨h1, fun p hp => out.tup sub r1.reverse hp⟩⟩
theorem ty_boot : ∀ t : Ty, bootBuiltins (Str.ofString (tyN t)) = some (.type (tyN t)) := by
  intro t
  cases t <;> decide +kernel
theorem ty_blts : ∀ t : Ty, Str.ofString (tyN t) ∈ blts := by
  intro t
  cases t <;> decide +kernel
theorem pe_tyE (g : Gd X Γ q) {t : Ty} {b : Expr} (h : tyE q t b = true) : PE X b (tC (.ty (tyN t))) := by
  unfold tyE at h
  split at h
  · rename_i y p
    simp only [Bool.and_eq_true, beq_iff_eq] at h
    obtain ⟨rfl, hg⟩ := h
    refine pe_bltn (g.glx hg) (g.mgb _ (ty_blts t)) (ty_boot t) rfl ?_ ?_
    · cases t <;> decide +kernel
    · cases t <;> decide +kernel
  · cases h
theorem ns_tyE {t : Ty} {b : Expr} (h : tyE q t b = true) : ns b = true := by
  unfold tyE at h
  split at h
  · rfl
  · cases h
theorem ro_isi {K : PySem.W.Frag} {t : Ty} {H : Hp} {x : V} {Q : VK} (h : OpRd K (.isi t) [x] H Q) : rIsi K [x, .ty (tyN t)] H Q := by
  obtain ⟨F, ds, d, sub, trs, hd, out⟩ := h
  obtain ⟨d1, rfl, t1⟩ := trs1 trs
  change some (.bool (isTy t d1)) = some d at hd
  cases hd
  exact ⟨x, _, _, _, _, rfl, .ty _, tyx_of sub t1, kit_dty t d1, out.scal sub (.bl _) rfl⟩
theorem cls_tys : ∀ ts : List Ty, Paired ClsV (ts.map fun t => V.ty (tyN t)) (ts.map fun t => Value.type (tyN t))
  | [] => .nil
  | t :: ts => .cons (.ty _) (cls_tys ts)
def tyVs (ts : List Ty) : TA := fun _ H Q => Q (ts.map fun t => V.ty (tyN t)) H
theorem pa_tyEs (g : Gd X Γ q) : ∀ {ts : List Ty} {bs : List Expr}, tyEs q ts bs = true → PA X bs (tyVs ts)
  | [], [], _ => pa_nil
  | [], _ :: _, h => by cases h
  | _ :: _, [], h => by cases h
  | t :: ts, b :: bs, h => by
    unfold tyEs at h
    simp only [Bool.and_eq_true] at h
    exact pa_cons (pe_tyE g h.1) (pa_tyEs g h.2) (star_ns (ns_tyE h.1))
theorem tyEs_len : ∀ {ts : List Ty} {bs : List Expr}, tyEs q ts bs = true → ts.length = bs.length
  | [], [], _ => rfl
  | [], _ :: _, h => by cases h
  | _ :: _, [], h => by cases h
  | t :: ts, b :: bs, h => by
    unfold tyEs at h
    simp only [Bool.and_eq_true] at h
    rw [List.length_cons, List.length_cons, tyEs_len h.2]
theorem tys_size {ts : List Ty} {bs : List Expr} (h : tyEs q ts bs = true) (hl : bs.length ≤ 100) : (ts.map fun t => V.ty (tyN t)).length ≤ sizeLine := by
  rw [List.length_map, tyEs_len h]
  exact Nat.le_trans hl (by decide)
theorem TR.new {K : PySem.W.Frag} {F H : Hp} {v : V} {d : D} {p : Addr} {o : HO} (t : TR K F H v d) (hp : H p = none) : TR K F (upd H p o) v d := by
  rcases t with t | ⟨a, rfl, t⟩
  · exact .inl t
  · obtain ⟨u, eu⟩ := t.has
    exact .inr ⟨a, rfl, t.mono Same.refl (upd_ne (ne_of_none eu hp))⟩
theorem ro_isis {K : PySem.W.Frag} {ts : List Ty} {H : Hp} {x : V} {Q : VK} {p : Addr} (h : OpRd K (.isis ts) [x] H Q) (hp : H p = none) : rIsiT K [x, .ref p] (upd H p (.tup (ts.map fun t => V.ty (tyN t)))) Q := by
  obtain ⟨F, ds, d, sub, trs, hd, out⟩ := h
  obtain ⟨d1, rfl, t1⟩ := trs1 trs
  change some (.bool (ts.any fun t => isTy t d1)) = some d at hd
  cases hd
  refine ⟨x, p, _, _, _, _, rfl, upd_same, cls_tys ts, tyx_of (same_new sub hp) (t1.new hp), kit_dtys d1 ts, ?_⟩
  exact out (.bl _) F _ (ext_new hp) (same_new sub hp) (.bl _)
theorem op_pe (g : Gd X Γ q) {o : Op} {x : Expr} {xs : List Expr} {es : Ex} (h : opArgs q o x = some xs) (hp : PAx X C xs es) : PE X x (tOpA X.K o (tAs X.K C es)) := by
  have hu := g.un
  unfold opArgs at h
  split at h
  · cases h; obtain ⟨a, b, rfl, _, pa, _, pb⟩ := pax2 hp; exact pe_op ro_add pa pb
  · cases h; obtain ⟨a, b, rfl, _, pa, _, pb⟩ := pax2 hp; exact pe_op ro_sub pa pb
  · cases h; obtain ⟨a, b, rfl, _, pa, _, pb⟩ := pax2 hp; exact pe_op ro_mul pa pb
  · cases h; obtain ⟨a, b, rfl, _, pa, _, pb⟩ := pax2 hp; exact pe_op ro_fdiv pa pb
  · cases h; obtain ⟨a, b, rfl, _, pa, _, pb⟩ := pax2 hp; exact pe_op ro_mod pa pb
  · cases h; obtain ⟨a, b, rfl, _, pa, _, pb⟩ := pax2 hp; exact pe_op ro_pow pa pb
  · cases h; obtain ⟨a, rfl, _, pa⟩ := pax1 hp; exact pe_un ro_neg pa
  · cases h; obtain ⟨a, b, rfl, _, pa, _, pb⟩ := pax2 hp; exact pe_cmpR (ro_eq (by omega)) pa pb (nomark _)
  · cases h; obtain ⟨a, b, rfl, _, pa, _, pb⟩ := pax2 hp; exact pe_cmpR (ro_ne (by omega)) pa pb (nomark _)
  · cases h; obtain ⟨a, b, rfl, _, pa, _, pb⟩ := pax2 hp; exact pe_cmpR ro_lt pa pb (nomark _)
  · cases h; obtain ⟨a, b, rfl, _, pa, _, pb⟩ := pax2 hp; exact pe_cmpR ro_le pa pb (nomark _)
  · cases h; obtain ⟨a, b, rfl, _, pa, _, pb⟩ := pax2 hp; exact pe_cmpR ro_gt pa pb (nomark _)
  · cases h; obtain ⟨a, b, rfl, _, pa, _, pb⟩ := pax2 hp; exact pe_cmpR ro_ge pa pb (nomark _)
  · cases h; obtain ⟨a, rfl, _, pa⟩ := pax1 hp
    exact PE.imp (pe_cmp (pc_isN pa)) fun σ H Q h => tG_mono h fun v H k => ro_isN (X := X) k
  · cases h; obtain ⟨a, rfl, _, pa⟩ := pax1 hp
    exact PE.imp (pe_cmp (pc_notN pa)) fun σ H Q h => tG_mono h fun v H k => ro_notN (X := X) k
  · split at h
    · rename_i hb
      cases h
      have hb := eq_of_beq hb
      subst hb
      obtain ⟨a, rfl, _, pa⟩ := pax1 hp
      exact PE.imp (pe_cmpR op_isBl pa pe_bl (nomark _)) fun σ H Q h => tG_mono h fun v H k => by
        obtain ⟨b, rfl, k2⟩ := ro_isB (X := X) k
        exact ⟨b, _, rfl, rfl, k2⟩
    · cases h
  · split at h
    · rename_i hb
      cases h
      have hb := eq_of_beq hb
      subst hb
      obtain ⟨a, rfl, _, pa⟩ := pax1 hp
      exact PE.imp (pe_cmpR op_notBl pa pe_bl (nomark _)) fun σ H Q h => tG_mono h fun v H k => by
        obtain ⟨b, rfl, k2⟩ := ro_notB (X := X) k
        exact ⟨b, _, rfl, rfl, k2⟩
    · cases h
  · split at h
    · rename_i hb
      cases h
      obtain ⟨a, b, rfl, _, pa, _, pb⟩ := pax2 hp
      exact pe_cmpR (ro_in hu) pa pb (noset_marks hb)
    · cases h
  · split at h
    · rename_i hb
      cases h
      obtain ⟨a, b, rfl, _, pa, _, pb⟩ := pax2 hp
      exact pe_cmpR (ro_notin hu) pa pb (noset_marks hb)
    · cases h
  · split at h
    · rename_i hb
      cases h
      obtain ⟨a, b, rfl, _, pa, _, pb⟩ := pax2 hp
      exact pe_ix ro_ix pa pb (plainIx_of hb)
    · cases h
  · cases h; obtain ⟨a, rfl, _, pa⟩ := pax1 hp
    exact PE.imp (pe_slice sl_both pa po_none po_none) fun σ H Q h => tG_mono h fun v H k => sl_op1 k
  · cases h; obtain ⟨a, b, rfl, _, pa, _, pb⟩ := pax2 hp
    exact PE.imp (pe_slice sl_both pa (po_some pb) po_none) fun σ H Q h => tG_mono h fun v H k => tG_mono k fun w H k => sl_op2 k
  · cases h; obtain ⟨a, b, rfl, _, pa, _, pb⟩ := pax2 hp
    exact PE.imp (pe_slice sl_both pa po_none (po_some pb)) fun σ H Q h => tG_mono h fun v H k => tG_mono k fun w H k => sl_op3 k
  · split at h
    · rename_i hj
      cases h
      subst hj
      obtain ⟨a, rfl, _, pa⟩ := pax1 hp
      exact PE.imp (pe_revA pa) fun σ H Q h => tG_mono h fun v H k => ro_rev k
    · cases h
  · exact pe_bi1 g (by decide +kernel) ro_len boot_len h hp
  · exact pe_bi1 g (by decide +kernel) ro_abs (by decide +kernel) h hp
  · exact pe_ty1 g (by decide +kernel) ro_int (by decide +kernel) h hp
  · exact pe_ty1 g (by decide +kernel) (ro_list g.calm) (by decide +kernel) h hp
  · exact pe_ty1 g (by decide +kernel) ro_tuple (by decide +kernel) h hp
  · split at h
    · rename_i r hb
      obtain ⟨a, p, pos, rfl, e2, hg⟩ := bi1_of hb
      cases e2
      obtain ⟨z, p2, pos2, rfl, rfl, hg2⟩ := rg1 h
      obtain ⟨a, rfl, na, pa⟩ := pax1 hp
      refine PE.imp (pe_listRg g.calm (g.glx hg) (g.mgb _ (by decide +kernel)) (prg_1 (g.glx hg2) (g.mgb _ (by decide +kernel)) pa (star_ns na))) fun σ H Q h => tG_mono h fun v H k => ?_
      obtain ⟨n, rfl, ok, k⟩ := ro_listR k
      exact ⟨n, rfl, ok, k⟩
    · cases h
  · split at h
    · rename_i r hb
      obtain ⟨a, p, pos, rfl, e2, hg⟩ := bi1_of hb
      cases e2
      obtain ⟨z, p2, pos2, rfl, rfl, hg2⟩ := rg1 h
      obtain ⟨a, rfl, na, pa⟩ := pax1 hp
      refine PE.imp (pe_tupRg g.calm (g.glx hg) (g.mgb _ (by decide +kernel)) (prg_1 (g.glx hg2) (g.mgb _ (by decide +kernel)) pa (star_ns na))) fun σ H Q h => tG_mono h fun v H k => ?_
      obtain ⟨n, rfl, ok, k⟩ := ro_tupleR k
      exact ⟨n, rfl, ok, k⟩
    · cases h
  · exact pe_bi1 g (by decide +kernel) ro_sorted (by decide +kernel) h hp
  · exact pe_bi1 g (by decide +kernel) (ro_sum g.calm) (by decide +kernel) h hp
  · exact pe_bi1 g (by decide +kernel) (ro_max1 g.calm) (by decide +kernel) h hp
  · exact pe_bi1 g (by decide +kernel) (ro_min1 g.calm) (by decide +kernel) h hp
  · exact pe_bi2 g (by decide +kernel) (ro_max2 g.calm) (by decide +kernel) h hp
  · exact pe_bi2 g (by decide +kernel) (ro_min2 g.calm) (by decide +kernel) h hp
  · exact pe_bi1 g (by decide +kernel) (ro_all g.calm) (by decide +kernel) h hp
  · exact pe_bi1 g (by decide +kernel) (ro_any g.calm) (by decide +kernel) h hp
  · split at h
    · rename_i a b hb
      obtain ⟨a', b', p, pos, rfl, e2, hg⟩ := bi2_of hb
      cases e2
      split at h
      · rename_i ht
        cases h
        obtain ⟨e, rfl, na, pa⟩ := pax1 hp
        have hnb := ns_tyE ht
        refine PE.imp (pe_callB call_isi (g.glx hg) (g.mgb _ (by decide +kernel)) (by decide +kernel) (pa_cons pa (pa_cons (pe_tyE g ht) pa_nil (star_ns hnb)) (star_ns na)) (by decide) (by decide) (star_ns na) (by rw [star_ns hnb]; rfl)) fun σ H Q h => tG_mono h fun v H k => ?_
        exact ro_isi k
      · cases h
    · cases h
  · split at h
    · rename_i a bs bk bp hb
      obtain ⟨a', b', p, pos, rfl, e2, hg⟩ := bi2_of hb
      cases e2
      split at h
      · rename_i ht
        cases h
        simp only [Bool.and_eq_true, decide_eq_true_eq] at ht
        obtain ⟨e, rfl, na, pa⟩ := pax1 hp
        refine PE.imp (pe_callB call_isiT (g.glx hg) (g.mgb _ (by decide +kernel)) (by decide +kernel) (pa_cons pa (pa_cons (pe_tup (pa_tyEs g ht.1.1)) pa_nil rfl) (star_ns na)) (by decide) (by decide) (star_ns na) rfl) fun σ H Q h => tG_mono h fun v H k => ?_
        exact ⟨tys_size ht.1.1 ht.2, fun p hp => ro_isis k hp⟩
      · cases h
    · cases h
  · cases h
end
end FC

/-! Part 7: expressions. -/
namespace FC
open PySem PySem.Spec PyProof.Rows L2

section
variable {K : PySem.W.Frag} {F H F' H' : Hp} {σ : L2.St} {s s' : S}
theorem Rs.addF {a : Addr} {o : HO} (r : Rs K F H σ s) (e : H a = some o) (hf : F a = none) (nA : ¬ Ad σ s a) : Rs K (upd F a o) H σ s := by
  have sm : Same F (upd F a o) := fun b u q => by rw [upd_ne (ne_of_none q hf)]; exact q
  refine ⟨same_shut r.sub e, r.len, fun i b eb => ?_, r.dis⟩
  obtain ⟨v, e1, h⟩ := r.at_ i b eb
  refine ⟨v, e1, ?_⟩
  cases b with
  | val d => exact Rp.same sm h
  | own d =>
    obtain ⟨c, rfl, hn, ob⟩ := h
    have ne : c ≠ a := fun z => nA ⟨i, _, eb, rfl, by rw [← z]; exact e1⟩
    exact ⟨c, rfl, by rw [upd_ne ne]; exact hn, ob.mono sm rfl⟩
  | lent d =>
    obtain ⟨c, rfl, hn, ob⟩ := h
    have ne : c ≠ a := fun z => nA ⟨i, _, eb, rfl, by rw [← z]; exact e1⟩
    exact ⟨c, rfl, by rw [upd_ne ne]; exact hn, ob.mono sm rfl⟩
theorem Ext.addF {A : Addr → Prop} {a : Addr} {o : HO} (x : Ext A F H F' H') (hf : F' a = none) (h0 : H a = none) : Ext A F H (upd F' a o) H' := by
  refine ⟨fun b u q => ?_, x.k, fun b n e q => ?_, x.t⟩
  · have := x.f b u q
    rw [upd_ne (ne_of_none this hf)]
    exact this
  · rw [upd_ne (fun z => q (by rw [z]; exact h0))]
    exact x.z b n e q
/-- a new object becomes a value -/
theorem raw_val {v : V} {d : D} (r : Rs K F H σ s) (r' : Rs K F' H' σ s') (x : Ext (Ad σ s) F H F' H') (sub : ∀ a, Ad σ s' a → Ad σ s a) (w : Raw K F' H' H v d) :
    ∃ F'', Rs K F'' H' σ s' ∧ Ext (Ad σ s) F H F'' H' ∧ Rp K F'' v d := by
  unfold Raw at w
  split at w
  · obtain ⟨a, rfl, h0, hf, ob⟩ := w
    obtain ⟨o, eo⟩ := ob.has
    exact ⟨upd F' a o, r'.addF eo hf (fun z => (Ad.tracked r (sub a z)).1 h0), x.addF hf h0, ob.frz eo hf⟩
  · exact ⟨F', r', x, w⟩
end

section
variable {X : Cx} {Γ : Gam} {q : Scp} {C : Calls} {x : Expr} {e : Ex}
theorem pe_frz {K : PySem.W.Frag} {m : M D} (h : PE X x (tG K m fun F H _ H0 v d => Raw K F H H0 v d)) : PE X x (tG K m fun F _ _ _ v d => Rp K F v d) := by
  refine PE.imp h fun σ H Q hq => ?_
  obtain ⟨s, F, d, s', r, e, k⟩ := hq
  refine ⟨s, F, d, s', r, e, fun v F' H' r' x' sub w => ?_⟩
  obtain ⟨F'', r2, x2, p⟩ := raw_val r r' x' sub w
  exact k v F'' H' r2 x2 sub p
/-- a value as an operand -/
theorem pe_vl {K : PySem.W.Frag} {m : M D} (h : PE X x (tG K m fun F _ _ _ v d => Rp K F v d)) : PE X x (tG K (bnd m fun d => gives (.vl d)) fun F H σ H0 v a => ArR K F H σ H0 v a) := by
  refine PE.imp h fun σ H Q hq => ?_
  obtain ⟨s, F, a, s', r, e, k⟩ := hq
  obtain ⟨d, s1, e1, e2⟩ := bnd_some e
  cases e2
  exact ⟨s, F, d, s', r, e1, fun v F' H' r' x' sub w => k v F' H' r' x' sub w⟩
theorem pe_ow {K : PySem.W.Frag} {m : M D} (h : PE X x (tG K m fun F H _ H0 v d => Raw K F H H0 v d)) : PE X x (tG K (bnd m fun d => if newObj d then gives (.ow d) else fails) fun F H σ H0 v a => ArR K F H σ H0 v a) := by
  refine PE.imp h fun σ H Q hq => ?_
  obtain ⟨s, F, a, s', r, e, k⟩ := hq
  obtain ⟨d, s1, e1, e2⟩ := bnd_some e
  split at e2
  · rename_i hn
    cases e2
    refine ⟨s, F, d, s', r, e1, fun v F' H' r' x' sub w => k v F' H' r' x' sub ⟨hn, ?_⟩⟩
    change (if newObj d = true then _ else _) at w
    rw [if_pos hn] at w
    exact w
  · cases e2
theorem tru_of {K : PySem.W.Frag} {F H : Hp} {v : V} {d : D} {k : Bool} (sub : Same F H) (t : TR K F H v d) (h : truD d = some k) : TruV K v H k := by
  cases d with
  | none => cases h; rw [t.non]; exact rfl
  | bool b => cases h; rw [t.bl]; exact rfl
  | int i => cases h; rw [t.int]; exact rfl
  | str z =>
    simp only [truD] at h
    split at h
    · rename_i hz
      cases h
      rw [t.str]
      refine ⟨hz, ?_⟩
      cases e : z.length with
      | zero => rfl
      | succ n => simp; omega
    · cases h
  | list ds =>
    cases h
    obtain ⟨a, vs, rfl, h1, r1⟩ := t.list sub
    refine .inl ⟨vs, .inl h1, ?_⟩
    cases r1 <;> rfl
  | tuple ds =>
    cases h
    obtain ⟨a, vs, rfl, h1, f1, r1⟩ := t.tuple sub
    refine .inr (.inl ⟨vs, h1, ?_⟩)
    cases r1 <;> rfl
  | dict _ => cases h
/-- plain expressions as tests -/
def plainT : Expr → Bool
  | .UnaryOp .Not _ _ => false
  | .BoolOp .. => false
  | .IfExp .. => false
  | .Compare .. => false
  | _ => true
theorem plainT_eq {env : Env} (h : plainT x = true) (whole : Sem Value) : isTrue x env whole = (do let v ← whole; standAt x.pos; holding [v] (truthy v)) := by
  cases x with
  | UnaryOp op a p => cases op <;> first | rfl | (cases h; done)
  | _ => first | rfl | (cases h; done)
theorem pt_of {m : M D} (hx : plainT x = true) (h : PE X x (tG X.K m fun F _ _ _ v d => Rp X.K F v d)) : PT X x (tT X.K (bnd m fun d => lift (truD d))) := by
  refine PT.imp (pt_truth h (plainT_eq hx)) fun σ H Q hq => ?_
  obtain ⟨s, F, k, s', r, e, h⟩ := hq
  obtain ⟨d, s1, e1, e2⟩ := bnd_some e
  obtain ⟨e3, e4⟩ := lift_some e2
  cases e4
  exact ⟨s, F, d, _, r, e1, fun v F' H' r' x' sub w => ⟨k, tru_of r'.sub (.inl w) e3, h F' H' r' x' sub⟩⟩
theorem pt_cmp_of {y : Expr} {ops : List CmpOp} {cs : List Expr} {pos : Pos} {m : M D} (hb : ∀ s d s', m s = some (d, s') → ∃ b, d = .bool b) (t : TE) (hp : PT X x (tTest t)) (h : ∀ σ H Q, tG X.K m (fun F _ _ _ v d => Rp X.K F v d) σ H Q → t σ H Q) : PT X x (tT X.K (bnd m fun d => lift (truD d))) := by
  refine PT.imp hp fun σ H Q hq => ?_
  obtain ⟨s, F, k, s', r, e, h2⟩ := hq
  obtain ⟨d, s1, e1, e2⟩ := bnd_some e
  obtain ⟨e3, e4⟩ := lift_some e2
  cases e4
  obtain ⟨b, rfl⟩ := hb _ _ _ e1
  cases e3
  refine h σ H _ ⟨s, F, _, _, r, e1, fun v F' H' r' x' sub w => ?_⟩
  change Rp X.K F' v (.bool k) at w
  cases w
  exact ⟨k, rfl, h2 F' H' r' x' sub⟩

/-! ### constants, names -/
theorem pe_con {d : D} (h : conOk d x = true) : PE X x (tV X.K C (.con d)) := by
  have key : ∀ v : V, (∀ F, Rp X.K F v d) → PE X x (tC v) → PE X x (tV X.K C (.con d)) := fun v hr hp => PE.imp hp fun σ H Q hq => by
    obtain ⟨s, F, a, s', r, e, k⟩ := hq
    cases e
    exact k v F H r Ext.refl (fun _ z => z) (hr F)
  unfold conOk at h
  split at h
  · exact key .non (fun _ => .non) pe_non
  · have e := eq_of_beq h
    subst e
    exact key (.bl _) (fun _ => .bl _) pe_bl
  · have e := of_decide_eq_true h
    subst e
    exact key (.int _) (fun _ => .int _) pe_int
  · have e := of_decide_eq_true h
    subst e
    exact key (.str _) (fun _ => .str _) pe_str
  · cases h
theorem con_plain {d : D} (h : conOk d x = true) : plainT x = true := by
  unfold conOk at h
  split at h <;> first | rfl | cases h
theorem vis_of {i : Nat} (g : Gd X Γ q) (h : vis Γ q i x = true) : (∃ y p, x = .Name y p) ∧ PE X x (tVar i) := by
  unfold vis at h
  split at h
  · rename_i y p
    simp only [Bool.and_eq_true, Bool.not_eq_true', beq_iff_eq] at h
    obtain ⟨⟨⟨h1, h2⟩, h3⟩, h4⟩ := h
    refine ⟨⟨y, p, rfl⟩, pe_var (by rw [g.N]; exact h1) ?_ h3 h4⟩
    unfold Vis
    rw [g.sc]
    unfold visB at h2
    split at h2 <;> first | (cases h2; done) | (rename_i e; first | exact .inl e | exact .inr (.inl e) | exact .inr (.inr e))
  · cases h
theorem pe_var_ (g : Gd X Γ q) {i : Nat} (h : vis Γ q i x = true) : PE X x (tV X.K C (.var i)) := by
  refine PE.imp (vis_of g h).2 fun σ H Q hq => ?_
  obtain ⟨s, F, d, s', r, e, k⟩ := hq
  have e : rdV i s = some (d, s') := e
  unfold rdV at e
  split at e
  · rename_i d' eb
    cases e
    obtain ⟨v, e1, rb⟩ := r.at_ _ _ eb
    exact ⟨v, e1, k v F H r Ext.refl (fun _ z => z) rb⟩
  · rename_i d' eb
    cases e
    obtain ⟨v, e1, rb⟩ := r.at_ _ _ eb
    obtain ⟨a, rfl, hf, ob⟩ := rb
    obtain ⟨o, eo⟩ := ob.has
    have hi : i < s.length := (List.getElem?_eq_some_iff.mp eb).1
    refine ⟨.ref a, e1, k (.ref a) (upd F a o) H ?_ (ext_shut hf ⟨i, _, eb, rfl, e1⟩) ?_ (ob.frz eo hf)⟩
    · have sm : Same F (upd F a o) := fun b u q => by rw [upd_ne (ne_of_none q hf)]; exact q
      refine ⟨same_shut r.sub eo, by rw [List.length_set]; exact r.len, fun j b ej => ?_, fun j k b c a' e1 e2 m1 m2 e3 e4 => ?_⟩
      · by_cases hj : j = i
        · subst hj
          rw [List.getElem?_set_self hi] at ej
          cases ej
          exact ⟨_, e1, ob.frz eo hf⟩
        · rw [List.getElem?_set_ne (Ne.symm hj)] at ej
          obtain ⟨w, ew, h2⟩ := r.at_ j b ej
          refine ⟨w, ew, ?_⟩
          have nea : ∀ c, w = .ref c → b.mine = true → c ≠ a := fun c ec m z => hj (r.dis j i b _ a ej eb m rfl (by rw [ew, ec, z]) e1)
          cases b with
          | val d => exact Rp.same sm h2
          | own d =>
            obtain ⟨c, rfl, hn, ob2⟩ := h2
            exact ⟨c, rfl, by rw [upd_ne (nea c rfl rfl)]; exact hn, ob2.mono sm rfl⟩
          | lent d =>
            obtain ⟨c, rfl, hn, ob2⟩ := h2
            exact ⟨c, rfl, by rw [upd_ne (nea c rfl rfl)]; exact hn, ob2.mono sm rfl⟩
      · have nj : ∀ {j : Nat} {b : B}, (s.set i (some (.val d)))[j]? = some (some b) → b.mine = true → s[j]? = some (some b) := fun {j b} ej m => by
          by_cases hj : j = i
          · subst hj
            rw [List.getElem?_set_self hi] at ej
            cases ej
            cases m
          · rw [List.getElem?_set_ne (Ne.symm hj)] at ej
            exact ej
        exact r.dis j k b c a' (nj e1 m1) (nj e2 m2) m1 m2 e3 e4
    · rintro b ⟨j, c, ej, m, ev⟩
      by_cases hj : j = i
      · subst hj
        rw [List.getElem?_set_self hi] at ej
        cases ej
        cases m
      · rw [List.getElem?_set_ne (Ne.symm hj)] at ej
        exact ⟨j, c, ej, m, ev⟩
  · cases e
theorem pe_arSlot (g : Gd X Γ q) {i : Nat} {a : Ar} (ha : a = .pl i ∨ a = .ln i) (h : vis Γ q i x = true) : PE X x (tG X.K (slotA a) fun F H σ H0 v a => ArR X.K F H σ H0 v a) := by
  refine PE.imp (vis_of g h).2 fun σ H Q hq => ?_
  obtain ⟨s, F, d, s', r, e, k⟩ := hq
  unfold slotA at e
  split at e
  · rename_i dd er
    cases e
    have : ∃ b, s[i]? = some (some b) := by
      rcases ha with rfl | rfl
      · simp only [resA] at er
        split at er
        · rename_i b eb; exact ⟨b, eb⟩
        · cases er
      · simp only [resA] at er
        split at er
        · rename_i b eb; exact ⟨_, eb⟩
        · rename_i b eb; exact ⟨_, eb⟩
        · cases er
    obtain ⟨b, eb⟩ := this
    obtain ⟨v, e1, rb⟩ := r.at_ _ _ eb
    refine ⟨v, e1, k v F H r Ext.refl (fun _ z => z) ?_⟩
    rcases ha with rfl | rfl
    · exact e1
    · exact e1
  · cases e
theorem pt_pk_ (g : Gd X Γ q) {i : Nat} (h : vis Γ q i x = true) : PT X x (tT X.K (sem C (.pk i)).t) := by
  obtain ⟨⟨y, p, rfl⟩, hp⟩ := vis_of g h
  refine PT.imp (pt_truth hp (plainT_eq rfl)) fun σ H Q hq => ?_
  obtain ⟨s, F, kk, s', r, e, k⟩ := hq
  change (match resA s (.pl i) with
      | none => none
      | some d => match truD d with
        | none => none
        | some k => some (k, s)) = some (kk, s') at e
  split at e
  · cases e
  · rename_i d er
    split at e
    · cases e
    · rename_i k2 ek
      cases e
      simp only [resA] at er
      split at er
      · rename_i b eb
        cases er
        obtain ⟨v, e1, rb⟩ := r.at_ _ _ eb
        exact ⟨v, e1, kk, tru_of r.sub rb.tr ek, k F H r Ext.refl fun _ z => z⟩
      · cases er
theorem pe_glob_ (g : Gd X Γ q) {y : Str} {d : D} (h : (mm Γ (.glob y d)).e q x = true) : plainT x = true ∧ PE X x (tV X.K C (.glob y d)) := by
  simp only [mm] at h
  split at h
  · rename_i z p
    simp only [Bool.and_eq_true, Bool.not_eq_true', beq_iff_eq, List.any_eq_true] at h
    obtain ⟨⟨⟨rfl, hg⟩, ⟨pr, hm, e1, hc⟩⟩, hd⟩ := h
    refine ⟨rfl, ?_⟩
    obtain ⟨u, hu, hr⟩ := g.gv pr hm
    rw [e1] at hu
    obtain ⟨pn, pd⟩ := pr
    simp only at hr hc e1
    have key : ∀ v : V, RelV v u → (∀ F, Rp X.K F v d) → PE X (.Name z p) (tV X.K C (.glob z d)) := fun v rv rp => PE.imp (pe_glob (g.glx hg) hu rv hd) fun σ H Q hq => by
      obtain ⟨s, F, a, s', r, e, k⟩ := hq
      cases e
      exact k v F H r Ext.refl (fun _ z => z) (rp F)
    cases pd with
    | int i =>
      unfold conOk at hc
      split at hc <;> first | (cases hc; done) | skip
      · rename_i h1; cases h1
      · rename_i h1; cases h1
      · rename_i i' j _ _ h1
        have e2 := of_decide_eq_true hc
        cases h1
        subst e2
        exact key (.int _) hr fun _ => .int _
      · rename_i h1; cases h1
    | str t =>
      unfold conOk at hc
      split at hc <;> first | (cases hc; done) | skip
      · rename_i h1; cases h1
      · rename_i h1; cases h1
      · rename_i h1; cases h1
      · rename_i i' j _ _ h1
        have e2 := of_decide_eq_true hc
        cases h1
        subst e2
        exact key (.str _) hr fun _ => .str _
    | _ => exact hr.elim
  · cases h
end
end FC

/-! Part 8: composite expressions. -/
namespace FC
open PySem PySem.Spec PyProof.Rows L2
section
variable {X : Cx} {Γ : Gam} {q : Scp} {C : Calls} {x : Expr}
abbrev RV (K : PySem.W.Frag) : Hp → Hp → L2.St → Hp → V → D → Prop := fun F _ _ _ v d => Rp K F v d
abbrev RO (K : PySem.W.Frag) : Hp → Hp → L2.St → Hp → V → D → Prop := fun F H _ H0 v d => Raw K F H H0 v d

theorem raw_rp {K : PySem.W.Frag} {F H H0 : Hp} {v : V} {d : D} (h : newObj d = false) (r : Rp K F v d) : Raw K F H H0 v d := by
  unfold Raw
  rw [h, if_neg Bool.false_ne_true]
  exact r
theorem Raw.back {K : PySem.W.Frag} {F H H0 H1 : Hp} {v : V} {d : D} (w : Raw K F H H1 v d) (t : ∀ b, H0 b ≠ none → H1 b ≠ none) : Raw K F H H0 v d := by
  unfold Raw at w ⊢
  split
  · rename_i hn
    rw [if_pos hn] at w
    obtain ⟨a, e, h1, r⟩ := w
    refine ⟨a, e, ?_, r⟩
    cases q : H0 a with
    | none => rfl
    | some o => exact absurd h1 (t a (by rw [q]; intro z; cases z))
  · rename_i hn
    rw [if_neg hn] at w
    exact w
theorem opM_some {o : Op} {as : M (List Ar)} {s s' : S} {d : D} (h : opM o as s = some (d, s')) : ∃ l ds, as s = some (l, s') ∧ resAs s' l = some ds ∧ opD o ds = some d := by
  unfold opM at h
  obtain ⟨l, s1, e1, e⟩ := bnd_some h
  split at e
  · cases e
  · rename_i ds e2
    split at e
    · cases e
    · rename_i d' e3
      cases e
      exact ⟨l, ds, e1, e2, e3⟩
theorem pe_opG (g : Gd X Γ q) {o : Op} {xs : List Expr} {es : Ex} (h : opArgs q o x = some xs) (hp : PAx X C xs es) :
    PE X x (tG X.K (opM o (sem C es).as) fun F H _ H0 v d => if (opFresh o && newObj d) = true then Raw X.K F H H0 v d else Rp X.K F v d) := by
  refine PE.imp (op_pe g h hp) fun σ H Q hq => ?_
  obtain ⟨s, F, d, s', r, e, k⟩ := hq
  obtain ⟨l, ds, e1, e2, e3⟩ := opM_some e
  refine as_read es r e1 fun vs F' H' r' x' sub arrs => ⟨F', ds, d, r'.sub, arrs.trs r' e2, e3, fun v F2 H2 x2 sm w => ?_⟩
  refine k v F2 H2 (r'.ext x2 sm) (x'.trans x2.none_ fun b z => .inl (sub b z)) sub ?_
  split at w
  · rename_i hf
    rw [if_pos hf]
    obtain ⟨a, e, h1, r⟩ := w
    have hn : newObj d = true := by
      rw [Bool.and_eq_true] at hf
      exact hf.2
    refine Raw.back (H1 := H') ?_ x'.t
    unfold Raw
    rw [if_pos hn]
    exact ⟨a, e, h1, r⟩
  · rename_i hf
    rw [if_neg hf]
    exact w
theorem pe_opO (g : Gd X Γ q) {o : Op} {xs : List Expr} {es : Ex} (h : opArgs q o x = some xs) (hp : PAx X C xs es) (hf : opFresh o = true) : PE X x (tG X.K (opM o (sem C es).as) (RO X.K)) := by
  refine PE.imp (pe_opG g h hp) fun σ H Q hq => ?_
  obtain ⟨s, F, d, s', r, e, k⟩ := hq
  refine ⟨s, F, d, s', r, e, fun v F' H' r' x' sub w => k v F' H' r' x' sub ?_⟩
  rw [hf, Bool.true_and] at w
  split at w
  · exact w
  · rename_i hn
    exact raw_rp (by simpa using hn) w
theorem pe_opV (g : Gd X Γ q) {o : Op} {xs : List Expr} {es : Ex} (h : opArgs q o x = some xs) (hp : PAx X C xs es) : PE X x (tG X.K (opM o (sem C es).as) (RV X.K)) := by
  cases hf : opFresh o with
  | true => exact pe_frz (pe_opO g h hp hf)
  | false =>
    refine PE.imp (pe_opG g h hp) fun σ H Q hq => ?_
    obtain ⟨s, F, d, s', r, e, k⟩ := hq
    refine ⟨s, F, d, s', r, e, fun v F' H' r' x' sub w => k v F' H' r' x' sub ?_⟩
    rw [hf, Bool.false_and, if_neg Bool.false_ne_true] at w
    exact w
/-- which operations are comparisons -/
def cmpOp : Op → Bool
  | .eq | .ne | .lt | .le | .gt | .ge | .isN | .notN | .isB _ | .notB _ | .inn | .notin => true
  | _ => false
theorem cmp_bool {o : Op} (h : cmpOp o = true) {ds : List D} {d : D} (e : opD o ds = some d) : ∃ b, d = .bool b := by
  match ds, e with
  | [a], e =>
    change op1 o a = some d at e
    cases o <;> first | (cases h; done) | (cases e; done) | skip
    · cases e; exact ⟨_, rfl⟩
    · cases e; exact ⟨_, rfl⟩
    · change opIsB _ a = some d at e
      cases a <;> simp only [opIsB] at e <;> cases e
      exact ⟨_, rfl⟩
    · change opNotB _ a = some d at e
      cases a <;> simp only [opNotB] at e <;> cases e
      exact ⟨_, rfl⟩
  | [a, b], e =>
    change op2 o a b = some d at e
    cases o <;> first | (cases h; done) | (cases e; done) | skip
    · change (if _ then _ else _) = some d at e
      split at e <;> cases e
      exact ⟨_, rfl⟩
    · change (if _ then _ else _) = some d at e
      split at e <;> cases e
      exact ⟨_, rfl⟩
    · change opLt a b = some d at e
      cases a <;> cases b <;> simp only [opLt] at e <;> cases e <;> exact ⟨_, rfl⟩
    · change opLe a b = some d at e
      cases a <;> cases b <;> simp only [opLe] at e <;> cases e <;> exact ⟨_, rfl⟩
    · cases a <;> cases b <;> simp only [op2] at e <;> cases e <;> exact ⟨_, rfl⟩
    · cases a <;> cases b <;> simp only [op2] at e <;> cases e <;> exact ⟨_, rfl⟩
    · change (match opIn a b with | some k => some (.bool k) | none => none) = some d at e
      split at e <;> cases e
      exact ⟨_, rfl⟩
    · change (match opIn a b with | some k => some (.bool (!k)) | none => none) = some d at e
      split at e <;> cases e
      exact ⟨_, rfl⟩
  | [a, b, c], e => cases e
theorem op_plain {o : Op} {xs : List Expr} (h : opArgs q o x = some xs) (hc : cmpOp o = false) : plainT x = true := by
  unfold opArgs at h
  split at h <;> first | (cases hc; done) | rfl | skip
  all_goals first
    | (obtain ⟨_, _, _, rfl, _, _⟩ := bi1_of h; rfl)
    | (obtain ⟨_, _, _, _, rfl, _, _⟩ := bi2_of h; rfl)
    | skip
  all_goals first
    | (split at h
       · first
         | (rename_i hb; obtain ⟨_, _, _, rfl, _, _⟩ := bi1_of hb; rfl)
         | (rename_i hb; obtain ⟨_, _, _, _, rfl, _, _⟩ := bi2_of hb; rfl)
       · cases h)
    | cases h
theorem op_pt (g : Gd X Γ q) {o : Op} {xs : List Expr} {es : Ex} (h : opArgs q o x = some xs) (hc : cmpOp o = true) (hp : PAx X C xs es) : PT X x (tTest (tOpA X.K o (tAs X.K C es))) := by
  have hu := g.un
  unfold opArgs at h
  split at h <;> first | (cases hc; done) | skip
  · cases h; obtain ⟨a, b, rfl, _, pa, _, pb⟩ := pax2 hp; exact pt_cmpR (ro_eq (by omega)) pa pb (nomark _)
  · cases h; obtain ⟨a, b, rfl, _, pa, _, pb⟩ := pax2 hp; exact pt_cmpR (ro_ne (by omega)) pa pb (nomark _)
  · cases h; obtain ⟨a, b, rfl, _, pa, _, pb⟩ := pax2 hp; exact pt_cmpR ro_lt pa pb (nomark _)
  · cases h; obtain ⟨a, b, rfl, _, pa, _, pb⟩ := pax2 hp; exact pt_cmpR ro_le pa pb (nomark _)
  · cases h; obtain ⟨a, b, rfl, _, pa, _, pb⟩ := pax2 hp; exact pt_cmpR ro_gt pa pb (nomark _)
  · cases h; obtain ⟨a, b, rfl, _, pa, _, pb⟩ := pax2 hp; exact pt_cmpR ro_ge pa pb (nomark _)
  · cases h; obtain ⟨a, rfl, _, pa⟩ := pax1 hp
    exact PT.imp (pt_cmp (pc_isN pa)) fun σ H Q h => tG_mono h fun v H k => ro_isN (X := X) (Q := fun x H' => ∃ k, x = .bl k ∧ Q k H') k
  · cases h; obtain ⟨a, rfl, _, pa⟩ := pax1 hp
    exact PT.imp (pt_cmp (pc_notN pa)) fun σ H Q h => tG_mono h fun v H k => ro_notN (X := X) (Q := fun x H' => ∃ k, x = .bl k ∧ Q k H') k
  · split at h
    · rename_i hb
      cases h
      have hb := eq_of_beq hb
      subst hb
      obtain ⟨a, rfl, _, pa⟩ := pax1 hp
      exact PT.imp (pt_cmpR op_isBl pa pe_bl (nomark _)) fun σ H Q h => tG_mono h fun v H k => by
        obtain ⟨b, rfl, k2⟩ := ro_isB (X := X) (Q := fun x H' => ∃ k, x = .bl k ∧ Q k H') k
        exact ⟨b, _, rfl, rfl, k2⟩
    · cases h
  · split at h
    · rename_i hb
      cases h
      have hb := eq_of_beq hb
      subst hb
      obtain ⟨a, rfl, _, pa⟩ := pax1 hp
      exact PT.imp (pt_cmpR op_notBl pa pe_bl (nomark _)) fun σ H Q h => tG_mono h fun v H k => by
        obtain ⟨b, rfl, k2⟩ := ro_notB (X := X) (Q := fun x H' => ∃ k, x = .bl k ∧ Q k H') k
        exact ⟨b, _, rfl, rfl, k2⟩
    · cases h
  · split at h
    · rename_i hb
      cases h
      obtain ⟨a, b, rfl, _, pa, _, pb⟩ := pax2 hp
      exact pt_cmpR (ro_in hu) pa pb (noset_marks hb)
    · cases h
  · split at h
    · rename_i hb
      cases h
      obtain ⟨a, b, rfl, _, pa, _, pb⟩ := pax2 hp
      exact pt_cmpR (ro_notin hu) pa pb (noset_marks hb)
    · cases h
  · cases h
theorem op_t (g : Gd X Γ q) {o : Op} {xs : List Expr} {es : Ex} (h : opArgs q o x = some xs) (hp : PAx X C xs es) : PT X x (tT X.K (sem C (.op o es)).t) := by
  cases hc : cmpOp o with
  | false => exact pt_of (op_plain h hc) (pe_opV g h hp)
  | true =>
    refine PT.imp (op_pt g h hc hp) fun σ H Q hq => ?_
    obtain ⟨s, F, k, s', r, e, kk⟩ := hq
    have e : bnd (opM o (sem C es).as) (fun d => lift (truD d)) s = some (k, s') := e
    obtain ⟨d, s1, e1, e2⟩ := bnd_some e
    obtain ⟨e3, e4⟩ := lift_some e2
    cases e4
    obtain ⟨l, ds, f1, f2, f3⟩ := opM_some e1
    obtain ⟨b, rfl⟩ := cmp_bool hc f3
    cases e3
    refine as_read es r f1 fun vs F' H' r' x' sub arrs => ⟨F', ds, _, r'.sub, arrs.trs r' f2, f3, fun v F2 H2 x2 sm w => ?_⟩
    rw [show newObj (.bool k) = false from rfl, Bool.and_false, if_neg Bool.false_ne_true] at w
    cases w
    exact ⟨k, rfl, kk F2 H2 (r'.ext x2 sm) (x'.trans x2.none_ fun b z => .inl (sub b z)) sub⟩

/-! ### not, and, or -/
theorem tT_mono {K : PySem.W.Frag} {m : M Bool} {σ : L2.St} {H : Hp} {Q Q' : Bool → Hp → Prop} (h : tT K m σ H Q) (i : ∀ v H, Q v H → Q' v H) : tT K m σ H Q' := by
  obtain ⟨s, F, a, s', r, e, k⟩ := h
  exact ⟨s, F, a, s', r, e, fun F' H' r' x' a' => i _ _ (k F' H' r' x' a')⟩
theorem pe_not_ {a : Ex} {y : Expr} {p : Pos} (ha : PE X y (tV X.K C a)) : PE X (.UnaryOp .Not y p) (tV X.K C (.not a)) := by
  refine PE.imp (pe_notT ha) fun σ H Q hq => ?_
  obtain ⟨s, F, d, s', r, e, k⟩ := hq
  have e : bnd (sem C a).v (fun x => bnd (lift (truD x)) fun k => gives (.bool (!k))) s = some (d, s') := e
  obtain ⟨x, s1, e1, f1⟩ := bnd_some e
  obtain ⟨kk, s2, e2, f2⟩ := bnd_some f1
  clear e f1
  obtain ⟨e3, e4⟩ := lift_some e2
  change s2 = s1 at e4
  subst e4
  cases f2
  exact ⟨s, F, x, _, r, e1, fun v F' H' r' x' sub w => ⟨kk, tru_of r'.sub (.inl w) e3, k _ F' H' r' x' sub (.bl _)⟩⟩
theorem pt_not_ {a : Ex} {y : Expr} {p : Pos} (ha : PT X y (tT X.K (sem C a).t)) : PT X (.UnaryOp .Not y p) (tT X.K (sem C (.not a)).t) := by
  refine PT.imp (pt_not ha) fun σ H Q hq => ?_
  obtain ⟨s, F, d, s', r, e, k⟩ := hq
  have e : bnd (sem C a).t (fun k => gives (!k)) s = some (d, s') := e
  obtain ⟨x, s1, e1, e⟩ := bnd_some e
  cases e
  exact ⟨s, F, x, _, r, e1, fun F' H' r' x' sub => k F' H' r' x' sub⟩
/-- a piece, then another one -/
theorem tV_then {K : PySem.W.Frag} {c : Ex} {F H F1 H1 : Hp} {σ : L2.St} {s s1 s' : S} {d : D} {Q : VK} (r1 : Rs K F1 H1 σ s1) (x1 : Ext (Ad σ s) F H F1 H1) (sub1 : ∀ a, Ad σ s1 a → Ad σ s a) (e : (sem C c).v s1 = some (d, s'))
    (k : ∀ (v : V) (F' H' : Hp), Rs K F' H' σ s' → Ext (Ad σ s) F H F' H' → (∀ a, Ad σ s' a → Ad σ s a) → Rp K F' v d → Q v H') : tV K C c σ H1 Q :=
  ⟨s1, F1, d, s', r1, e, fun v F' H' r' x' sub w => k v F' H' r' (x1.trans x' fun b z => .inl (sub1 b z)) (fun b z => sub1 b (sub b z)) w⟩
theorem tT_then {K : PySem.W.Frag} {m : M Bool} {F H F1 H1 : Hp} {σ : L2.St} {s s1 s' : S} {a : Bool} {Q : Bool → Hp → Prop} (r1 : Rs K F1 H1 σ s1) (x1 : Ext (Ad σ s) F H F1 H1) (sub1 : ∀ a, Ad σ s1 a → Ad σ s a) (e : m s1 = some (a, s'))
    (k : ∀ (F' H' : Hp), Rs K F' H' σ s' → Ext (Ad σ s) F H F' H' → (∀ a, Ad σ s' a → Ad σ s a) → Q a H') : tT K m σ H1 Q :=
  ⟨s1, F1, a, s', r1, e, fun F' H' r' x' sub => k F' H' r' (x1.trans x' fun b z => .inl (sub1 b z)) (fun b z => sub1 b (sub b z))⟩
theorem pe_and_ {a b : Ex} {y z : Expr} {rest : List Expr} {p : Pos} (ha : PE X y (tV X.K C a)) (hb : PE X (.BoolOp .And (z :: rest) p) (tV X.K C b)) : PE X (.BoolOp .And (y :: z :: rest) p) (tV X.K C (.and a b)) := by
  refine PE.imp (pe_andT ha hb) fun σ H Q hq => ?_
  obtain ⟨s, F, d, s', r, e, k⟩ := hq
  have e : bnd (sem C a).v (fun x => bnd (lift (truD x)) fun k => if k then (sem C b).v else gives x) s = some (d, s') := e
  obtain ⟨x, s1, e1, f1⟩ := bnd_some e
  obtain ⟨kk, s2, e2, f2⟩ := bnd_some f1
  clear e f1
  obtain ⟨e3, e4⟩ := lift_some e2
  change s2 = s1 at e4
  subst e4
  refine ⟨s, F, x, _, r, e1, fun v F' H' r' x' sub w => ⟨kk, tru_of r'.sub (.inl w) e3, ?_⟩⟩
  cases kk with
  | true => exact tV_then r' x' sub f2 k
  | false =>
    cases f2
    exact k v F' H' r' x' sub w
theorem pe_or_ {a b : Ex} {y z : Expr} {rest : List Expr} {p : Pos} (ha : PE X y (tV X.K C a)) (hb : PE X (.BoolOp .Or (z :: rest) p) (tV X.K C b)) : PE X (.BoolOp .Or (y :: z :: rest) p) (tV X.K C (.or a b)) := by
  refine PE.imp (pe_orT ha hb) fun σ H Q hq => ?_
  obtain ⟨s, F, d, s', r, e, k⟩ := hq
  have e : bnd (sem C a).v (fun x => bnd (lift (truD x)) fun k => if k then gives x else (sem C b).v) s = some (d, s') := e
  obtain ⟨x, s1, e1, f1⟩ := bnd_some e
  obtain ⟨kk, s2, e2, f2⟩ := bnd_some f1
  clear e f1
  obtain ⟨e3, e4⟩ := lift_some e2
  change s2 = s1 at e4
  subst e4
  refine ⟨s, F, x, _, r, e1, fun v F' H' r' x' sub w => ⟨kk, tru_of r'.sub (.inl w) e3, ?_⟩⟩
  cases kk with
  | false => exact tV_then r' x' sub f2 k
  | true =>
    cases f2
    exact k v F' H' r' x' sub w
theorem raw_tr {K : PySem.W.Frag} {F H H0 : Hp} {v : V} {d : D} (w : Raw K F H H0 v d) : TR K F H v d := by
  unfold Raw at w
  split at w
  · obtain ⟨a, e, _, _, ob⟩ := w
    exact .inr ⟨a, e, ob⟩
  · exact .inl w
theorem pe_orO {a b : Ex} {y z : Expr} {rest : List Expr} {p : Pos} (ha : PE X y (tO X.K C a)) (hb : PE X (.BoolOp .Or (z :: rest) p) (tO X.K C b)) : PE X (.BoolOp .Or (y :: z :: rest) p) (tO X.K C (.or a b)) := by
  refine PE.imp (pe_orT ha hb) fun σ H Q hq => ?_
  obtain ⟨s, F, d, s', r, e, k⟩ := hq
  have e : bnd (sem C a).v (fun x => bnd (lift (truD x)) fun k => if k then gives x else (sem C b).v) s = some (d, s') := e
  obtain ⟨x, s1, e1, f1⟩ := bnd_some e
  obtain ⟨kk, s2, e2, f2⟩ := bnd_some f1
  clear e f1
  obtain ⟨e3, e4⟩ := lift_some e2
  change s2 = s1 at e4
  subst e4
  refine ⟨s, F, x, _, r, e1, fun v F' H' r' x' sub w => ⟨kk, tru_of r'.sub (raw_tr w) e3, ?_⟩⟩
  cases kk with
  | false => exact ⟨_, F', d, s', r', f2, fun v F2 H2 r2 x2 sub2 w2 => k v F2 H2 r2 (x'.trans x2 fun b z => .inl (sub b z)) (fun b z => sub b (sub2 b z)) (Raw.back w2 x'.t)⟩
  | true =>
    cases f2
    exact k v F' H' r' x' sub w
theorem pw_of {op : BoolOp} {l : List Expr} {p : Pos} {t : TT} (h : PT X (.BoolOp op l p) t) : PW X (.BoolOp op l p) t := ⟨fun _ => h.run⟩
theorem pt_and_ {a b : Ex} {y z : Expr} {rest : List Expr} {p : Pos} (ha : PT X y (tT X.K (sem C a).t)) (hb : PW X (.BoolOp .And (z :: rest) p) (tT X.K (sem C b).t)) : PT X (.BoolOp .And (y :: z :: rest) p) (tT X.K (sem C (.and a b)).t) := by
  refine PT.imp (pw_and ha hb).pt fun σ H Q hq => ?_
  obtain ⟨s, F, d, s', r, e, k⟩ := hq
  have e : bnd (sem C a).t (fun k => if k then (sem C b).t else gives false) s = some (d, s') := e
  obtain ⟨kk, s1, e1, e⟩ := bnd_some e
  refine ⟨s, F, kk, _, r, e1, fun F' H' r' x' sub => ?_⟩
  cases kk with
  | true => exact tT_then r' x' sub e k
  | false =>
    cases e
    exact k F' H' r' x' sub
theorem pt_or_ {a b : Ex} {y z : Expr} {rest : List Expr} {p : Pos} (ha : PT X y (tT X.K (sem C a).t)) (hb : PW X (.BoolOp .Or (z :: rest) p) (tT X.K (sem C b).t)) : PT X (.BoolOp .Or (y :: z :: rest) p) (tT X.K (sem C (.or a b)).t) := by
  refine PT.imp (pw_or ha hb).pt fun σ H Q hq => ?_
  obtain ⟨s, F, d, s', r, e, k⟩ := hq
  have e : bnd (sem C a).t (fun k => if k then gives true else (sem C b).t) s = some (d, s') := e
  obtain ⟨kk, s1, e1, e⟩ := bnd_some e
  refine ⟨s, F, kk, _, r, e1, fun F' H' r' x' sub => ?_⟩
  cases kk with
  | false => exact tT_then r' x' sub e k
  | true =>
    cases e
    exact k F' H' r' x' sub
theorem pe_ife_ {c a b : Ex} {t y z : Expr} {p : Pos} (hc : PT X t (tT X.K (sem C c).t)) (ha : PE X y (tV X.K C a)) (hb : PE X z (tV X.K C b)) : PE X (.IfExp t y z p) (tV X.K C (.ife c a b)) := by
  refine PE.imp (pe_ifExp hc ha hb) fun σ H Q hq => ?_
  obtain ⟨s, F, d, s', r, e, k⟩ := hq
  have e : bnd (sem C c).t (fun k => if k then (sem C a).v else (sem C b).v) s = some (d, s') := e
  obtain ⟨kk, s1, e1, f2⟩ := bnd_some e
  refine ⟨s, F, kk, _, r, e1, fun F' H' r' x' sub => ?_⟩
  cases kk with
  | true => exact tV_then r' x' sub f2 k
  | false => exact tV_then r' x' sub f2 k

/-! ### chains -/
theorem copOf_op {o : Op} {c : CmpOp} (h : copOf o = some c) : OpR X (compareOp c) (fun x y H Q => OpRd X.K o [x, y] H Q) ∧ c ≠ .In ∧ c ≠ .NotIn ∧ cmpOp o = true := by
  cases o <;> simp only [copOf] at h <;> cases h
  · exact ⟨ro_lt, by decide, by decide, rfl⟩
  · exact ⟨ro_le, by decide, by decide, rfl⟩
  · exact ⟨ro_gt, by decide, by decide, rfl⟩
  · exact ⟨ro_ge, by decide, by decide, rfl⟩
theorem chain_read {o o' : Op} {a b c : Ex} {σ : L2.St} {H : Hp} {Q : VK} (hc : cmpOp o = true) (hc' : cmpOp o' = true) (h : tV X.K C (.chain o o' a b c) σ H Q) :
    tChain (fun x y H Q => OpRd X.K o [x, y] H Q) (fun x y H Q => OpRd X.K o' [x, y] H Q) (tV X.K C a) (tV X.K C b) (tV X.K C c) σ H Q := by
  obtain ⟨s, F, d, s', r, e, k⟩ := h
  have e : bnd (sem C a).v (fun x => bnd (sem C b).v fun y => bnd (lift (opD o [x, y])) fun r => match r with
      | .bool true => bnd (sem C c).v fun z => lift (opD o' [y, z])
      | .bool false => gives (.bool false)
      | _ => fails) s = some (d, s') := e
  obtain ⟨x, s1, e1, f1⟩ := bnd_some e
  obtain ⟨y, s2, e2, f2⟩ := bnd_some f1
  obtain ⟨w, s3, e3, f3⟩ := bnd_some f2
  clear e f1 f2
  obtain ⟨e4, e5⟩ := lift_some e3
  change s3 = s2 at e5
  subst e5
  obtain ⟨kk, rfl⟩ := cmp_bool hc e4
  refine ⟨s, F, x, s1, r, e1, fun v F1 H1 r1 x1 sub1 w1 => ⟨s1, F1, y, _, r1, e2, fun u F2 H2 r2 x2 sub2 w2 => ?_⟩⟩
  have w1' : Rp X.K F2 v x := Rp.same x2.f w1
  refine ⟨F2, [x, y], _, r2.sub, .cons (.inl w1') (.cons (.inl w2) .nil), e4, fun z F3 H3 x3 sm w3 => ?_⟩
  rw [show newObj (.bool kk) = false from rfl, Bool.and_false, if_neg Bool.false_ne_true] at w3
  cases w3
  have r3 := r2.ext x3 sm
  have x13 : Ext (Ad σ s) F H F3 H3 := (x1.trans x2 fun b z => .inl (sub1 b z)).trans x3.none_ fun b z => .inl (sub1 b (sub2 b z))
  refine ⟨kk, rfl, ?_⟩
  cases kk with
  | false =>
    cases f3
    exact k (.bl false) F3 H3 r3 x13 (fun b z => sub1 b (sub2 b z)) (.bl _)
  | true =>
    have f4 : bnd (sem C c).v (fun z => lift (opD o' [y, z])) _ = some (d, s') := f3
    obtain ⟨z, s4, g1, g2⟩ := bnd_some f4
    obtain ⟨g3, g4⟩ := lift_some g2
    change s' = s4 at g4
    subst g4
    refine ⟨_, F3, z, _, r3, g1, fun vz F4 H4 r4 x4 sub4 w4 => ?_⟩
    refine ⟨F4, [y, z], d, r4.sub, .cons (.inl (Rp.same x4.f (Rp.same x3.f w2))) (.cons (.inl w4) .nil), g3, fun z2 F5 H5 x5 sm5 w5 => ?_⟩
    have x15 : Ext (Ad σ s) F H F5 H5 := (x13.trans x4 fun b z => .inl (sub1 b (sub2 b z))).trans x5.none_ fun b z => .inl (sub1 b (sub2 b (sub4 b z)))
    refine k z2 F5 H5 (r4.ext x5 sm5) x15 (fun b z => sub1 b (sub2 b (sub4 b z))) ?_
    obtain ⟨bb, rfl⟩ := cmp_bool hc' g3
    rw [show newObj (.bool bb) = false from rfl, Bool.and_false, if_neg Bool.false_ne_true] at w5
    exact w5
theorem lastM {c1 c2 : CmpOp} {b c : Expr} (h1 : c2 ≠ .In) (h2 : c2 ≠ .NotIn) : lastMarks [c1, c2] [b, c] = false := nomark c h1 h2
theorem pe_chain_ {o o' : Op} {c1 c2 : CmpOp} {a b c : Ex} {y z w : Expr} {p : Pos} (h1 : copOf o = some c1) (h2 : copOf o' = some c2) (ha : PE X y (tV X.K C a)) (hb : PE X z (tV X.K C b)) (hc : PE X w (tV X.K C c)) : PE X (.Compare y [c1, c2] [z, w] p) (tV X.K C (.chain o o' a b c)) := by
  obtain ⟨p1, _, _, q1⟩ := copOf_op (X := X) h1
  obtain ⟨p2, n1, n2, q2⟩ := copOf_op (X := X) h2
  exact PE.imp (pe_chain p1 p2 ha hb hc (lastM n1 n2)) fun σ H Q hq => chain_read q1 q2 hq
theorem pt_chain_ {o o' : Op} {c1 c2 : CmpOp} {a b c : Ex} {y z w : Expr} {p : Pos} (h1 : copOf o = some c1) (h2 : copOf o' = some c2) (ha : PE X y (tV X.K C a)) (hb : PE X z (tV X.K C b)) (hc : PE X w (tV X.K C c)) : PT X (.Compare y [c1, c2] [z, w] p) (tT X.K (sem C (.chain o o' a b c)).t) := by
  obtain ⟨p1, _, _, q1⟩ := copOf_op (X := X) h1
  obtain ⟨p2, n1, n2, q2⟩ := copOf_op (X := X) h2
  refine PT.imp (pt_chain p1 p2 ha hb hc (lastM n1 n2)) fun σ H Q hq => ?_
  obtain ⟨s, F, kk, s', r, e, k⟩ := hq
  have e : bnd (sem C (.chain o o' a b c)).v (fun d => lift (truD d)) s = some (kk, s') := e
  obtain ⟨d, s1, e1, f1⟩ := bnd_some e
  obtain ⟨e3, e4⟩ := lift_some f1
  change s' = s1 at e4
  subst e4
  refine chain_read q1 q2 ⟨s, F, d, _, r, e1, fun v F' H' r' x' sub w => ?_⟩
  obtain ⟨bb, rfl⟩ : ∃ bb, d = .bool bb := by
    have g : bnd (sem C a).v (fun x => bnd (sem C b).v fun y => bnd (lift (opD o [x, y])) fun r => match r with
      | .bool true => bnd (sem C c).v fun z => lift (opD o' [y, z])
      | .bool false => gives (.bool false)
      | _ => fails) s = some (d, s') := e1
    obtain ⟨x, t1, _, g⟩ := bnd_some g
    obtain ⟨y, t2, _, g⟩ := bnd_some g
    obtain ⟨w, t3, g3, g⟩ := bnd_some g
    obtain ⟨g4, _⟩ := lift_some g3
    obtain ⟨k2, e5⟩ := cmp_bool q1 g4
    change w = .bool k2 at e5
    subst e5
    cases k2 with
    | false => cases g; exact ⟨_, rfl⟩
    | true =>
      obtain ⟨z, t4, _, g⟩ := bnd_some g
      obtain ⟨g6, _⟩ := lift_some g
      exact cmp_bool q2 g6
  cases e3
  cases w
  exact ⟨_, rfl, k F' H' r' x' sub⟩
end
end FC

/-! Part 9: displays, methods, what is walked. -/
namespace FC
open PySem PySem.Spec PyProof.Rows L2
section
variable {X : Cx} {Γ : Gam} {q : Scp} {C : Calls} {x : Expr}
theorem vals_rps {K : PySem.W.Frag} {F H H0 : Hp} {σ : L2.St} : ∀ {vs : List V} {l : List Ar} {ds : List D}, ArRs K F H σ H0 vs l → valsA l = some ds → Rps K F vs ds
  | [], [], ds, _, e => by cases e; exact .nil
  | [], _ :: _, _, h, _ => absurd h.len (by simp)
  | _ :: _, [], _, h, _ => absurd h.len (by simp)
  | v :: vs, a :: l, ds, h, e => by
    unfold valsA at e
    split at e
    · rename_i heq
      cases heq
    · rename_i d l' heq
      cases heq
      split at e
      · rename_i ds' e2
        cases e
        refine .cons (h.at_ 0 v _ rfl rfl) (vals_rps ⟨by simpa using h.len, fun i w x k1 k2 => h.at_ (i + 1) w x (by simpa using k1) (by simpa using k2), fun i j b d e k1 k2 k3 k4 => ?_⟩ e2)
        have := h.dis (i + 1) (j + 1) b d e (by simpa using k1) (by simpa using k2) (by simpa using k3) (by simpa using k4)
        omega
      · cases e
    · cases e
theorem pe_tup_ {xs : List Expr} {k : Nat} {p : Pos} {es : Ex} (hp : PAx X C xs es) : PE X (.Tuple xs k p) (tV X.K C (.tup es)) := by
  refine PE.imp (pe_tup hp.pa) fun σ H Q hq => ?_
  obtain ⟨s, F, d, s', r, e, kk⟩ := hq
  have e : bnd (sem C es).as (fun l => bnd (lift (valsA l)) fun ds => if ds.length ≤ sizeLine then gives (.tuple ds) else fails) s = some (d, s') := e
  obtain ⟨l, s1, e1, f1⟩ := bnd_some e
  obtain ⟨ds, s2, e2, f2⟩ := bnd_some f1
  obtain ⟨e3, e4⟩ := lift_some e2
  change s2 = s1 at e4
  subst e4
  split at f2
  · rename_i hz
    cases f2
    refine as_read es r e1 fun vs F' H' r' x' sub arrs => ?_
    have rp := vals_rps arrs e3
    refine ⟨by rw [rp.length]; exact hz, fun a ha => ?_⟩
    have xf := ext_newF (o := .tup vs) r'.sub ha
    exact kk _ (upd F' a (.tup vs)) _ (r'.ext xf (same_newF r'.sub)) (x'.trans xf.none_ fun b z => .inl (sub b z)) sub (.tup (.inl (.inl upd_same)) (Rps.same xf.f rp))
  · cases f2
theorem pe_lstO {xs : List Expr} {p : Pos} {es : Ex} (hp : PAx X C xs es) : PE X (.List xs p) (tO X.K C (.lst es)) := by
  refine PE.imp (pe_lst hp.pa) fun σ H Q hq => ?_
  obtain ⟨s, F, d, s', r, e, kk⟩ := hq
  have e : bnd (sem C es).as (fun l => bnd (lift (valsA l)) fun ds => if ds.length ≤ sizeLine then gives (.list ds) else fails) s = some (d, s') := e
  obtain ⟨l, s1, e1, f1⟩ := bnd_some e
  obtain ⟨ds, s2, e2, f2⟩ := bnd_some f1
  obtain ⟨e3, e4⟩ := lift_some e2
  change s2 = s1 at e4
  subst e4
  split at f2
  · rename_i hz
    cases f2
    refine as_read es r e1 fun vs F' H' r' x' sub arrs => ?_
    have rp := vals_rps arrs e3
    refine ⟨by rw [rp.length]; exact hz, fun a ha => ?_⟩
    have xf : Ext (fun _ => False) F' H' F' (upd H' a (.lst vs)) := ext_new ha
    have h0 : H a = none := by
      cases q : H a with
      | none => rfl
      | some o => exact absurd ha (x'.t a (by rw [q]; intro z; cases z))
    refine kk _ F' _ (r'.ext xf (same_new r'.sub ha)) (x'.trans xf.none_ fun b z => .inl (sub b z)) sub ?_
    show Raw X.K F' _ H (.ref a) (.list ds)
    exact ⟨a, rfl, h0, none_sub r'.sub ha, vs, upd_same, rp⟩
  · cases f2
theorem fresh_back {A : Addr → Prop} {F H F' H' : Hp} {a : Addr} (x : Ext A F H F' H') (h : H' a = none) : H a = none := by
  cases q : H a with
  | none => rfl
  | some o => exact absurd h (x.t a (by rw [q]; intro z; cases z))
theorem pe_sl2O {a lo hi : Ex} {y l u : Expr} {p2 p : Pos} (ha : PE X y (tA X.K C a)) (hl : PE X l (tV X.K C lo)) (hu : PE X u (tV X.K C hi)) : PE X (.Subscript y (.Slice (some l) (some u) none p2) p) (tO X.K C (.sl2 a lo hi)) := by
  refine PE.imp (pe_slice sl_both ha (po_some hl) (po_some hu)) fun σ H Q hq => ?_
  obtain ⟨s, F, d, s', r, e, kk⟩ := hq
  have e : bnd (sem C a).a (fun x => bnd (sem C lo).v fun l => bnd (lift (intD l)) fun i => bnd (sem C hi).v fun h => bnd (lift (intD h)) fun j s => match resA s x with
      | none => none
      | some d => match opSl (some i) (some j) d with
        | none => none
        | some r => some (r, s)) s = some (d, s') := e
  obtain ⟨ar, s1, e1, f1⟩ := bnd_some e
  obtain ⟨dl, s2, e2, f2⟩ := bnd_some f1
  obtain ⟨i, s3, e3, f3⟩ := bnd_some f2
  obtain ⟨e4, e5⟩ := lift_some e3
  change s3 = s2 at e5
  subst e5
  obtain ⟨du, s4, e6, f4⟩ := bnd_some f3
  obtain ⟨j, s5, e7, f5⟩ := bnd_some f4
  obtain ⟨e8, e9⟩ := lift_some e7
  change s5 = s4 at e9
  subst e9
  clear e f1 f2 f3 f4
  split at f5
  · cases f5
  · rename_i dd er
    split at f5
    · cases f5
    · rename_i rr es
      cases f5
      have hi_ : dl = .int i := by cases dl <;> simp only [intD] at e4 <;> cases e4; rfl
      have hj_ : du = .int j := by cases du <;> simp only [intD] at e8 <;> cases e8; rfl
      subst hi_ hj_
      refine ⟨s, F, ar, s1, r, e1, fun v F1 H1 r1 x1 sub1 w1 => ⟨s1, F1, .int i, _, r1, e2, fun vl F2 H2 r2 x2 sub2 w2 => ?_⟩⟩
      cases w2
      refine ⟨i, rfl, _, F2, .int j, _, r2, e6, fun vu F3 H3 r3 x3 sub3 w3 => ?_⟩
      cases w3
      refine ⟨j, rfl, ?_⟩
      have hA1 : ∀ b, Ad σ s1 b → H b ≠ none := fun b z => (Ad.tracked r (sub1 b z)).1
      have w1' := (w1.keep (H1 := H1) x2 hA1).keep (H1 := H1) x3 fun b z => hA1 b (sub2 b z)
      have x13 := (x1.trans x2 fun b z => .inl (sub1 b z)).trans x3 fun b z => .inl (sub1 b (sub2 b z))
      refine sl_out r3.sub (w1'.tr r3 er) es fun z F4 H4 x4 sm w4 => ?_
      refine kk z F4 H4 (r3.ext x4 sm) (x13.trans x4.none_ fun b z => .inl (sub1 b (sub2 b (sub3 b z)))) (fun b z => sub1 b (sub2 b (sub3 b z))) ?_
      show Raw X.K F4 H4 H z d
      unfold Raw
      rw [Bool.true_and] at w4
      split at w4
      · rename_i hn
        rw [if_pos hn]
        obtain ⟨a, e, h1, r⟩ := w4
        exact ⟨a, e, fresh_back x13 h1, r⟩
      · rename_i hn
        rw [if_neg hn]
        exact w4

/-! ### methods -/
theorem base_plain {o : Expr} {n : Str} {env : Env} (h : notCall0 o = true) : attributeBase o n env (eval o env) = eval o env := by
  unfold attributeBase
  split
  · cases h
  · rfl
theorem few1 {env : Env} {e : Expr} {cpos : Pos} (h : ns e = true) : ((backTo cpos (starEach [e] env)).all (fun x => !x.1) && (backToKw cpos (keywordEach [] env)).all (fun x => x.1.isSome)
      && decide ([e].length + ([] : List Keyword).length + (if ([] : List Keyword).isEmpty then 0 else 1) < 30)) = true := by
  rw [star_ns h]
  rfl
theorem isList_ty {K : PySem.W.Frag} {F H : Hp} {v : V} {d : D} (sub : Same F H) (t : TR K F H v d) (h : isTy .list d = true) : tyV K "list" v H := by
  cases d <;> first | (cases h; done) | skip
  obtain ⟨a, vs, rfl, h1, _⟩ := t.list sub
  exact .inl ⟨rfl, vs, .inl h1⟩
theorem isStr_ty {K : PySem.W.Frag} {F H : Hp} {v : V} {d : D} (t : TR K F H v d) (h : isTy .str d = true) : tyV K "str" v H := by
  cases d <;> first | (cases h; done) | skip
  rw [t.str]
  exact rfl
theorem mtM_some {m : Mt} {o : M Ar} {as : M (List Ar)} {s s' : S} {r : D} (h : mtM m o as s = some (r, s')) : ∃ a s0 l x ds d0, o s = some (a, s0) ∧ resA s0 a = some d0 ∧ isTy m.ty d0 = true ∧ as s0 = some (l, s') ∧ resA s' a = some x ∧ resAs s' l = some ds ∧ mtD m x ds = some r := by
  unfold mtM at h
  obtain ⟨a, s0, e1, f1⟩ := bnd_some h
  split at f1
  · rename_i ht
    unfold isListA at ht
    split at ht
    · rename_i d0 e0
      split at f1
      · cases f1
      · rename_i l s1 e2
        split at f1
        · rename_i x ds e3 e4
          split at f1
          · cases f1
          · rename_i rr e5
            cases f1
            exact ⟨a, s0, l, x, ds, d0, e1, e0, ht, e2, e3, e4, e5⟩
        · cases f1
    · cases ht
  · cases f1
theorem mtD1 {m : Mt} (hm : m = .endswith ∨ m = .index) {x r : D} {ds : List D} (h : mtD m x ds = some r) : ∃ y, ds = [y] := by
  rcases hm with rfl | rfl
  · match ds, h with
    | [y], _ => exact ⟨y, rfl⟩
  · match ds, h with
    | [y], _ => exact ⟨y, rfl⟩
theorem findD_spec {d : D} : ∀ {ds : List D} {j : Nat}, findD d ds = some j → ∃ z, ds[j]? = some z ∧ PyData.eqv z d = true ∧ ∀ (m : Nat) (z' : D), m < j → ds[m]? = some z' → PyData.eqv z' d = false
  | [], _, h => by cases h
  | z :: r, j, h => by
    unfold findD at h
    split at h
    · rename_i hz
      cases h
      exact ⟨z, rfl, hz, fun m _ hm => absurd hm (by omega)⟩
    · rename_i hz
      simp only [Option.map_eq_some_iff] at h
      obtain ⟨k, hk, rfl⟩ := h
      obtain ⟨z2, h1, h2, h3⟩ := findD_spec hk
      refine ⟨z2, by simpa using h1, h2, fun m z' hm hz' => ?_⟩
      cases m with
      | zero => cases hz'; simpa using hz
      | succ m => exact h3 m z' (by omega) (by simpa using hz')
theorem pe_mt_ (g : Gd X Γ q) {m : Mt} {o es : Ex} {y : Expr} {n : Str} {ap cp : Pos} {xs : List Expr} (hn : n = mtName m) (hm : m = .endswith ∨ m = .index) (ho : PE X y (tA X.K C o)) (hy : notCall0 y = true) (hl : (ap.endLine == cp.line) = true) (hp : PAx X C xs es) (hx : xs.length = mtN m) :
    PE X (.Call (.Attribute y n ap) xs [] cp) (tV X.K C (.mt m o es)) := by
  subst hn
  have hu := g.un
  have hx1 : ∃ z, xs = [z] := by
    rcases hm with rfl | rfl
    · exact List.length_eq_one_iff.mp hx
    · exact List.length_eq_one_iff.mp hx
  obtain ⟨z, rfl⟩ := hx1
  obtain ⟨ez, rfl, nz, pz⟩ := pax1 hp
  have read : ∀ (T : String) (r : V → List V → Hp → VK → Prop), (∀ (F H : Hp) (v : V) (d : D), Same F H → TR X.K F H v d → isTy m.ty d = true → tyV X.K T v H) →
      (∀ (F H : Hp) (v w : V) (dx dy rr : D) (Q : VK), Same F H → TR X.K F H v dx → TR X.K F H w dy → mtD m dx [dy] = some rr → (∀ u, Rp X.K F u rr → Q u H) → r v [w] H Q) →
      ∀ σ H Q, tV X.K C (.mt m o (.cons ez .nil)) σ H Q → tBM X.K T r (tA X.K C o) (tAs X.K C (.cons ez .nil)) σ H Q := by
    intro T r hT hr σ H Q hq
    obtain ⟨s, F, d, s', rr, e, kk⟩ := hq
    obtain ⟨a, s0, l, dx, ds, d0, e1, e0, ht, e2, e3, e4, e5⟩ := mtM_some e
    refine ⟨s, F, a, s0, rr, e1, fun v F1 H1 r1 x1 sub1 w1 => ⟨hT F1 H1 v d0 r1.sub (w1.tr r1 e0) ht, ?_⟩⟩
    refine as_read _ r1 e2 fun vs F2 H2 r2 x2 sub2 arrs => ?_
    have hA1 : ∀ b, Ad σ s0 b → H b ≠ none := fun b z => (Ad.tracked rr (sub1 b z)).1
    have w1' := w1.keep (H1 := H1) x2 hA1
    have tr2 := arrs.trs r2 e4
    obtain ⟨dy, rfl⟩ := mtD1 hm e5
    obtain ⟨w, rfl, tw⟩ := one_of tr2
    refine hr F2 H2 v w dx dy d Q r2.sub (w1'.tr r2 e3) tw e5 fun u ru => ?_
    exact kk u F2 H2 r2 (x1.trans x2 fun b z => .inl (sub1 b z)) (fun b z => sub1 b (sub2 b z)) ru
  have ok : ∀ (T : String) (id : String) (r : V → List V → Hp → VK → Prop), PlainAttrs T → Slot T (mtName m) id → typeOf (.builtin id) = pure (.type "method_descriptor") → MtR X id r →
      PE X (.Call (.Attribute y (mtName m) ap) [z] [] cp) (tBM X.K T r (tA X.K C o) (tAs X.K C (.cons ez .nil))) := fun T id r pa sl ty mr =>
    pe_bm pa sl ty mr ho (PAx.cons nz pz .nil).pa (base_plain hy) (few1 nz) hl (star_ns nz) rfl
  rcases hm with rfl | rfl
  · refine PE.imp (ok "str" _ _ PySem.F.plainAttrs_str PySem.F.slot_str_endswith PySem.F.type_str_endswith mt_endswith) (read "str" _ (fun F H v d sub t h => isStr_ty t h) fun F H v w dx dy rr Q sub t1 t2 hd k => ?_)
    change opEndswith dx dy = some rr at hd
    cases dx <;> cases dy <;> simp only [opEndswith] at hd <;> cases hd
    exact ⟨_, _, t1.str, by rw [t2.str], k _ (.bl _)⟩
  · refine PE.imp (ok "list" _ _ PySem.F.plainAttrs_list PySem.F.slot_list_index PySem.F.type_list_index (mt_indexD hu)) (read "list" _ (fun F H v d sub t h => isList_ty sub t h) fun F H v w dx dy rr Q sub t1 t2 hd k => ?_)
    change opIndex dx dy = some rr at hd
    cases dx <;> simp only [opIndex] at hd <;> first | (cases hd; done) | skip
    rename_i ds
    split at hd
    · rename_i hs
      simp only [sh, Bool.and_eq_true] at hs
      simp only [Option.map_eq_some_iff] at hd
      obtain ⟨j, hj, rfl⟩ := hd
      obtain ⟨zz, h1, h2, h3⟩ := findD_spec hj
      obtain ⟨a, vs, rfl, _, _⟩ := t1.list sub
      exact ⟨a, w, dy, ds, j, zz, rfl, rfl, t1.dp sub (SeqAt.canLay_of_shaped hs.1), t2.dp sub (SeqAt.canLay_of_shaped hs.2), hs.1, hs.2, h1, h2, h3, k _ (.int _)⟩
    · cases hd
end
end FC

/-! Part 10: lists changed in place. -/
namespace FC
open PySem PySem.Spec PyProof.Rows L2
section
variable {K : PySem.W.Frag} {F H : Hp} {σ : L2.St} {s s' : S}
theorem B.put_mine {b : B} {d : D} : (b.put d).mine = b.mine := by cases b <;> rfl
theorem B.put_d {b : B} {d : D} : (b.put d).d = d := by cases b <;> rfl
theorem mutS_some {i : Nat} {d : D} (h : mutS i d s = some s') : ∃ b, s[i]? = some (some b) ∧ b.mine = true ∧ s' = s.set i (some (b.put d)) := by
  unfold mutS at h
  split at h
  · rename_i e; cases h; exact ⟨_, e, rfl, rfl⟩
  · rename_i e; cases h; exact ⟨_, e, rfl, rfl⟩
  · cases h
theorem ln_some {i : Nat} {d : D} (h : resA s (.ln i) = some d) : ∃ b, s[i]? = some (some b) ∧ b.mine = true ∧ b.d = d := by
  simp only [resA] at h
  split at h
  · rename_i e; cases h; exact ⟨_, e, rfl, rfl⟩
  · rename_i e; cases h; exact ⟨_, e, rfl, rfl⟩
  · cases h
/-- the content of an open slot is another one -/
theorem Rs.mutate {i : Nat} {b : B} {a : Addr} {o' : HO} {x' : D} (r : Rs K F H σ s) (eb : s[i]? = some (some b)) (m : b.mine = true) (ev : σ[i]? = some (some (.ref a))) (ob : Ob K F (upd H a o') a x') :
    Rs K F (upd H a o') σ (s.set i (some (b.put x'))) ∧ Ext (Ad σ s) F H F (upd H a o') ∧ ∀ c, Ad σ (s.set i (some (b.put x'))) c → Ad σ s c := by
  have hi : i < s.length := (List.getElem?_eq_some_iff.mp eb).1
  have hA : Ad σ s a := ⟨i, b, eb, m, ev⟩
  obtain ⟨h1, hf⟩ := Ad.tracked r hA
  have back : ∀ {j : Nat} {c : B}, (s.set i (some (b.put x')))[j]? = some (some c) → c.mine = true → ∃ c', s[j]? = some (some c') ∧ c'.mine = true := fun {j c} ej mj => by
    by_cases hj : j = i
    · subst hj; exact ⟨b, eb, m⟩
    · rw [List.getElem?_set_ne (Ne.symm hj)] at ej
      exact ⟨c, ej, mj⟩
  refine ⟨⟨fun c u e => ?_, by rw [List.length_set]; exact r.len, fun j c ej => ?_, fun j k c d a' e1 e2 m1 m2 e3 e4 => ?_⟩, ⟨Same.refl, fun c u n e => ?_, fun _ _ e _ => e, fun c e => upd_some e⟩, fun c ⟨j, d, ej, mj, evj⟩ => ?_⟩
  · rw [upd_ne (ne_of_none e hf)]
    exact r.sub c u e
  · by_cases hj : j = i
    · subst hj
      rw [List.getElem?_set_self hi] at ej
      cases ej
      refine ⟨.ref a, ev, ?_⟩
      cases b with
      | val d => cases m
      | own d => exact ⟨a, rfl, hf, ob⟩
      | lent d => exact ⟨a, rfl, hf, ob⟩
    · rw [List.getElem?_set_ne (Ne.symm hj)] at ej
      obtain ⟨w, ew, h2⟩ := r.at_ j c ej
      refine ⟨w, ew, ?_⟩
      have nea : ∀ c', w = .ref c' → c.mine = true → c' ≠ a := fun c' ec mc z => hj (r.dis j i c b a ej eb mc m (by rw [ew, ec, z]) ev)
      cases c with
      | val d => exact h2
      | own d =>
        obtain ⟨c', rfl, hn, ob2⟩ := h2
        exact ⟨c', rfl, hn, ob2.mono Same.refl (upd_ne (nea c' rfl rfl))⟩
      | lent d =>
        obtain ⟨c', rfl, hn, ob2⟩ := h2
        exact ⟨c', rfl, hn, ob2.mono Same.refl (upd_ne (nea c' rfl rfl))⟩
  · obtain ⟨c', f1, n1⟩ := back e1 m1
    obtain ⟨d', f2, n2⟩ := back e2 m2
    exact r.dis j k c' d' a' f1 f2 n1 n2 e3 e4
  · rw [upd_ne (fun z => n (by rw [z]; exact hA))]
    exact e
  · obtain ⟨d', f, n⟩ := back ej mj
    exact ⟨j, d', f, n, evj⟩
end
section
variable {X : Cx} {Γ : Gam} {q : Scp} {C : Calls}
def rExtendR : V → List V → Hp → VK → Prop := fun x vs H Q => ∃ l b xs zs, x = .ref l ∧ vs = [.ref b] ∧ H l = some (.lst xs) ∧ Rd H b (.lst zs) ∧ xs.length + zs.length ≤ sizeLine ∧ Q .non (upd H l (.lst (xs ++ zs)))
theorem mt_extendR : MtM X "list.extend" rExtendR := by
  intro pins s σ H x vs v us Q I rx rv h
  obtain ⟨l, b, xs, zs, rfl, rfl, hH, hB, hz, q⟩ := h
  cases rx
  obtain ⟨u, rfl, ru⟩ := rv.one
  cases ru
  obtain ⟨z, its, n, r, hl, e⟩ := I.lstM hH
  obtain ⟨z2, its2, n2, r2, hl2, e2⟩ := Inv.lstR I hB
  have hsz : its.toArray.size + its2.toArray.size ≤ sizeLine := by rw [List.size_toArray, List.size_toArray]; omega
  have hlong : ¬ (!its.toArray.isEmpty && Builtin.List.listTooLong (its.toArray.size + its2.toArray.size)) = true := by
    rw [notLongL hsz, Bool.and_false]
    exact Bool.false_ne_true
  refine call_meets F.slot_list_extend ⟨_, e, rfl⟩ F.entry_list_extend (F.args_list_extend_2 _ _)
    (AutoSeq1.list_extend_list_list_0 l its.toArray n b its2.toArray n2 hlong (by rw [List.size_toArray]; omega) (by omega)) ⟨e, e2, ?_⟩
  refine ⟨.non, _, I.lset (its' := its ++ its2) hH e (by simp) (r.append r2) ?_, rfl, q⟩
  rw [List.length_append]
  omega
theorem muM_some {m : Mu} {i : Nat} {as : M (List Ar)} {s s' : S} {r : D} (h : muM m i as s = some (r, s')) : ∃ d0 l s1 ds x x', resA s (.ln i) = some d0 ∧ isTy .list d0 = true ∧ as s = some (l, s1) ∧ valsA l = some ds ∧ resA s1 (.ln i) = some x ∧ muD m x ds = some (r, x') ∧ mutS i x' s1 = some s' := by
  unfold muM at h
  split at h
  · rename_i ht
    unfold isListA at ht
    split at ht
    · rename_i d0 e0
      split at h
      · cases h
      · rename_i l s1 e2
        split at h
        · rename_i ds x e3 e4
          split at h
          · cases h
          · rename_i rr x' e5
            split at h
            · cases h
            · rename_i s2 e6
              cases h
              exact ⟨d0, l, s1, ds, x, x', e0, ht, e2, e3, e4, e5, e6⟩
        · cases h
    · cases ht
  · cases h
theorem muD_list {m : Mu} {x r x' : D} {ds : List D} (h : muD m x ds = some (r, x')) : ∃ xs xs', x = .list xs ∧ x' = .list xs' := by
  unfold muD at h
  split at h
  · split at h <;> cases h; exact ⟨_, _, rfl, rfl⟩
  · split at h <;> cases h; exact ⟨_, _, rfl, rfl⟩
  · split at h <;> cases h; exact ⟨_, _, rfl, rfl⟩
  · split at h
    · split at h
      · split at h <;> cases h; exact ⟨_, _, rfl, rfl⟩
      · cases h
    · cases h
  · cases h
theorem slot_read {K : PySem.W.Frag} {F H : Hp} {σ : L2.St} {s : S} {i : Nat} {xs : List D} (r : Rs K F H σ s) (e : resA s (.ln i) = some (.list xs)) : ∃ b a vs, s[i]? = some (some b) ∧ b.mine = true ∧ σ[i]? = some (some (.ref a)) ∧ F a = none ∧ H a = some (.lst vs) ∧ Rps K F vs xs := by
  obtain ⟨b, eb, m, ed⟩ := ln_some e
  obtain ⟨v, ev, rb⟩ := r.at_ i b eb
  obtain ⟨a, rfl, hf, ob⟩ := rb.mineAt m
  rw [ed] at ob
  obtain ⟨vs, e1, r1⟩ := ob
  exact ⟨b, a, vs, eb, m, ev, hf, e1, r1⟩
theorem pe_mu_ (g : Gd X Γ q) {m : Mu} {i : Nat} {es : Ex} {y : Expr} {n : Str} {ap cp : Pos} {xs : List Expr} (hn : n = muName m) (hy : vis Γ q i y = true) (hl : (ap.endLine == cp.line) = true) (hp : PAx X C xs es) (hx : xs.length = muN m) :
    PE X (.Call (.Attribute y n ap) xs [] cp) (tV X.K C (.mu m i es)) := by
  subst hn
  obtain ⟨⟨yn, yp, rfl⟩, hv⟩ := vis_of g hy
  -- the receiver, the arguments, then the change
  have read : ∀ (r : V → List V → Hp → VK → Prop),
      (∀ (F H : Hp) (a : Addr) (vs ws : List V) (ds xs xs' : List D) (rr : D) (Q : VK), Same F H → F a = none → H a = some (.lst vs) → Rps X.K F vs xs → Rps X.K F ws ds → muD m (.list xs) ds = some (rr, .list xs') →
        (∀ (u : V) (vs' : List V), Rp X.K F u rr → Rps X.K F vs' xs' → Q u (upd H a (.lst vs'))) → r (.ref a) ws H Q) →
      ∀ σ H Q, tV X.K C (.mu m i es) σ H Q → ∃ v, σ[i]? = some (some v) ∧ (tyV X.K "list" v H ∧ tAs X.K C es σ H fun vs H2 => r v vs H2 Q) := by
    intro r hr σ H Q hq
    obtain ⟨s, F, d, s', rs, e, kk⟩ := hq
    obtain ⟨d0, l, s1, ds, x, x', e0, ht, e2, e3, e4, e5, e6⟩ := muM_some e
    obtain ⟨b0, eb0, m0, ed0⟩ := ln_some e0
    obtain ⟨v, ev, rb0⟩ := rs.at_ i b0 eb0
    refine ⟨v, ev, isList_ty rs.sub (by rw [← ed0]; exact rb0.tr) ht, as_read es rs e2 fun ws F2 H2 r2 x2 sub2 arrs => ?_⟩
    obtain ⟨zs, zs', rfl, rfl⟩ := muD_list e5
    obtain ⟨b, a, vs, eb, mb, ev2, hf, ha, rp⟩ := slot_read r2 e4
    rw [ev] at ev2
    cases ev2
    obtain ⟨b', eb', mb', rfl⟩ := mutS_some e6
    rw [eb] at eb'
    cases eb'
    refine hr F2 H2 a vs ws ds zs zs' d Q r2.sub hf ha rp (vals_rps arrs e3) e5 fun u vs' ru rv => ?_
    obtain ⟨rs', xt, subA⟩ := r2.mutate eb mb ev (o' := .lst vs') (x' := .list zs') ⟨vs', upd_same, rv⟩
    exact kk u F2 _ rs' (x2.trans xt fun b z => .inl (sub2 b z)) (fun c z => sub2 c (subA c z)) ru
  have one : ∀ {id : String} {r : V → List V → Hp → VK → Prop} (z : Expr), xs = [z] → Slot "list" (muName m) id → typeOf (.builtin id) = pure (.type "method_descriptor") → MtR X id r →
      PE X (.Call (.Attribute (.Name yn yp) (muName m) ap) xs [] cp) (tBM X.K "list" r (tVar i) (tAs X.K C es)) := fun z hz sl ty mr => by
    subst hz
    obtain ⟨ez, rfl, nz, pz⟩ := pax1 hp
    exact pe_bm PySem.F.plainAttrs_list sl ty mr hv (PAx.cons nz pz .nil).pa rfl (few1 nz) hl (star_ns nz) rfl
  cases m with
  | append =>
    obtain ⟨z, hz⟩ := List.length_eq_one_iff.mp hx
    refine PE.imp (one z hz PySem.F.slot_list_append PySem.F.type_list_append mt_append) (read _ fun F H a vs ws ds xs xs' rr Q sub hf ha rp rw' hm k => ?_)
    match ds, rw', hm with
    | [y], .cons hy .nil, hm =>
      simp only [muD] at hm
      split at hm
      · rename_i hz
        cases hm
        exact ⟨a, vs, _, rfl, rfl, ha, by rw [rp.length]; exact hz, k .non _ .non (rp.append (.cons hy .nil))⟩
      · cases hm
  | extend =>
    obtain ⟨z, hz⟩ := List.length_eq_one_iff.mp hx
    refine PE.imp (one z hz PySem.F.slot_list_extend PySem.F.type_list_extend mt_extendR) (read _ fun F H a vs ws ds xs xs' rr Q sub hf ha rp rw' hm k => ?_)
    match ds, rw', hm with
    | [.list ys], .cons hy .nil, hm =>
      simp only [muD] at hm
      split at hm
      · rename_i hz
        cases hm
        cases hy with
        | lst h1 r1 => exact ⟨a, _, vs, _, rfl, rfl, ha, Rd.same sub h1, by rw [rp.length, r1.length]; exact hz, k .non _ .non (rp.append r1)⟩
      · cases hm
  | pop0 =>
    have hx0 : xs = [] := List.length_eq_zero_iff.mp hx
    subst hx0
    cases hp
    refine PE.imp (pe_bm0 PySem.F.plainAttrs_list PySem.F.slot_list_pop PySem.F.type_list_pop mt_pop hv rfl hl) (read rPop fun F H a vs ws ds xs xs' rr Q sub hf ha rp rw' hm k => ?_)
    match ds, rw', hm with
    | [], .nil, hm =>
      simp only [muD] at hm
      split at hm
      · rename_i y hy
        cases hm
        obtain ⟨w, h1, h2⟩ := rp.get hy
        rw [← rp.length] at h1
        exact ⟨a, vs, w, rfl, rfl, ha, h1, k w _ h2 rp.dropLast⟩
      · cases hm
  | pop1 =>
    obtain ⟨z, hz⟩ := List.length_eq_one_iff.mp hx
    refine PE.imp (one z hz PySem.F.slot_list_pop PySem.F.type_list_pop mt_popAt) (read _ fun F H a vs ws ds xs xs' rr Q sub hf ha rp rw' hm k => ?_)
    match ds, rw', hm with
    | [.int j], .cons hy .nil, hm =>
      cases hy
      simp only [muD] at hm
      split at hm
      · rename_i kk hk
        split at hm
        · rename_i y hy
          split at hm
          · rename_i hsz
            cases hm
            obtain ⟨h1, h2, h3, h4⟩ := L2.ixN_seq hk
            obtain ⟨w, h5, h6⟩ := rp.get hy
            have hl2 : xs.length < 2 ^ 62 := Nat.lt_of_le_of_lt hsz (by decide)
            exact ⟨a, vs, j, kk, w, rfl, rfl, ha, by omega, by omega, by rw [rp.length]; exact h1, h5, k w _ h6 (rp.erase kk)⟩
          · cases hm
        · cases hm
      · cases hm
end
end FC

/-! Part 11: what is walked; comprehensions. -/
namespace FC
open PySem PySem.Spec PyProof.Rows L2

/-- an iterator hands out these -/
def ItOk (K : PySem.W.Frag) (F : Hp) (J : It) (ds : List D) : Prop := ∀ (F2 H2 : Hp), Same F F2 → Same F2 H2 →
  (∀ (i : Nat) (d : D), ds[i]? = some d → J.go i H2 ∧ ∀ (x : V) (H3 : Hp), J.yld i H2 x H3 → ∃ F3, Ext (fun _ => False) F2 H2 F3 H3 ∧ Same F3 H3 ∧ Rp K F3 x d) ∧ ∀ i, ds.length ≤ i → J.stop i H2
def tI (K : PySem.W.Frag) (m : M (List D)) : TI := fun σ H R =>
  ∃ (s : S) (F : Hp) (ds : List D) (s' : S), Rs K F H σ s ∧ m s = some (ds, s') ∧
    ∀ (J : It) (F' H' : Hp), Rs K F' H' σ s' → Ext (Ad σ s) F H F' H' → (∀ a, Ad σ s' a → Ad σ s a) → ItOk K F' J ds → R J H'
theorem PI.imp {X : Cx} {tg x : Expr} {t t' : TI} (h : PI X tg x t) (i : ∀ σ H R, t' σ H R → t σ H R) : PI X tg x t' := ⟨fun pins s σ H R I q => h.run pins s σ H R I (i σ H R q)⟩
section
variable {X : Cx} {Γ : Gam} {q : Scp} {C : Calls} {x tg : Expr} {K : PySem.W.Frag} {F : Hp}
theorem itl_ok {a : Addr} {vs : List V} {ds : List D} (h : Rd F a (.lst vs)) (r : Rps K F vs ds) : ItOk K F (Itl K a) ds := by
  intro F2 H2 s1 s2
  have hq : SqL K H2 a vs := .inl (Rd.same s2 (Rd.same s1 h))
  refine ⟨fun i d e => ?_, fun i e => ⟨vs, hq, by rw [r.length]; exact e⟩⟩
  obtain ⟨v, h1, h2⟩ := r.get e
  refine ⟨⟨vs, v, hq, h1⟩, fun x H3 y => ?_⟩
  obtain ⟨rfl, y⟩ := y
  have := y vs hq
  rw [h1] at this
  cases this
  exact ⟨F2, Ext.refl, s2, Rp.same s1 h2⟩
theorem itt_ok {a : Addr} {vs : List V} {ds : List D} (h : SqT K F a vs) (r : Rps K F vs ds) : ItOk K F (Itt K a) ds := by
  intro F2 H2 s1 s2
  have hq : SqT K H2 a vs := SqT.same s2 (SqT.same s1 h)
  refine ⟨fun i d e => ?_, fun i e => ⟨vs, hq, by rw [r.length]; exact e⟩⟩
  obtain ⟨v, h1, h2⟩ := r.get e
  refine ⟨⟨vs, v, hq, h1⟩, fun x H3 y => ?_⟩
  obtain ⟨rfl, y⟩ := y
  have := y vs hq
  rw [h1] at this
  cases this
  exact ⟨F2, Ext.refl, s2, Rp.same s1 h2⟩
theorem its_ok (z : Str) : ItOk K F (Its z) (z.cps.toList.map fun c => .str ⟨#[c]⟩) := by
  intro F2 H2 s1 s2
  refine ⟨fun i d e => ?_, fun i e => ?_⟩
  · rw [List.getElem?_map, Option.map_eq_some_iff] at e
    obtain ⟨c, hc, rfl⟩ := e
    have hi : i < z.cps.size := by
      have := (List.getElem?_eq_some_iff.mp hc).1
      simpa using this
    refine ⟨hi, fun x H3 y => ?_⟩
    obtain ⟨rfl, c', hc', rfl⟩ := y
    have : some c = some c' := by rw [← hc, ← hc', Array.getElem?_toList]
    cases this
    exact ⟨F2, Ext.refl, s2, .str _⟩
  · rw [List.length_map] at e
    show z.cps.size ≤ i
    simpa using e
theorem itr_ok {lo : Int} {n : Nat} {ds : List D} (h : ds = (List.range n).map fun i => PyData.int (lo + (i : Nat))) : ItOk K F (Itr lo n) ds := by
  subst h
  intro F2 H2 s1 s2
  refine ⟨fun i d e => ?_, fun i e => (by simpa using e : n ≤ i)⟩
  rw [List.getElem?_map, Option.map_eq_some_iff] at e
  obtain ⟨j, hj, rfl⟩ := e
  obtain ⟨h1, h2⟩ := List.getElem?_eq_some_iff.mp hj
  rw [List.getElem_range] at h2
  subst h2
  refine ⟨(by simpa using h1 : i < n), fun x H3 y => ?_⟩
  obtain ⟨rfl, rfl⟩ := y
  exact ⟨F2, Ext.refl, s2, .int _⟩
theorem enumD_get : ∀ {xs : List D} {n i : Nat} {d : D}, (enumD n xs)[i]? = some d → ∃ y, xs[i]? = some y ∧ d = .tuple [.int ((n + i : Nat) : Int), y]
  | [], n, i, d, h => by simp [enumD] at h
  | x :: r, n, 0, d, h => by simp [enumD] at h; exact ⟨x, rfl, h.symm⟩
  | x :: r, n, i + 1, d, h => by
    simp only [enumD, List.getElem?_cons_succ] at h
    obtain ⟨y, h1, h2⟩ := enumD_get h
    exact ⟨y, by simpa using h1, by rw [h2]; congr 4; omega⟩
theorem enumD_len : ∀ (xs : List D) (n : Nat), (enumD n xs).length = xs.length
  | [], _ => rfl
  | _ :: r, n => by simp only [enumD, List.length_cons, enumD_len r]
theorem zipD_get : ∀ {xs ys : List D} {i : Nat} {d : D}, (zipD xs ys)[i]? = some d → ∃ x y, xs[i]? = some x ∧ ys[i]? = some y ∧ d = .tuple [x, y]
  | [], _, i, d, h => by simp [zipD] at h
  | _ :: _, [], i, d, h => by simp [zipD] at h
  | x :: r, y :: t, 0, d, h => by simp [zipD] at h; exact ⟨x, y, rfl, rfl, h.symm⟩
  | x :: r, y :: t, i + 1, d, h => by
    simp only [zipD, List.getElem?_cons_succ] at h
    obtain ⟨a, b, h1, h2, h3⟩ := zipD_get h
    exact ⟨a, b, by simpa using h1, by simpa using h2, h3⟩
theorem zipD_len : ∀ (xs ys : List D), (zipD xs ys).length = min xs.length ys.length
  | [], _ => by simp [zipD]
  | _ :: _, [] => by simp [zipD]
  | x :: r, y :: t => by simp only [zipD, List.length_cons, zipD_len r t]; omega
theorem pair_new {F2 H2 : Hp} {T : Addr} {v w : V} {d e : D} (s2 : Same F2 H2) (hT : H2 T = none) (h1 : Rp K F2 v d) (h2 : Rp K F2 w e) :
    ∃ F3, Ext (fun _ => False) F2 H2 F3 (upd H2 T (.tup [v, w])) ∧ Same F3 (upd H2 T (.tup [v, w])) ∧ Rp K F3 (.ref T) (.tuple [d, e]) :=
  have x := ext_newF (o := .tup [v, w]) s2 hT
  ⟨upd F2 T (.tup [v, w]), x, same_newF s2, .tup (.inl (.inl upd_same)) (.cons (Rp.same x.f h1) (.cons (Rp.same x.f h2) .nil))⟩
theorem ite_ok {a : Addr} {vs : List V} {ds : List D} (h : Rd F a (.lst vs)) (r : Rps K F vs ds) : ItOk K F (Ite K a) (enumD 0 ds) := by
  intro F2 H2 s1 s2
  have hq : SqL K H2 a vs := .inl (Rd.same s2 (Rd.same s1 h))
  refine ⟨fun i d e => ?_, fun i e => ⟨vs, hq, by rw [r.length]; rw [enumD_len] at e; exact e⟩⟩
  obtain ⟨y, e1, rfl⟩ := enumD_get e
  obtain ⟨v, h1, h2⟩ := r.get e1
  refine ⟨⟨vs, v, hq, h1⟩, fun x H3 yl => ?_⟩
  obtain ⟨T, w, rfl, hT, rfl, yl⟩ := yl
  have := yl vs hq
  rw [h1] at this
  cases this
  rw [Nat.zero_add]
  exact pair_new s2 hT (.int _) (Rp.same s1 h2)
theorem itz_ok {a b : Addr} {vs ws : List V} {ds es : List D} (h : Rd F a (.lst vs)) (r : Rps K F vs ds) (h' : Rd F b (.lst ws)) (r' : Rps K F ws es) : ItOk K F (Itz K a b) (zipD ds es) := by
  intro F2 H2 s1 s2
  have hq : SqL K H2 a vs := .inl (Rd.same s2 (Rd.same s1 h))
  have hq' : SqL K H2 b ws := .inl (Rd.same s2 (Rd.same s1 h'))
  refine ⟨fun i d e => ?_, fun i e => ⟨vs, ws, hq, hq', ?_⟩⟩
  · obtain ⟨y, z, e1, e2, rfl⟩ := zipD_get e
    obtain ⟨v, h1, h2⟩ := r.get e1
    obtain ⟨w, k1, k2⟩ := r'.get e2
    refine ⟨⟨vs, ws, v, w, hq, hq', h1, k1⟩, fun x H3 yl => ?_⟩
    obtain ⟨T, v', w', rfl, hT, rfl, y1, y2⟩ := yl
    have := y1 vs hq
    rw [h1] at this
    cases this
    have := y2 ws hq'
    rw [k1] at this
    cases this
    exact pair_new s2 hT (Rp.same s1 h2) (Rp.same s1 k2)
  · rw [zipD_len] at e
    rw [r.length, r'.length]
    omega
theorem itzT_ok {a b : Addr} {vs ws : List V} {ds es : List D} (h : SqT K F a vs) (r : Rps K F vs ds) (h' : SqT K F b ws) (r' : Rps K F ws es) : ItOk K F (RZ.ItzT K a b) (zipD ds es) := by
  intro F2 H2 s1 s2
  have hq : SqT K H2 a vs := SqT.same s2 (SqT.same s1 h)
  have hq' : SqT K H2 b ws := SqT.same s2 (SqT.same s1 h')
  refine ⟨fun i d e => ?_, fun i e => ⟨vs, ws, hq, hq', ?_⟩⟩
  · obtain ⟨y, z, e1, e2, rfl⟩ := zipD_get e
    obtain ⟨v, h1, h2⟩ := r.get e1
    obtain ⟨w, k1, k2⟩ := r'.get e2
    refine ⟨⟨vs, ws, v, w, hq, hq', h1, k1⟩, fun x H3 yl => ?_⟩
    obtain ⟨T, v', w', rfl, hT, rfl, y1, y2⟩ := yl
    have := y1 vs hq
    rw [h1] at this
    cases this
    have := y2 ws hq'
    rw [k1] at this
    cases this
    exact pair_new s2 hT (Rp.same s1 h2) (Rp.same s1 k2)
  · rw [zipD_len] at e
    rw [r.length, r'.length]
    omega
/-- a list, a tuple or a text is walked -/
theorem pi_seq {l : Expr} {tl : TE} (hl : PE X l tl) : PI X tg l (fun σ H R => tl σ H fun x H1 => (∃ a, x = .ref a ∧ (∃ xs, SqL X.K H1 a xs) ∧ R (Itl X.K a) H1) ∨ (∃ a, x = .ref a ∧ (∃ xs, SqT X.K H1 a xs) ∧ R (Itt X.K a) H1) ∨ ∃ z, x = .str z ∧ R (Its z) H1) := by
  refine ⟨fun pins s σ H R I h => ?_⟩
  refine thn (hl.run pins s σ H _ I h) fun v s1 ⟨x, H1, I1, r1, q1⟩ => ?_
  rcases q1 with ⟨a, e, ⟨xs, hq⟩, q⟩ | ⟨a, e, ⟨xs, hq⟩, q⟩ | ⟨z, e, q⟩
  · subst e
    cases r1
    obtain ⟨its, rv, p, hz⟩ := I1.list hq
    refine wpAny_pyIter_list p.isList ?_
    refine ⟨s1.heap.objs.size, [s1.heap.objs.size], _, _, H1, rfl, I1.kept (t' := s1.toks) fun b o e => Heap.get?_push_of_some _ e, turn_list a _, ⟨_, Heap.get?_push_size _ rfl, rfl, rfl⟩, fun b hb => ?_, q⟩
    have e : b = s1.heap.objs.size := by simpa using hb
    subst e
    exact I1.fpOk (Nat.le_refl _) (I1.hok.fresh (Nat.le_refl _))
  · subst e
    cases r1
    obtain ⟨its, rv, p, hz⟩ := I1.tuple hq
    refine wpAny_pyIter_tuple (show s1.heap.IsTuple a its.toArray from p) ?_
    refine ⟨s1.heap.objs.size, [s1.heap.objs.size], _, _, H1, rfl, I1.kept (t' := s1.toks) fun b o e => Heap.get?_push_of_some _ e, turn_tuple a _, ⟨_, Heap.get?_push_size _ rfl, rfl, rfl⟩, fun b hb => ?_, q⟩
    have e : b = s1.heap.objs.size := by simpa using hb
    subst e
    exact I1.fpOk (Nat.le_refl _) (I1.hok.fresh (Nat.le_refl _))
  · subst e
    obtain ⟨t, rfl⟩ := r1
    cases ha : z.cps.all (· < 128)
    · exact wpAny_pyIter_wide ha (pi_one (tk := s1.toks) I1 _ (turn_str _ z t "str_iterator" (.inr rfl)) ⟨_, Heap.get?_push_size _ rfl, rfl, rfl⟩ q)
    · exact wpAny_pyIter_ascii ha (pi_one (tk := s1.toks) I1 _ (turn_str _ z t "str_ascii_iterator" (.inl rfl)) ⟨_, Heap.get?_push_size _ rfl, rfl, rfl⟩ q)
theorem pi_of {e : Ex} (h : PE X x (tV X.K C e)) : PI X tg x (tI X.K (sem C (.itOf e)).it) := by
  refine PI.imp (pi_seq h) fun σ H R hq => ?_
  obtain ⟨s, F, ds, s', r, e0, k⟩ := hq
  have e0 : bnd (sem C e).v (fun d => lift (walkOf d)) s = some (ds, s') := e0
  obtain ⟨d, s1, e1, f1⟩ := bnd_some e0
  obtain ⟨e3, e4⟩ := lift_some f1
  change s' = s1 at e4
  change walkOf d = some ds at e3
  subst e4
  refine ⟨s, F, d, _, r, e1, fun v F' H' r' x' sub w => ?_⟩
  cases d <;> simp only [walkOf] at e3 <;> cases e3
  · cases w
    exact .inr (.inr ⟨_, rfl, k _ F' H' r' x' sub (its_ok _)⟩)
  · cases w with
    | lst h1 r1 => exact .inl ⟨_, rfl, ⟨_, .inl (Rd.same r'.sub h1)⟩, k _ F' H' r' x' sub (itl_ok h1 r1)⟩
  · cases w with
    | tup h1 r1 => exact .inr (.inl ⟨_, rfl, ⟨_, SqT.same r'.sub h1⟩, k _ F' H' r' x' sub (itt_ok h1 r1)⟩)
theorem small_of {n : Int} (h : smallI n = true) : -(2 ^ 62) ≤ n ∧ n < 2 ^ 62 := by
  simpa only [smallI, Bool.and_eq_true, decide_eq_true_eq] using h
theorem pi_range_ (g : Gd X Γ q) {es : Ex} {xs : List Expr} {p pos : Pos} (hg : gl q "range" = true) (hp : PAx X C xs es) (hl : xs.length = 1 ∨ xs.length = 2) : PI X tg (.Call (.Name "range" p) xs [] pos) (tI X.K (sem C (.itRange es)).it) := by
  have hm : X.mg "range" = none := g.mgb _ (by decide +kernel)
  have key : ∀ {σ : L2.St} {H : Hp} {R : It → Hp → Prop}, tI X.K (sem C (.itRange es)).it σ H R → ∃ (s : S) (F : Hp) (l : List Ar) (s' : S) (ds : List D), Rs X.K F H σ s ∧ (sem C es).as s = some (l, s') ∧ valsA l = some ds ∧
      ((∃ n, ds = [.int n] ∧ smallI n = true ∧ ∀ F' H', Rs X.K F' H' σ s' → Ext (Ad σ s) F H F' H' → (∀ a, Ad σ s' a → Ad σ s a) → R (Itr 0 n.toNat) H') ∨
       (∃ a b, ds = [.int a, .int b] ∧ smallI a = true ∧ smallI b = true ∧ ∀ F' H', Rs X.K F' H' σ s' → Ext (Ad σ s) F H F' H' → (∀ a, Ad σ s' a → Ad σ s a) → R (Itr a (b - a).toNat) H')) := by
    intro σ H R hq
    obtain ⟨s, F, ds, s', r, e0, k⟩ := hq
    have e0 : bnd (sem C es).as (fun l => bnd (lift (valsA l)) fun ds => match ds with
      | [.int n] => if smallI n then gives (rgD n) else fails
      | [.int a, .int b] => if smallI a && smallI b then gives (rgD2 a b) else fails
      | _ => fails) s = some (ds, s') := e0
    obtain ⟨l, s1, e1, f1⟩ := bnd_some e0
    obtain ⟨dd, s2, e2, f2⟩ := bnd_some f1
    obtain ⟨e3, e4⟩ := lift_some e2
    change s2 = s1 at e4
    change valsA l = some dd at e3
    subst e4
    split at f2
    · split at f2
      · rename_i n hn
        cases f2
        exact ⟨s, F, l, _, _, r, e1, e3, .inl ⟨n, rfl, hn, fun F' H' r' x' sub => k _ F' H' r' x' sub (itr_ok (by unfold rgD; rfl))⟩⟩
      · cases f2
    · split at f2
      · rename_i a b hn
        cases f2
        rw [Bool.and_eq_true] at hn
        exact ⟨s, F, l, _, _, r, e1, e3, .inr ⟨a, b, rfl, hn.1, hn.2, fun F' H' r' x' sub => k _ F' H' r' x' sub (itr_ok (by unfold rgD2; rfl))⟩⟩
      · cases f2
    · cases f2
  rcases hl with hl | hl
  · obtain ⟨z, rfl⟩ := List.length_eq_one_iff.mp hl
    obtain ⟨ez, rfl, nz, pz⟩ := pax1 hp
    refine PI.imp (pi_range1 (g.glx hg) hm hp.pa (star_ns nz)) fun σ H R hq => ?_
    obtain ⟨s, F, l, s', ds, r, e1, e3, h⟩ := key hq
    refine as_read _ r e1 fun vs F' H' r' x' sub arrs => ?_
    have rp := vals_rps arrs e3
    rcases h with ⟨n, rfl, hn, k⟩ | ⟨a, b, rfl, _⟩
    · cases rp with
      | cons h1 h2 =>
        cases h1; cases h2
        exact ⟨n, rfl, (small_of hn).1, (small_of hn).2, k F' H' r' x' sub⟩
    · have := rp.length
      rw [arrs.len] at this
      have e2 : l.length = 1 := by
        have e1 : bnd (sem C ez).a (fun x => bnd (sem C .nil).as fun l => gives (x :: l)) s = some (l, s') := e1
        obtain ⟨ar, s1, _, f1⟩ := bnd_some e1
        obtain ⟨l1, s2, g1, f2⟩ := bnd_some f1
        cases g1; cases f2; rfl
      rw [e2] at this
      cases this
  · obtain ⟨y, z, rfl⟩ : ∃ y z, xs = [y, z] := by
      match xs, hl with
      | [y, z], _ => exact ⟨y, z, rfl⟩
    obtain ⟨ey, ez, rfl, ny, py, nz, pz⟩ := pax2 hp
    refine PI.imp (pi_range2 (g.glx hg) hm hp.pa (by rw [star_ns ny, star_ns nz]; rfl) (star_ns nz)) fun σ H R hq => ?_
    obtain ⟨s, F, l, s', ds, r, e1, e3, h⟩ := key hq
    refine as_read _ r e1 fun vs F' H' r' x' sub arrs => ?_
    have rp := vals_rps arrs e3
    rcases h with ⟨n, rfl, _⟩ | ⟨a, b, rfl, ha, hb, k⟩
    · have := rp.length
      rw [arrs.len] at this
      have e2 : l.length = 2 := by
        have e1 : bnd (sem C ey).a (fun x => bnd (sem C (.cons ez .nil)).as fun l => gives (x :: l)) s = some (l, s') := e1
        obtain ⟨ar, s1, _, f1⟩ := bnd_some e1
        obtain ⟨l1, s2, g1, f2⟩ := bnd_some f1
        have g1 : bnd (sem C ez).a (fun x => bnd (sem C .nil).as fun l => gives (x :: l)) s1 = some (l1, s2) := g1
        obtain ⟨ar2, s3, _, f3⟩ := bnd_some g1
        obtain ⟨l2, s4, g2, f4⟩ := bnd_some f3
        cases g2; cases f4; cases f2; rfl
      rw [e2] at this
      cases this
    · cases rp with
      | cons h1 h2 =>
        cases h2 with
        | cons h2 h3 =>
          cases h1; cases h2; cases h3
          exact ⟨a, b, rfl, ⟨(small_of ha).1, (small_of ha).2, (small_of hb).1, (small_of hb).2⟩, k F' H' r' x' sub⟩
theorem pi_enum_ (g : Gd X Γ q) {e : Ex} {a : Expr} {elts : List Expr} {kk : Nat} {tp p pos : Pos} (hg : gl q "enumerate" = true) (na : ns a = true) (h : PE X a (tV X.K C e)) : PI X (.Tuple elts kk tp) (.Call (.Name "enumerate" p) [a] [] pos) (tI X.K (sem C (.itEnum e)).it) := by
  refine PI.imp (pi_enum (g.glx hg) (g.mgb _ (by decide +kernel)) (pa_cons h pa_nil (star_ns na)) (star_ns na)) fun σ H R hq => ?_
  obtain ⟨s, F, ds, s', r, e0, k⟩ := hq
  have e0 : bnd (sem C e).v (fun d => match d with
      | .list xs => gives (enumD 0 xs)
      | _ => fails) s = some (ds, s') := e0
  obtain ⟨d, s1, e1, f1⟩ := bnd_some e0
  split at f1
  · cases f1
    refine ⟨s, F, _, _, r, e1, fun v F' H' r' x' sub w => ?_⟩
    cases w with
    | lst h1 r1 => exact ⟨_, _, rfl, .inl (Rd.same r'.sub h1), k _ F' H' r' x' sub (ite_ok h1 r1)⟩
  · cases f1
theorem pi_zip_ (g : Gd X Γ q) {es : Ex} {a b : Expr} {elts : List Expr} {kk : Nat} {tp p pos : Pos} (hg : gl q "zip" = true) (hp : PAx X C [a, b] es) : PI X (.Tuple elts kk tp) (.Call (.Name "zip" p) [a, b] [] pos) (tI X.K (sem C (.itZip es)).it) := by
  obtain ⟨ea, eb, rfl, na, pa, nb, pb⟩ := pax2 hp
  refine PI.imp (RZ.pi_zipA (g.glx hg) (g.mgb _ (by decide +kernel)) hp.pa (star_ns na) (by rw [star_ns nb]; rfl)) fun σ H R hq => ?_
  obtain ⟨s, F, ds, s', r, e0, k⟩ := hq
  have e0 : bnd (sem C (.cons ea (.cons eb .nil))).as (fun l => bnd (lift (valsA l)) fun ds => match ds with
      | [.list xs, .list ys] => gives (zipD xs ys)
      | [.tuple xs, .tuple ys] => gives (zipD xs ys)
      | _ => fails) s = some (ds, s') := e0
  obtain ⟨l, s1, e1, f1⟩ := bnd_some e0
  obtain ⟨dd, s2, e2, f2⟩ := bnd_some f1
  obtain ⟨e3, e4⟩ := lift_some e2
  change s2 = s1 at e4
  change valsA l = some dd at e3
  subst e4
  refine as_read _ r e1 fun vs F' H' r' x' sub arrs => ?_
  have rp := vals_rps arrs e3
  split at f2
  · cases f2
    cases rp with
    | cons h1 h2 =>
      cases h2 with
      | cons h2 h3 =>
        cases h3
        cases h1 with
        | lst p1 q1 =>
          cases h2 with
          | lst p2 q2 => exact ⟨_, _, _, _, rfl, .inl ⟨.inl (Rd.same r'.sub p1), .inl (Rd.same r'.sub p2), k _ F' H' r' x' sub (itz_ok p1 q1 p2 q2)⟩⟩
  · cases f2
    cases rp with
    | cons h1 h2 =>
      cases h2 with
      | cons h2 h3 =>
        cases h3
        cases h1 with
        | tup p1 q1 =>
          cases h2 with
          | tup p2 q2 => exact ⟨_, _, _, _, rfl, .inr ⟨SqT.same r'.sub p1, SqT.same r'.sub p2, k _ F' H' r' x' sub (itzT_ok p1 q1 p2 q2)⟩⟩
  · cases f2
end
end FC

/-! Part 12: targets. -/
namespace FC
open PySem PySem.Spec PyProof.Rows L2
section
variable {K : PySem.W.Frag} {F H : Hp} {σ : L2.St} {s s1 : S}
theorem putS_some {i : Nat} {b : B} (h : putS i b s = some s1) : s1 = s.set i (some b) ∧ i < s.length ∧ ∀ d, s[i]? ≠ some (some (.lent d)) := by
  unfold putS at h
  split at h
  · cases h
  · rename_i e2 e1
    cases h
    exact ⟨rfl, (List.getElem?_eq_some_iff.mp e1).1, fun d z => e2 d (by rw [e1] at z; cases z; rfl)⟩
  · cases h
theorem set_back {i j : Nat} {b c : B} (hi : i < s.length) (h : (s.set i (some b))[j]? = some (some c)) : (j = i ∧ c = b) ∨ (j ≠ i ∧ s[j]? = some (some c)) := by
  by_cases hj : j = i
  · subst hj
    rw [List.getElem?_set_self hi] at h
    cases h
    exact .inl ⟨rfl, rfl⟩
  · rw [List.getElem?_set_ne (Ne.symm hj)] at h
    exact .inr ⟨hj, h⟩
/-- a slot gets a value -/
theorem Rs.put {i : Nat} {d : D} {v : V} (r : Rs K F H σ s) (h : putS i (.val d) s = some s1) (w : Rp K F v d) : Rs K F H (σ.set i (some v)) s1 ∧ ∀ a, Ad (σ.set i (some v)) s1 a → Ad σ s a := by
  obtain ⟨rfl, hi, hl⟩ := putS_some h
  have his : i < σ.length := by rw [r.len]; exact hi
  refine ⟨⟨r.sub, by rw [List.length_set, List.length_set]; exact r.len, fun j b ej => ?_, fun j k b c a e1 e2 m1 m2 e3 e4 => ?_⟩, fun a ⟨j, b, ej, m, ev⟩ => ?_⟩
  · rcases set_back hi ej with ⟨rfl, rfl⟩ | ⟨nj, ej⟩
    · exact ⟨v, List.getElem?_set_self his, w⟩
    · rw [List.getElem?_set_ne (Ne.symm nj)]
      exact r.at_ j b ej
  · rcases set_back hi e1 with ⟨rfl, rfl⟩ | ⟨nj, e1⟩
    · cases m1
    · rcases set_back hi e2 with ⟨rfl, rfl⟩ | ⟨nk, e2⟩
      · cases m2
      · rw [List.getElem?_set_ne (Ne.symm nj)] at e3
        rw [List.getElem?_set_ne (Ne.symm nk)] at e4
        exact r.dis j k b c a e1 e2 m1 m2 e3 e4
  · rcases set_back hi ej with ⟨rfl, rfl⟩ | ⟨nj, ej⟩
    · cases m
    · rw [List.getElem?_set_ne (Ne.symm nj)] at ev
      exact ⟨j, b, ej, m, ev⟩
/-- a slot gets an object of its own -/
theorem Rs.putO {i : Nat} {d : D} {a : Addr} (r : Rs K F H σ s) (h : putS i (.own d) s = some s1) (hf : F a = none) (ob : Ob K F H a d) (nA : ¬ Ad σ s a) : Rs K F H (σ.set i (some (.ref a))) s1 ∧ ∀ c, Ad (σ.set i (some (.ref a))) s1 c → Ad σ s c ∨ c = a := by
  obtain ⟨rfl, hi, hl⟩ := putS_some h
  have his : i < σ.length := by rw [r.len]; exact hi
  refine ⟨⟨r.sub, by rw [List.length_set, List.length_set]; exact r.len, fun j b ej => ?_, fun j k b c a' e1 e2 m1 m2 e3 e4 => ?_⟩, fun c ⟨j, b, ej, m, ev⟩ => ?_⟩
  · rcases set_back hi ej with ⟨rfl, rfl⟩ | ⟨nj, ej⟩
    · exact ⟨.ref a, List.getElem?_set_self his, a, rfl, hf, ob⟩
    · rw [List.getElem?_set_ne (Ne.symm nj)]
      exact r.at_ j b ej
  · rcases set_back hi e1 with ⟨rfl, rfl⟩ | ⟨nj, e1⟩
    · rw [List.getElem?_set_self his] at e3
      cases e3
      rcases set_back hi e2 with ⟨rfl, rfl⟩ | ⟨nk, e2⟩
      · rfl
      · rw [List.getElem?_set_ne (Ne.symm nk)] at e4
        exact absurd ⟨k, c, e2, m2, e4⟩ nA
    · rw [List.getElem?_set_ne (Ne.symm nj)] at e3
      rename_i e1'
      rcases set_back hi e2 with ⟨hk, hc⟩ | ⟨nk, e2⟩
      · rw [hk, List.getElem?_set_self his] at e4
        cases e4
        exact absurd ⟨j, b, e1, m1, e3⟩ nA
      · rw [List.getElem?_set_ne (Ne.symm nk)] at e4
        exact r.dis j k b c a' e1 e2 m1 m2 e3 e4
  · rcases set_back hi ej with ⟨rfl, rfl⟩ | ⟨nj, ej⟩
    · rw [List.getElem?_set_self his] at ev
      cases ev
      exact .inr rfl
    · rw [List.getElem?_set_ne (Ne.symm nj)] at ev
      exact .inl ⟨j, b, ej, m, ev⟩
def setAll : L2.St → List Nat → List V → L2.St
  | σ, i :: is, v :: vs => setAll (σ.set i (some v)) is vs
  | σ, _, _ => σ
theorem Rs.putAll : ∀ {is : List Nat} {ds : List D} {vs : List V} {σ : L2.St} {s s1 : S}, Rs K F H σ s → FC.putAll (is.zip (ds.map .val)) s = some s1 → Rps K F vs ds → ds.length = is.length →
    Rs K F H (setAll σ is vs) s1 ∧ ∀ a, Ad (setAll σ is vs) s1 a → Ad σ s a
  | [], [], _, σ, s, s1, r, h, .nil, _ => by
    cases h
    exact ⟨r, fun _ z => z⟩
  | i :: is, d :: ds, _, σ, s, s1, r, h, .cons w ws, hl => by
    simp only [List.map_cons, List.zip_cons_cons, FC.putAll] at h
    split at h
    · rename_i s2 e
      obtain ⟨r2, a2⟩ := r.put e w
      obtain ⟨r3, a3⟩ := Rs.putAll r2 h ws (by simpa using hl)
      exact ⟨r3, fun a z => a2 a (a3 a z)⟩
    · cases h
  | [], _ :: _, _, _, _, _, _, _, _, hl => by simp at hl
  | _ :: _, [], _, _, _, _, _, _, _, hl => by simp at hl
theorem wipe_set {i : Nat} {o : Option V} : ∀ {vs : List Nat}, i ∈ vs → wipe (σ.set i o) vs = wipe σ vs
  | v :: vs, h => by
    unfold wipe
    by_cases hv : i ∈ vs
    · rw [wipe_set hv]
    · have e : i = v := by
        rcases List.mem_cons.mp h with e | e
        · exact e
        · exact absurd e hv
      subst e
      have : ∀ (vs : List Nat) (σ : L2.St), i ∉ vs → (wipe (σ.set i o) vs).set i none = (wipe σ vs).set i none := by
        intro vs
        induction vs with
        | nil => intro σ _; show (σ.set i o).set i none = σ.set i none; rw [List.set_set]
        | cons w ws ih =>
          intro σ hn
          have hw : w ≠ i := fun e => hn (e ▸ List.mem_cons_self)
          show ((wipe (σ.set i o) ws).set w none).set i none = ((wipe σ ws).set w none).set i none
          rw [List.set_comm _ _ hw, List.set_comm _ _ hw, ih σ (fun e => hn (List.mem_cons_of_mem _ e))]
      exact this vs σ hv
theorem wipe_setAll {ws : List Nat} : ∀ {is : List Nat} {vs : List V} {σ : L2.St}, (∀ i ∈ is, i ∈ ws) → wipe (setAll σ is vs) ws = wipe σ ws
  | [], _, σ, _ => by unfold setAll; rfl
  | i :: is, [], σ, _ => by unfold setAll; rfl
  | i :: is, v :: vs, σ, h => by
    unfold setAll
    rw [wipe_setAll fun j hj => h j (List.mem_cons_of_mem _ hj), wipe_set (h i List.mem_cons_self)]
end
section
variable {X : Cx} {Γ : Gam} {q : Scp} {C : Calls}
def gIs : List Nat → TGs
  | [] => gNil
  | i :: is => gCons (gName i) (gIs is)
theorem gIs_of : ∀ {is : List Nat} {vs : List V} {σ : L2.St} {H : Hp} {Q : L2.St → Hp → Prop}, vs.length = is.length → Q (setAll σ is vs) H → gIs is vs σ H Q
  | [], [], σ, H, Q, _, q => ⟨rfl, q⟩
  | i :: is, v :: vs, σ, H, Q, hl, q => ⟨v, vs, rfl, gIs_of (by simpa using hl) q⟩
  | [], _ :: _, _, _, _, hl, _ => by simp at hl
  | _ :: _, [], _, _, _, hl, _ => by simp at hl
theorem tgn_of (g : Gd X Γ q) {i : Nat} {x : Expr} (h : tgn Γ q i x = true) : PG X x (gName i) ∧ ∃ y p, x = .Name y p := by
  unfold tgn at h
  split at h
  · rename_i y p
    simp only [Bool.and_eq_true, beq_iff_eq] at h
    obtain ⟨h1, h2⟩ := h
    refine ⟨?_, y, p, rfl⟩
    unfold locB at h2
    split at h2
    · rename_i e
      have e' : X.env.scope.names.lookup y = some .local := by rw [g.sc]; exact e
      exact pg_name g.nd (by rw [g.N]; exact h1) (.inl e') (.inr e')
    · rename_i e
      have e' : X.env.scope.names.lookup y = some .cell := by rw [g.sc]; exact e
      exact pg_name g.nd (by rw [g.N]; exact h1) (.inr e') (.inl (by rw [g.fn]; exact h2))
    · cases h2
  · cases h
theorem tgns_of (g : Gd X Γ q) : ∀ {is : List Nat} {xs : List Expr}, tgns Γ q is xs = true → PGs X xs (gIs is) ∧ (assignEach xs X.env).length = is.length ∧ (assignEach xs X.env).findIdx? (·.1) = none
  | [], [], _ => ⟨pgs_nil, rfl, rfl⟩
  | [], _ :: _, h => by cases h
  | _ :: _, [], h => by cases h
  | i :: is, x :: xs, h => by
    unfold tgns at h
    rw [Bool.and_eq_true] at h
    obtain ⟨p, y, po, rfl⟩ := tgn_of g h.1
    obtain ⟨p2, l2, f2⟩ := tgns_of g h.2
    refine ⟨pgs_cons p p2 rfl, ?_, ?_⟩
    · show (assignEach xs X.env).length + 1 = is.length + 1
      rw [l2]
    · show ((false, assign (.Name y po) X.env) :: assignEach xs X.env).findIdx? (·.1) = none
      rw [List.findIdx?_cons]
      simp [f2]
theorem PG.or {x : Expr} {t t' : TG} (h : PG X x t) (h' : PG X x t') : PG X x (fun v σ H Q => t v σ H Q ∨ t' v σ H Q) :=
  ⟨fun pins s σ H v u Q I r q => q.elim (h.run pins s σ H v u Q I r) (h'.run pins s σ H v u Q I r)⟩
def gTg (K : PySem.W.Frag) : Tg → TG
  | .nm i => gName i
  | .tp is => fun v σ H Q => gTup K is.length (gIs is) v σ H Q ∨ gUnl K is.length (gIs is) v σ H Q
theorem pg_tg (g : Gd X Γ q) {t : Tg} {x : Expr} (h : mTg Γ q t x = true) : PG X x (gTg X.K t) := by
  unfold mTg at h
  split at h
  · exact (tgn_of g h).1
  · rw [Bool.and_eq_true] at h
    obtain ⟨p, l, f⟩ := tgns_of g h.1
    exact PG.or (pg_tup g.calm p l f) (pg_unl g.calm p l f)
  · cases h
theorem bind_read {K : PySem.W.Frag} {t : Tg} {F H : Hp} {σ : L2.St} {s s1 : S} {v : V} {d : D} {Q : L2.St → Hp → Prop} (r : Rs K F H σ s) (w : Rp K F v d) (e : bindT t d s = some s1)
    (k : ∀ σ', Rs K F H σ' s1 → (∀ a, Ad σ' s1 a → Ad σ s a) → wipe σ' t.slots = wipe σ t.slots → Q σ' H) : gTg K t v σ H Q := by
  cases t with
  | nm i =>
    obtain ⟨r1, a1⟩ := r.put e w
    exact k _ r1 a1 (wipe_set List.mem_cons_self)
  | tp is =>
    simp only [bindT] at e
    split at e
    · rename_i ds hd
      split at e
      · rename_i hl
        cases d <;> simp only [itemsOf] at hd <;> cases hd
        · cases w with
          | lst h1 r1 =>
            obtain ⟨r2, a2⟩ := Rs.putAll r e r1 hl
            exact .inr ⟨_, _, rfl, .inl (Rd.same r.sub h1), by rw [r1.length]; exact hl, gIs_of (by rw [r1.length]; exact hl) (k _ r2 a2 (wipe_setAll fun _ z => z))⟩
        · cases w with
          | tup h1 r1 =>
            obtain ⟨r2, a2⟩ := Rs.putAll r e r1 hl
            exact .inl ⟨_, _, rfl, SqT.same r.sub h1, by rw [r1.length]; exact hl, gIs_of (by rw [r1.length]; exact hl) (k _ r2 a2 (wipe_setAll fun _ z => z))⟩
      · cases e
    · cases e
end
end FC

/-! Part 13: comprehensions. -/
namespace FC
open PySem PySem.Spec PyProof.Rows L2
section
variable {K : PySem.W.Frag} {F H : Hp} {σ : L2.St} {s : S}
theorem wipeS_len (s : S) : ∀ vs : List Nat, (wipeS s vs).length = s.length
  | [] => rfl
  | v :: vs => by unfold wipeS; rw [List.length_set, wipeS_len s vs]
theorem wipeS_out {i : Nat} : ∀ {vs : List Nat}, i ∉ vs → (wipeS s vs)[i]? = s[i]?
  | [], _ => rfl
  | v :: vs, h => by
    unfold wipeS
    rw [List.getElem?_set_ne (fun e => h (by rw [e]; exact List.mem_cons_self))]
    exact wipeS_out fun e => h (List.mem_cons_of_mem _ e)
theorem wipeS_some {i : Nat} {b : B} : ∀ {vs : List Nat}, (wipeS s vs)[i]? = some (some b) → s[i]? = some (some b) ∧ i ∉ vs
  | [], h => ⟨h, by simp⟩
  | v :: vs, h => by
    unfold wipeS at h
    by_cases hi : v = i
    · subst hi
      by_cases hv : v < (wipeS s vs).length
      · rw [List.getElem?_set_self hv] at h; cases h
      · rw [List.getElem?_eq_none (by simpa using hv)] at h; cases h
    · rw [List.getElem?_set_ne hi] at h
      obtain ⟨h1, h2⟩ := wipeS_some h
      refine ⟨h1, fun e => ?_⟩
      rcases List.mem_cons.mp e with e | e
      · exact hi e.symm
      · exact h2 e
theorem wipe_get {i : Nat} : ∀ {vs : List Nat}, i ∉ vs → (wipe σ vs)[i]? = σ[i]? := fun h => wipe_out h
theorem Rs.wipe (r : Rs K F H σ s) (vs : List Nat) : Rs K F H (L2.wipe σ vs) (wipeS s vs) ∧ ∀ a, Ad (L2.wipe σ vs) (wipeS s vs) a → Ad σ s a := by
  refine ⟨⟨r.sub, by rw [wipe_length, wipeS_len]; exact r.len, fun j b ej => ?_, fun j k b c a e1 e2 m1 m2 e3 e4 => ?_⟩, fun a ⟨j, b, ej, m, ev⟩ => ?_⟩
  · obtain ⟨h1, h2⟩ := wipeS_some ej
    rw [wipe_out h2]
    exact r.at_ j b h1
  · obtain ⟨h1, h2⟩ := wipeS_some e1
    obtain ⟨h3, h4⟩ := wipeS_some e2
    rw [wipe_out h2] at e3
    rw [wipe_out h4] at e4
    exact r.dis j k b c a h1 h3 m1 m2 e3 e4
  · obtain ⟨h1, h2⟩ := wipeS_some ej
    rw [wipe_out h2] at ev
    exact ⟨j, b, h1, m, ev⟩
theorem wipe_idem : ∀ vs : List Nat, L2.wipe (L2.wipe σ vs) vs = L2.wipe σ vs := by
  intro vs
  apply List.ext_getElem?
  intro i
  by_cases hi : i ∈ vs
  · have : ∀ (τ : L2.St) (vs : List Nat), i ∈ vs → (L2.wipe τ vs)[i]? = if i < τ.length then some none else none := by
      intro τ vs
      induction vs with
      | nil => intro h; cases h
      | cons v vs ih =>
        intro h
        unfold L2.wipe
        by_cases hv : v = i
        · subst hv
          by_cases hl : v < τ.length
          · rw [List.getElem?_set_self (by rw [wipe_length]; exact hl), if_pos hl]
          · rw [List.getElem?_eq_none (by rw [List.length_set, wipe_length]; omega), if_neg hl]
        · rw [List.getElem?_set_ne hv]
          exact ih (by rcases List.mem_cons.mp h with e | e; exact absurd e.symm hv; exact e)
    rw [this _ vs hi, this _ vs hi, wipe_length]
  · rw [wipe_out hi]
theorem restS_len (s0 s : S) : ∀ vs : List Nat, (restS s0 s vs).length = s.length
  | [] => rfl
  | v :: vs => by unfold restS; rw [List.length_set, restS_len s0 s vs]
theorem restS_out {s0 : S} {i : Nat} : ∀ {vs : List Nat}, i ∉ vs → (restS s0 s vs)[i]? = s[i]?
  | [], _ => rfl
  | v :: vs, h => by
    unfold restS
    rw [List.getElem?_set_ne (fun e => h (by rw [e]; exact List.mem_cons_self))]
    exact restS_out fun e => h (List.mem_cons_of_mem _ e)
theorem restS_in {s0 : S} {i : Nat} {b : B} : ∀ {vs : List Nat}, i ∈ vs → (restS s0 s vs)[i]? = some (some b) → s0[i]? = some (some b)
  | v :: vs, h, e => by
    unfold restS at e
    by_cases hv : v = i
    · subst hv
      by_cases hl : v < (restS s0 s vs).length
      · rw [List.getElem?_set_self hl] at e
        cases q : s0[v]? with
        | none => rw [q] at e; cases e
        | some o => rw [q] at e; cases e; rfl
      · rw [List.getElem?_eq_none (by rw [List.length_set]; omega)] at e
        cases e
    · rw [List.getElem?_set_ne hv] at e
      exact restS_in (by rcases List.mem_cons.mp h with e | e; exact absurd e.symm hv; exact e) e
theorem plain_val {i : Nat} {b : B} (h : plainS s i = true) (e : s[i]? = some (some b)) : ∃ d, b = .val d := by
  unfold plainS at h
  rw [e] at h
  cases b with
  | val d => exact ⟨d, rfl⟩
  | own d => cases h
  | lent d => cases h
/-- behind the comprehension the names are as they were -/
theorem Rs.rest {F1 H1 : Hp} {s1 : S} {vs : List Nat} (r1 : Rs K F1 H1 σ s1) (sm : Same F1 F) (r : Rs K F H (L2.wipe σ vs) (wipeS s vs)) (hp : vs.all (plainS s1) = true) (hl : s.length = s1.length) :
    Rs K F H σ (restS s1 s vs) ∧ ∀ a, Ad σ (restS s1 s vs) a → Ad (L2.wipe σ vs) (wipeS s vs) a := by
  have pv : ∀ {j : Nat} {b : B}, j ∈ vs → (restS s1 s vs)[j]? = some (some b) → ∃ d, b = .val d := fun {j b} hj e =>
    plain_val (List.all_eq_true.mp hp j hj) (restS_in hj e)
  have mo : ∀ {j : Nat} {b : B}, (restS s1 s vs)[j]? = some (some b) → b.mine = true → j ∉ vs ∧ (wipeS s vs)[j]? = some (some b) := fun {j b} e m => by
    have hj : j ∉ vs := fun hj => by
      obtain ⟨d, rfl⟩ := pv hj e
      cases m
    rw [restS_out hj] at e
    exact ⟨hj, by rw [wipeS_out hj]; exact e⟩
  refine ⟨⟨r.sub, by rw [restS_len, hl]; exact r1.len, fun j b ej => ?_, fun j k b c a e1 e2 m1 m2 e3 e4 => ?_⟩, fun a ⟨j, b, ej, m, ev⟩ => ?_⟩
  · by_cases hj : j ∈ vs
    · obtain ⟨d, rfl⟩ := pv hj ej
      obtain ⟨v, ev, rb⟩ := r1.at_ j _ (restS_in hj ej)
      exact ⟨v, ev, Rp.same sm rb⟩
    · rw [restS_out hj] at ej
      obtain ⟨v, ev, rb⟩ := r.at_ j b (by rw [wipeS_out hj]; exact ej)
      rw [wipe_out hj] at ev
      exact ⟨v, ev, rb⟩
  · obtain ⟨h1, h2⟩ := mo e1 m1
    obtain ⟨h3, h4⟩ := mo e2 m2
    exact r.dis j k b c a h2 h4 m1 m2 (by rw [wipe_out h1]; exact e3) (by rw [wipe_out h3]; exact e4)
  · obtain ⟨h1, h2⟩ := mo ej m
    exact ⟨j, b, h2, m, by rw [wipe_out h1]; exact ev⟩
end
section
variable {X : Cx} {Γ : Gam} {q : Scp} {C : Calls}
theorem comp_read {K : PySem.W.Frag} {t : Tg} {it e ifs : Ex} {σ : L2.St} {H : Hp} {Q : VK} (h : tO K C (.comp e t it ifs) σ H Q) :
    tLc (tI K (sem C it).it) (gTg K t) (tT K (sem C ifs).ts) (tV K C e) t.slots σ H Q := by
  obtain ⟨s, F, d, s', r, e0, k⟩ := h
  have e0 : compM t (sem C it).it (sem C ifs).ts (sem C e).v s = some (d, s') := e0
  unfold compM at e0
  split at e0
  · cases e0
  · rename_i ds s1 e1
    split at e0
    · rename_i hp
      split at e0
      · cases e0
      · rename_i ys s2 e2
        cases e0
        refine ⟨s, F, ds, s1, r, e1, fun J F1 H1 r1 x1 sub1 ok dd hD => ?_⟩
        have h0 : H dd = none := fresh_back x1 hD
        -- what holds at a turn
        refine ⟨fun i m H2 => ∃ (F2 : Hp) (si : S) (acc : List D) (av : List V), m = ds.length - i ∧ i ≤ ds.length ∧ compLoop t (sem C ifs).ts (sem C e).v (ds.drop i) acc si = some (ys, s2) ∧
            Rs K F2 H2 (L2.wipe σ t.slots) (wipeS si t.slots) ∧ Same F1 F2 ∧ Ext (Ad σ s) F H F2 H2 ∧ (∀ a, Ad (L2.wipe σ t.slots) (wipeS si t.slots) a → Ad σ s a) ∧ H2 dd = some (.lst av) ∧ F2 dd = none ∧ Rps K F2 av acc ∧ si.length = s1.length, ?_, ?_⟩
        · refine ⟨ds.length, F1, s1, [], [], by simp, Nat.zero_le _, e2, ?_, Same.refl, ?_, ?_, upd_same, none_sub r1.sub hD, .nil, rfl⟩
          · exact ((r1.ext (ext_new (o := .lst []) hD) (same_new r1.sub hD)).wipe t.slots).1
          · exact x1.trans (ext_new (F := F1) (o := .lst []) hD).none_ fun b z => .inl (sub1 b z)
          · exact fun a z => sub1 a ((r1.wipe t.slots).2 a z)
        · rintro i m H2 ⟨F2, si, acc, av, rfl, hi, ec, r2, sm, x2, sub2, hDv, hDf, rpa, hsl⟩
          obtain ⟨okg, oks⟩ := ok F2 H2 sm r2.sub
          by_cases hlt : i < ds.length
          · -- a turn
            have hdi : ds[i]? = some ds[i] := List.getElem?_eq_getElem hlt
            obtain ⟨hgo, hy⟩ := okg i _ hdi
            rw [List.drop_eq_getElem_cons hlt] at ec
            simp only [compLoop] at ec
            split at ec
            · cases ec
            · rename_i sb eb
              have nAD : ∀ {A : Addr → Prop}, (∀ a, A a → Ad σ s a) → ¬ A dd := fun hA z => (Ad.tracked r (hA dd z)).1 h0
              refine .inr ⟨hgo, fun H3 => ∃ m', m' < ds.length - i ∧ ∃ (F2 : Hp) (si : S) (acc : List D) (av : List V), m' = ds.length - (i + 1) ∧ i + 1 ≤ ds.length ∧ compLoop t (sem C ifs).ts (sem C e).v (ds.drop (i + 1)) acc si = some (ys, s2) ∧
                Rs K F2 H3 (L2.wipe σ t.slots) (wipeS si t.slots) ∧ Same F1 F2 ∧ Ext (Ad σ s) F H F2 H3 ∧ (∀ a, Ad (L2.wipe σ t.slots) (wipeS si t.slots) a → Ad σ s a) ∧ H3 dd = some (.lst av) ∧ F2 dd = none ∧ Rps K F2 av acc ∧ si.length = s1.length, fun H' h => h, fun x H3 yl => ?_⟩
              obtain ⟨F3, x3, sm3, rx⟩ := hy x H3 yl
              have r3 := r2.ext x3 sm3
              have hD3 : H3 dd = some (.lst av) := x3.k dd _ (fun z => z) hDv
              have hF3 : F3 dd = none := x3.z dd (fun z => z) hDf (by rw [hDv]; intro z; cases z)
              refine bind_read r3 rx eb fun σ2 rb subb wb => ⟨by rw [wb, wipe_idem], ?_⟩
              rw [wipe_idem] at wb
              have hlb : sb.length = s1.length := by
                have h1 := rb.len
                have h2 : σ2.length = (L2.wipe σ2 t.slots).length := (wipe_length _ _).symm
                rw [wb, wipe_length] at h2
                have h3 := r1.len
                omega
              have xb : Ext (Ad σ s) F H F3 H3 := x2.trans x3.none_ fun b z => .inl (sub2 b z)
              have subb' : ∀ a, Ad σ2 sb a → Ad σ s a := fun a z => sub2 a (subb a z)
              split at ec
              · cases ec
              · -- left out
                rename_i s3 ei
                refine ⟨sb, F3, false, s3, rb, ei, fun F4 H4 r4 x4 sub4 => ?_⟩
                obtain ⟨r4w, a4w⟩ := r4.wipe t.slots
                rw [wb] at r4w a4w
                have hD4 : H4 dd = some (.lst av) := x4.k dd _ (nAD subb') hD3
                have hF4 : F4 dd = none := x4.z dd (nAD subb') hF3 (by rw [hD3]; intro z; cases z)
                refine ⟨ds.length - (i + 1), by omega, F4, s3, acc, av, rfl, hlt, ec, r4w, fun b u e => x4.f b u (x3.f b u (sm b u e)), xb.trans x4 fun b z => .inl (subb' b z), fun a z => subb' a (sub4 a (a4w a z)), hD4, hF4, Rps.same x4.f (Rps.same x3.f rpa), ?_⟩
                have := r4.len; have := rb.len; omega
              · rename_i s3 ei
                split at ec
                · cases ec
                · rename_i y s4 ey
                  split at ec
                  · rename_i hz
                    refine ⟨sb, F3, true, s3, rb, ei, fun F4 H4 r4 x4 sub4 => ⟨s3, F4, y, s4, r4, ey, fun v F5 H5 r5 x5 sub5 w5 => ?_⟩⟩
                    have hD4 : H4 dd = some (.lst av) := x4.k dd _ (nAD subb') hD3
                    have hF4 : F4 dd = none := x4.z dd (nAD subb') hF3 (by rw [hD3]; intro z; cases z)
                    have sub4' : ∀ a, Ad σ2 s3 a → Ad σ s a := fun a z => subb' a (sub4 a z)
                    have hD5 : H5 dd = some (.lst av) := x5.k dd _ (nAD sub4') hD4
                    have hF5 : F5 dd = none := x5.z dd (nAD sub4') hF4 (by rw [hD4]; intro z; cases z)
                    have sub5' : ∀ a, Ad σ2 s4 a → Ad σ s a := fun a z => sub4' a (sub5 a z)
                    have x15 : Ext (Ad σ s) F H F5 H5 := (xb.trans x4 fun b z => .inl (subb' b z)).trans x5 fun b z => .inl (sub4' b z)
                    have rpa5 : Rps K F5 av acc := Rps.same x5.f (Rps.same x4.f (Rps.same x3.f rpa))
                    refine ⟨av, hD5, by rw [rpa5.length]; exact hz, ds.length - (i + 1), by omega, F5, s4, acc ++ [y], av ++ [v], rfl, hlt, ec, ?_, fun b u e => x5.f b u (x4.f b u (x3.f b u (sm b u e))), ?_, ?_, upd_same, hF5, rpa5.append (.cons w5 .nil), ?_⟩
                    · -- the new list is changed, nothing else
                      have xu : Ext (fun a => a = dd) F5 H5 F5 (upd H5 dd (.lst (av ++ [v]))) := ⟨Same.refl, fun a o n e => by rw [upd_ne n]; exact e, fun _ _ e _ => e, fun a e => upd_some e⟩
                      have r6 : Rs K F5 (upd H5 dd (.lst (av ++ [v]))) σ2 s4 := by
                        refine ⟨fun b u e => ?_, r5.len, fun j b ej => ?_, r5.dis⟩
                        · rw [upd_ne (ne_of_none e hF5)]; exact r5.sub b u e
                        · obtain ⟨w, ew, rb2⟩ := r5.at_ j b ej
                          refine ⟨w, ew, ?_⟩
                          have ne : ∀ c, w = .ref c → b.mine = true → c ≠ dd := fun c ec m z => nAD sub5' ⟨j, b, ej, m, by rw [ew, ec, z]⟩
                          cases b with
                          | val d => exact rb2
                          | own d =>
                            obtain ⟨c, rfl, hn, ob⟩ := rb2
                            exact ⟨c, rfl, hn, ob.mono Same.refl (upd_ne (ne c rfl rfl))⟩
                          | lent d =>
                            obtain ⟨c, rfl, hn, ob⟩ := rb2
                            exact ⟨c, rfl, hn, ob.mono Same.refl (upd_ne (ne c rfl rfl))⟩
                      have := (r6.wipe t.slots).1
                      rw [wb] at this
                      exact this
                    · refine ⟨x15.f, fun a o n e => ?_, x15.z, fun a e => upd_some (x15.t a e)⟩
                      have ne : a ≠ dd := fun z => by rw [z, h0] at e; cases e
                      rw [upd_ne ne]
                      exact x15.k a o n e
                    · intro a z
                      have := (r5.wipe t.slots).2
                      rw [wb] at this
                      exact sub5' a (this a z)
                    · have := r5.len; have := rb.len; omega
                  · cases ec
          · -- the end
            have ei : i = ds.length := by omega
            subst ei
            refine .inl ⟨oks _ (Nat.le_refl _), ?_⟩
            rw [List.drop_length] at ec
            cases ec
            obtain ⟨rr, ar⟩ := Rs.rest r1 sm r2 hp hsl
            refine k (.ref dd) F2 H2 rr x2 (fun a z => sub2 a (ar a z)) ?_
            exact ⟨dd, rfl, h0, hDf, av, hDv, rpa⟩
    · cases e0
end
end FC

/-! Part 13a: comprehensions with two loops. -/
namespace FC
open PySem PySem.Spec PyProof.Rows L2
section
variable {K : PySem.W.Frag} {F H : Hp} {σ : L2.St} {s : S}
theorem wipe_app : ∀ (vs ws : List Nat) (σ : L2.St), L2.wipe (L2.wipe σ ws) (vs ++ ws) = L2.wipe σ (vs ++ ws)
  | [], ws, σ => wipe_idem ws
  | v :: vs, ws, σ => by
    show (L2.wipe (L2.wipe σ ws) (vs ++ ws)).set v none = (L2.wipe σ (vs ++ ws)).set v none
    rw [wipe_app vs ws σ]
theorem wipe_in_ {i : Nat} : ∀ {vs : List Nat} {σ : L2.St}, i ∈ vs → (L2.wipe σ vs)[i]? = if i < σ.length then some none else none
  | v :: vs, σ, h => by
    show ((L2.wipe σ vs).set v none)[i]? = _
    by_cases hv : i = v
    · subst hv
      split
      · rename_i hi
        exact List.getElem?_set_self (by rw [wipe_length]; exact hi)
      · rename_i hi
        exact List.getElem?_eq_none (by rw [List.length_set, wipe_length]; omega)
    · rw [List.getElem?_set_ne (Ne.symm hv)]
      exact wipe_in_ ((List.mem_cons.mp h).resolve_left hv)
theorem wipeS_in {i : Nat} : ∀ {vs : List Nat} {s : S}, i ∈ vs → i < s.length → (wipeS s vs)[i]? = some none
  | v :: vs, s, h, hi => by
    unfold wipeS
    by_cases hv : i = v
    · subst hv
      exact List.getElem?_set_self (by rw [wipeS_len]; exact hi)
    · rw [List.getElem?_set_ne (Ne.symm hv)]
      exact wipeS_in ((List.mem_cons.mp h).resolve_left hv) hi
theorem wipeS_app (vs ws : List Nat) (s : S) : wipeS (wipeS s ws) (vs ++ ws) = wipeS s (vs ++ ws) := by
  apply List.ext_getElem?
  intro i
  by_cases hi : i < s.length
  · by_cases h : i ∈ vs ++ ws
    · rw [wipeS_in h (by rw [wipeS_len]; exact hi), wipeS_in h hi]
    · rw [wipeS_out h, wipeS_out h, wipeS_out fun z => h (List.mem_append_right _ z)]
  · rw [List.getElem?_eq_none (by rw [wipeS_len, wipeS_len]; omega), List.getElem?_eq_none (by rw [wipeS_len]; omega)]
end
/-- one loop that fills the list at dd -/
theorem loop_read {K : PySem.W.Frag} {C : Calls} {t : Tg} {e ifs : Ex} {σ : L2.St} {F1 H1 : Hp} {s1 s2 : S} {ds acc0 ys : List D} {av0 : List V} {J : It} {dd : Addr} {Nx : Hp → Prop} {A : Addr → Prop}
    (e2 : compLoop t (sem C ifs).ts (sem C e).v ds acc0 s1 = some (ys, s2)) (r1 : Rs K F1 H1 σ s1) (ok : ItOk K F1 J ds) (hA : ∀ a, Ad σ s1 a → A a) (hAd : A dd) (nA : ¬ Ad σ s1 dd) (hD : H1 dd = some (.lst av0)) (hF : F1 dd = none) (ra : Rps K F1 av0 acc0)
    (hN : ∀ (F5 H5 : Hp) (av : List V), Rs K F5 H5 (L2.wipe σ t.slots) (wipeS s2 t.slots) → Same F1 F5 → Ext A F1 H1 F5 H5 → (∀ a, Ad (L2.wipe σ t.slots) (wipeS s2 t.slots) a → Ad σ s1 a) → H5 dd = some (.lst av) → F5 dd = none → Rps K F5 av ys → s2.length = s1.length → Nx H5) :
    ∃ W : Nat → Nat → Hp → Prop, (∃ m, W 0 m H1) ∧ ∀ i m H, W i m H →
      (J.stop i H ∧ Nx H) ∨ (J.go i H ∧ ∃ Nx1 : Hp → Prop, (∀ H', Nx1 H' → ∃ m', m' < m ∧ W (i + 1) m' H') ∧ ∀ x H', J.yld i H x H' → gTg K t x (L2.wipe σ t.slots) H' fun σ2 H2 => L2.wipe σ2 t.slots = L2.wipe σ t.slots ∧ tT K (sem C ifs).ts σ2 H2 fun b H3 =>
        if b = true then tV K C e σ2 H3 fun y H4 => ∃ acc, H4 dd = some (.lst acc) ∧ acc.length < sizeLine ∧ Nx1 (upd H4 dd (.lst (acc ++ [y]))) else Nx1 H3) := by
  let I : Nat → Hp → Prop := fun i H2 => ∃ (F2 : Hp) (si : S) (acc : List D) (av : List V), i ≤ ds.length ∧ compLoop t (sem C ifs).ts (sem C e).v (ds.drop i) acc si = some (ys, s2) ∧
      Rs K F2 H2 (L2.wipe σ t.slots) (wipeS si t.slots) ∧ Same F1 F2 ∧ Ext A F1 H1 F2 H2 ∧ (∀ a, Ad (L2.wipe σ t.slots) (wipeS si t.slots) a → Ad σ s1 a) ∧ H2 dd = some (.lst av) ∧ F2 dd = none ∧ Rps K F2 av acc ∧ si.length = s1.length
  refine ⟨fun i m H2 => m = ds.length - i ∧ I i H2, ⟨ds.length, by simp, F1, s1, acc0, av0, Nat.zero_le _, e2, (r1.wipe t.slots).1, Same.refl, Ext.refl, (r1.wipe t.slots).2, hD, hF, ra, rfl⟩, ?_⟩
  rintro i m H2 ⟨rfl, F2, si, acc, av, hi, ec, r2, sm, x2, sub2, hDv, hDf, rpa, hsl⟩
  obtain ⟨okg, oks⟩ := ok F2 H2 sm r2.sub
  by_cases hlt : i < ds.length
  · have hdi : ds[i]? = some ds[i] := List.getElem?_eq_getElem hlt
    obtain ⟨hgo, hy⟩ := okg i _ hdi
    rw [List.drop_eq_getElem_cons hlt] at ec
    simp only [compLoop] at ec
    split at ec
    · cases ec
    · rename_i sb eb
      refine .inr ⟨hgo, I (i + 1), fun H' h => ⟨ds.length - (i + 1), by omega, rfl, h⟩, fun x H3 yl => ?_⟩
      obtain ⟨F3, x3, sm3, rx⟩ := hy x H3 yl
      have r3 := r2.ext x3 sm3
      have hD3 : H3 dd = some (.lst av) := x3.k dd _ (fun z => z) hDv
      have hF3 : F3 dd = none := x3.z dd (fun z => z) hDf (by rw [hDv]; intro z; cases z)
      refine bind_read r3 rx eb fun σ2 rb subb wb => ⟨by rw [wb, wipe_idem], ?_⟩
      rw [wipe_idem] at wb
      have hlb : sb.length = s1.length := by
        have h1 := rb.len
        have h2 : σ2.length = (L2.wipe σ2 t.slots).length := (wipe_length _ _).symm
        rw [wb, wipe_length] at h2
        have h3 := r1.len
        omega
      have xb : Ext A F1 H1 F3 H3 := x2.trans x3.none_ fun b z => .inl (hA b (sub2 b z))
      have subb' : ∀ a, Ad σ2 sb a → Ad σ s1 a := fun a z => sub2 a (subb a z)
      have nAD : ∀ {B : Addr → Prop}, (∀ a, B a → Ad σ s1 a) → ¬ B dd := fun hB z => nA (hB dd z)
      split at ec
      · cases ec
      · rename_i s3 ei
        refine ⟨sb, F3, false, s3, rb, ei, fun F4 H4 r4 x4 sub4 => ?_⟩
        obtain ⟨r4w, a4w⟩ := r4.wipe t.slots
        rw [wb] at r4w a4w
        have hD4 : H4 dd = some (.lst av) := x4.k dd _ (nAD subb') hD3
        have hF4 : F4 dd = none := x4.z dd (nAD subb') hF3 (by rw [hD3]; intro z; cases z)
        refine ⟨F4, s3, acc, av, hlt, ec, r4w, fun b u e => x4.f b u (x3.f b u (sm b u e)), xb.trans x4 fun b z => .inl (hA b (subb' b z)), fun a z => subb' a (sub4 a (a4w a z)), hD4, hF4, Rps.same x4.f (Rps.same x3.f rpa), ?_⟩
        have := r4.len; have := rb.len; omega
      · rename_i s3 ei
        split at ec
        · cases ec
        · rename_i y s4 ey
          split at ec
          · rename_i hz
            refine ⟨sb, F3, true, s3, rb, ei, fun F4 H4 r4 x4 sub4 => ⟨s3, F4, y, s4, r4, ey, fun v F5 H5 r5 x5 sub5 w5 => ?_⟩⟩
            have hD4 : H4 dd = some (.lst av) := x4.k dd _ (nAD subb') hD3
            have hF4 : F4 dd = none := x4.z dd (nAD subb') hF3 (by rw [hD3]; intro z; cases z)
            have sub4' : ∀ a, Ad σ2 s3 a → Ad σ s1 a := fun a z => subb' a (sub4 a z)
            have hD5 : H5 dd = some (.lst av) := x5.k dd _ (nAD sub4') hD4
            have hF5 : F5 dd = none := x5.z dd (nAD sub4') hF4 (by rw [hD4]; intro z; cases z)
            have sub5' : ∀ a, Ad σ2 s4 a → Ad σ s1 a := fun a z => sub4' a (sub5 a z)
            have x15 : Ext A F1 H1 F5 H5 := (xb.trans x4 fun b z => .inl (hA b (subb' b z))).trans x5 fun b z => .inl (hA b (sub4' b z))
            have rpa5 : Rps K F5 av acc := Rps.same x5.f (Rps.same x4.f (Rps.same x3.f rpa))
            refine ⟨av, hD5, by rw [rpa5.length]; exact hz, F5, s4, acc ++ [y], av ++ [v], hlt, ec, ?_, fun b u e => x5.f b u (x4.f b u (x3.f b u (sm b u e))), ?_, ?_, upd_same, hF5, rpa5.append (.cons w5 .nil), ?_⟩
            · have r6 : Rs K F5 (upd H5 dd (.lst (av ++ [v]))) σ2 s4 := by
                refine ⟨fun b u e => ?_, r5.len, fun j b ej => ?_, r5.dis⟩
                · rw [upd_ne (ne_of_none e hF5)]; exact r5.sub b u e
                · obtain ⟨w, ew, rb2⟩ := r5.at_ j b ej
                  refine ⟨w, ew, ?_⟩
                  have ne : ∀ c, w = .ref c → b.mine = true → c ≠ dd := fun c ec m z => nAD sub5' ⟨j, b, ej, m, by rw [ew, ec, z]⟩
                  cases b with
                  | val d => exact rb2
                  | own d =>
                    obtain ⟨c, rfl, hn, ob⟩ := rb2
                    exact ⟨c, rfl, hn, ob.mono Same.refl (upd_ne (ne c rfl rfl))⟩
                  | lent d =>
                    obtain ⟨c, rfl, hn, ob⟩ := rb2
                    exact ⟨c, rfl, hn, ob.mono Same.refl (upd_ne (ne c rfl rfl))⟩
              have := (r6.wipe t.slots).1
              rw [wb] at this
              exact this
            · refine ⟨x15.f, fun a o n e => ?_, x15.z, fun a e => upd_some (x15.t a e)⟩
              have ne : a ≠ dd := fun z => n (by rw [z]; exact hAd)
              rw [upd_ne ne]
              exact x15.k a o n e
            · intro a z
              have := (r5.wipe t.slots).2
              rw [wb] at this
              exact sub5' a (this a z)
            · have := r5.len; have := rb.len; omega
          · cases ec
  · have ei : i = ds.length := by omega
    subst ei
    refine .inl ⟨oks _ (Nat.le_refl _), ?_⟩
    rw [List.drop_length] at ec
    cases ec
    exact hN F2 H2 av r2 sm x2 sub2 hDv hDf rpa hsl
theorem comp2_read {K : PySem.W.Frag} {C : Calls} {t t1 : Tg} {it e ifs it1 ifs1 : Ex} {σ : L2.St} {H : Hp} {Q : VK} (h : tO K C (.comp2 e t it ifs t1 it1 ifs1) σ H Q) :
    tLc2 (tI K (sem C it).it) (gTg K t) (tT K (sem C ifs).ts) (tI K (sem C it1).it) (gTg K t1) (tT K (sem C ifs1).ts) (tV K C e) (t.slots ++ t1.slots) t1.slots σ H Q := by
  obtain ⟨s, F, d, s', r, e0, k⟩ := h
  have e0 : compM2 t (sem C it).it (sem C ifs).ts t1 (sem C it1).it (sem C ifs1).ts (sem C e).v s = some (d, s') := e0
  unfold compM2 at e0
  split at e0
  · cases e0
  · rename_i ds s1 e1
    split at e0
    · rename_i hp
      split at e0
      · cases e0
      · rename_i ys s2 e2
        cases e0
        refine ⟨s, F, ds, s1, r, e1, fun J F1 H1 r1 x1 sub1 ok dd hD => ?_⟩
        have h0 : H dd = none := fresh_back x1 hD
        generalize hvs : t.slots ++ t1.slots = vs at *
        refine ⟨fun i m H2 => m = ds.length - i ∧ ∃ (F2 : Hp) (si : S) (acc : List D) (av : List V), i ≤ ds.length ∧ compLoop2 vs t (sem C ifs).ts t1 (sem C it1).it (sem C ifs1).ts (sem C e).v (ds.drop i) acc si = some (ys, s2) ∧
            Rs K F2 H2 (L2.wipe σ vs) (wipeS si vs) ∧ Same F1 F2 ∧ Ext (Ad σ s) F H F2 H2 ∧ (∀ a, Ad (L2.wipe σ vs) (wipeS si vs) a → Ad σ s a) ∧ H2 dd = some (.lst av) ∧ F2 dd = none ∧ Rps K F2 av acc ∧ si.length = s1.length, ?_, ?_⟩
        · refine ⟨ds.length, by simp, F1, s1, [], [], Nat.zero_le _, e2, ?_, Same.refl, ?_, ?_, upd_same, none_sub r1.sub hD, .nil, rfl⟩
          · exact ((r1.ext (ext_new (o := .lst []) hD) (same_new r1.sub hD)).wipe vs).1
          · exact x1.trans (ext_new (F := F1) (o := .lst []) hD).none_ fun b z => .inl (sub1 b z)
          · exact fun a z => sub1 a ((r1.wipe vs).2 a z)
        · rintro i m H2 ⟨rfl, F2, si, acc, av, hi, ec, r2, sm, x2, sub2, hDv, hDf, rpa, hsl⟩
          obtain ⟨okg, oks⟩ := ok F2 H2 sm r2.sub
          by_cases hlt : i < ds.length
          · have hdi : ds[i]? = some ds[i] := List.getElem?_eq_getElem hlt
            obtain ⟨hgo, hy⟩ := okg i _ hdi
            rw [List.drop_eq_getElem_cons hlt] at ec
            simp only [compLoop2] at ec
            split at ec
            · cases ec
            · rename_i sb eb
              have nAD : ∀ {A : Addr → Prop}, (∀ a, A a → Ad σ s a) → ¬ A dd := fun hA z => (Ad.tracked r (hA dd z)).1 h0
              refine .inr ⟨hgo, fun H3 => ∃ (F2 : Hp) (si : S) (acc : List D) (av : List V), i + 1 ≤ ds.length ∧ compLoop2 vs t (sem C ifs).ts t1 (sem C it1).it (sem C ifs1).ts (sem C e).v (ds.drop (i + 1)) acc si = some (ys, s2) ∧
                Rs K F2 H3 (L2.wipe σ vs) (wipeS si vs) ∧ Same F1 F2 ∧ Ext (Ad σ s) F H F2 H3 ∧ (∀ a, Ad (L2.wipe σ vs) (wipeS si vs) a → Ad σ s a) ∧ H3 dd = some (.lst av) ∧ F2 dd = none ∧ Rps K F2 av acc ∧ si.length = s1.length, fun H' h => ⟨ds.length - (i + 1), by omega, rfl, h⟩, fun x H3 yl => ?_⟩
              obtain ⟨F3, x3, sm3, rx⟩ := hy x H3 yl
              have r3 := r2.ext x3 sm3
              have hD3 : H3 dd = some (.lst av) := x3.k dd _ (fun z => z) hDv
              have hF3 : F3 dd = none := x3.z dd (fun z => z) hDf (by rw [hDv]; intro z; cases z)
              refine bind_read r3 rx eb fun σ2 rb subb wb => ?_
              have wb' : L2.wipe σ2 vs = L2.wipe σ vs := by
                have h1 : ∀ (τ : L2.St), L2.wipe (L2.wipe τ t.slots) vs = L2.wipe τ vs := fun τ => by
                  apply List.ext_getElem?
                  intro j
                  by_cases hj : j ∈ vs
                  · have : ∀ (ρ : L2.St), (L2.wipe ρ vs)[j]? = if j < ρ.length then some none else none := fun ρ => wipe_in_ hj
                    rw [this, this, wipe_length]
                  · rw [wipe_out hj, wipe_out hj, wipe_out fun z => hj (by rw [← hvs]; exact List.mem_append_left _ z)]
                rw [← h1 σ2, wb, h1, wipe_idem]
              refine ⟨wb', ?_⟩
              have hlb : sb.length = s1.length := by
                have h1 := rb.len
                have h2 : σ2.length = (L2.wipe σ2 vs).length := (wipe_length _ _).symm
                rw [wb', wipe_length] at h2
                have h3 := r1.len
                omega
              have xb : Ext (Ad σ s) F H F3 H3 := x2.trans x3.none_ fun b z => .inl (sub2 b z)
              have subb' : ∀ a, Ad σ2 sb a → Ad σ s a := fun a z => sub2 a (subb a z)
              split at ec
              · cases ec
              · rename_i s3 ei
                refine ⟨sb, F3, false, s3, rb, ei, fun F4 H4 r4 x4 sub4 => ?_⟩
                obtain ⟨r4w, a4w⟩ := r4.wipe vs
                rw [wb'] at r4w a4w
                have hD4 : H4 dd = some (.lst av) := x4.k dd _ (nAD subb') hD3
                have hF4 : F4 dd = none := x4.z dd (nAD subb') hF3 (by rw [hD3]; intro z; cases z)
                refine ⟨F4, s3, acc, av, hlt, ec, r4w, fun b u e => x4.f b u (x3.f b u (sm b u e)), xb.trans x4 fun b z => .inl (subb' b z), fun a z => subb' a (sub4 a (a4w a z)), hD4, hF4, Rps.same x4.f (Rps.same x3.f rpa), ?_⟩
                have := r4.len; have := rb.len; omega
              · rename_i s3 ei
                split at ec
                · cases ec
                · rename_i ds1 s4 eit
                  split at ec
                  · cases ec
                  · rename_i acc' s5 el
                    refine ⟨sb, F3, true, s3, rb, ei, fun F4 H4 r4 x4 sub4 => ?_⟩
                    dsimp only
                    rw [if_pos rfl]
                    refine ⟨s3, F4, ds1, s4, r4, eit, fun J1 F5 H5 r5 x5 sub5 ok5 => ?_⟩
                    have sub4' : ∀ a, Ad σ2 s3 a → Ad σ s a := fun a z => subb' a (sub4 a z)
                    have sub5' : ∀ a, Ad σ2 s4 a → Ad σ s a := fun a z => sub4' a (sub5 a z)
                    have hD4 : H4 dd = some (.lst av) := x4.k dd _ (nAD subb') hD3
                    have hF4 : F4 dd = none := x4.z dd (nAD subb') hF3 (by rw [hD3]; intro z; cases z)
                    have hD5 : H5 dd = some (.lst av) := x5.k dd _ (nAD sub4') hD4
                    have hF5 : F5 dd = none := x5.z dd (nAD sub4') hF4 (by rw [hD4]; intro z; cases z)
                    have x15 : Ext (Ad σ s) F H F5 H5 := (xb.trans x4 fun b z => .inl (subb' b z)).trans x5 fun b z => .inl (sub4' b z)
                    have sm5 : Same F1 F5 := fun b u e => x5.f b u (x4.f b u (x3.f b u (sm b u e)))
                    refine loop_read (A := fun a => Ad σ s a ∨ a = dd) el r5 ok5 (fun a z => .inl (sub5' a z)) (.inr rfl) (nAD sub5') hD5 hF5 (Rps.same x5.f (Rps.same x4.f (Rps.same x3.f rpa))) fun F6 H6 av6 r6 sm6 x6 sub6 hD6 hF6 rp6 hl6 => ?_
                    obtain ⟨r6w, a6w⟩ := r6.wipe vs
                    rw [← hvs] at r6w a6w
                    rw [wipe_app, wipeS_app] at r6w a6w
                    rw [hvs, wb'] at r6w a6w
                    refine ⟨F6, s5, acc', av6, hlt, ec, r6w, fun b u e => sm6 b u (sm5 b u e), ?_, fun a z => sub5' a (sub6 a (a6w a z)), hD6, hF6, rp6, ?_⟩
                    · refine x15.trans x6 fun b z => ?_
                      rcases z with z | z
                      · exact .inl z
                      · exact .inr (by rw [z]; exact h0)
                    · have := r5.len; have := rb.len; omega
          · have ei : i = ds.length := by omega
            subst ei
            refine .inl ⟨oks _ (Nat.le_refl _), ?_⟩
            rw [List.drop_length] at ec
            cases ec
            obtain ⟨rr, ar⟩ := Rs.rest r1 sm r2 hp hsl
            refine k (.ref dd) F2 H2 rr x2 (fun a z => sub2 a (ar a z)) ?_
            exact ⟨dd, rfl, h0, hDf, av, hDv, rpa⟩
    · cases e0
end FC

/-! Part 14: calls of the text's own defs. -/
namespace FC
open PySem PySem.Spec PyProof.Rows L2
def InR (K : PySem.W.Frag) (F H : Hp) : List V → List Bool → List D → Prop
  | [], [], [] => True
  | v :: vs, false :: ms, d :: ds => Rp K F v d ∧ InR K F H vs ms ds
  | v :: vs, true :: ms, d :: ds => (∃ a, v = .ref a ∧ F a = none ∧ Ob K F H a d) ∧ InR K F H vs ms ds
  | _, _, _ => False
def BackR (K : PySem.W.Frag) (F H : Hp) : List V → List Bool → List D → Prop
  | [], [], [] => True
  | _ :: vs, false :: ms, ls => BackR K F H vs ms ls
  | v :: vs, true :: ms, d :: ls => (∃ a, v = .ref a ∧ F a = none ∧ Ob K F H a d) ∧ BackR K F H vs ms ls
  | _, _, _ => False
def AdV (vs : List V) (ms : List Bool) (a : Addr) : Prop := ∃ i : Nat, ms[i]? = some true ∧ vs[i]? = some (.ref a)
def DisV (vs : List V) (ms : List Bool) : Prop := ∀ (i j : Nat) (a : Addr), ms[i]? = some true → ms[j]? = some true → vs[i]? = some (.ref a) → vs[j]? = some (.ref a) → i = j
/-- what a def promises -/
def spF (K : PySem.W.Frag) (C : Calls) (f : Nat) (sg : Sig) : Sp := fun vs H Q _ =>
  ∃ (F : Hp) (ds : List D) (r : D) (ls : List D), Same F H ∧ vs.length = sg.ps.length ∧ InR K F H vs sg.modes ds ∧ DisV vs sg.modes ∧ C f ds = some (r, ls) ∧
    ∀ (v : V) (F' H' : Hp), Same F' H' → Ext (AdV vs sg.modes) F H F' H' → BackR K F' H' vs sg.modes ls →
      (if sg.own = true then (newObj r = true ∧ ∃ a, v = V.ref a ∧ H a = none ∧ F' a = none ∧ Ob K F' H' a r) else Rp K F' v r) → Q v H'
def arKind : Ar → Option Bool
  | .pl _ => none
  | .ln _ => some true
  | .vl _ => some false
  | .ow _ => some true
theorem a_kind {C : Calls} {e : Ex} {s s' : S} {a : Ar} (h : (sem C e).a s = some (a, s')) : arKind a = modeOf e ∧ (∀ i, a = .ln i → lendOf e = some i) := by
  have vl : ∀ {m : M D}, bnd m (fun d => gives (Ar.vl d)) s = some (a, s') → arKind a = some false ∧ ∀ i, a ≠ .ln i := fun {m} hm => by
    obtain ⟨d, s1, _, e2⟩ := bnd_some hm
    cases e2
    exact ⟨rfl, fun i z => by cases z⟩
  have vl2 : ∀ {m : M D}, bnd m (fun d => gives (Ar.vl d)) s = some (a, s') → some false = modeOf e → arKind a = modeOf e ∧ (∀ i, a = .ln i → lendOf e = some i) := fun hm he => by
    obtain ⟨h1, h2⟩ := vl hm
    exact ⟨h1.trans he, fun i z => absurd z (h2 i)⟩
  cases e with
  | pk i =>
    have h : slotA (.pl i) s = some (a, s') := h
    unfold slotA at h
    split at h <;> cases h
    exact ⟨rfl, fun i z => by cases z⟩
  | lend i =>
    have h : slotA (.ln i) s = some (a, s') := h
    unfold slotA at h
    split at h <;> cases h
    exact ⟨rfl, fun i z => by cases z; rfl⟩
  | give x =>
    have h : bnd (sem C x).v (fun d => if newObj d then gives (Ar.ow d) else fails) s = some (a, s') := h
    obtain ⟨d, s1, _, e2⟩ := bnd_some h
    split at e2 <;> cases e2
    exact ⟨rfl, fun i z => by cases z⟩
  | con d => exact vl2 (m := gives d) h rfl
  | glob y d => exact vl2 (m := gives d) h rfl
  | nil => cases h
  | nev => cases h
  | cons _ _ => cases h
  | itOf _ => cases h
  | itRange _ => cases h
  | itEnum _ => cases h
  | itZip _ => cases h
  | _ => exact vl2 h rfl
theorem as_kinds {C : Calls} : ∀ {es : Ex} {s s' : S} {l : List Ar}, (sem C es).as s = some (l, s') → l.map arKind = (listE es).map modeOf ∧ ∀ (k i : Nat), l[k]? = some (.ln i) → ∃ e, (listE es)[k]? = some e ∧ lendOf e = some i
  | .nil, s, s', l, h => by cases h; exact ⟨rfl, fun k i e => by simp at e⟩
  | .cons x es, s, s', l, h => by
    have h : bnd (sem C x).a (fun x => bnd (sem C es).as fun l => gives (x :: l)) s = some (l, s') := h
    obtain ⟨a, s1, e1, f1⟩ := bnd_some h
    obtain ⟨l1, s2, e2, f2⟩ := bnd_some f1
    cases f2
    obtain ⟨k1, k2⟩ := a_kind e1
    obtain ⟨k3, k4⟩ := as_kinds e2
    refine ⟨by simp only [listE, List.map_cons, k1, k3], fun k i e => ?_⟩
    cases k with
    | zero => cases e; exact ⟨x, rfl, k2 i rfl⟩
    | succ k => exact k4 k i (by simpa using e)
  | .con _, _, _, _, h => by cases h
  | .glob _ _, _, _, _, h => by cases h
  | .var _, _, _, _, h => by cases h
  | .pk _, _, _, _, h => by cases h
  | .lend _, _, _, _, h => by cases h
  | .give _, _, _, _, h => by cases h
  | .op _ _, _, _, _, h => by cases h
  | .not _, _, _, _, h => by cases h
  | .and _ _, _, _, _, h => by cases h
  | .or _ _, _, _, _, h => by cases h
  | .chain .., _, _, _, h => by cases h
  | .ife .., _, _, _, h => by cases h
  | .tup _, _, _, _, h => by cases h
  | .lst _, _, _, _, h => by cases h
  | .call .., _, _, _, h => by cases h
  | .mt .., _, _, _, h => by cases h
  | .sl2 .., _, _, _, h => by cases h
  | .mu .., _, _, _, h => by cases h
  | .comp .., _, _, _, h => by cases h
  | .itOf _, _, _, _, h => by cases h
  | .itRange _, _, _, _, h => by cases h
  | .itEnum _, _, _, _, h => by cases h
  | .itZip _, _, _, _, h => by cases h

/-- relations while lent slots come back -/
structure RsP (K : PySem.W.Frag) (F H : Hp) (σ : L2.St) (s : S) (P : Nat → Prop) : Prop where
  sub : Same F H
  len : σ.length = s.length
  at_ : ∀ (i : Nat) (b : B), s[i]? = some (some b) → ¬ P i → ∃ v, σ[i]? = some (some v) ∧ RB K F H v b
  dis : ∀ (i j : Nat) (b c : B) (a : Addr), s[i]? = some (some b) → s[j]? = some (some c) → b.mine = true → c.mine = true → σ[i]? = some (some (.ref a)) → σ[j]? = some (some (.ref a)) → i = j
theorem back_ok {K : PySem.W.Frag} {F H : Hp} {σ : L2.St} : ∀ {l : List Ar} {vs : List V} {ms : List Bool} {ls : List D} {s s' : S}, l.map arKind = ms.map some → (∀ (k i : Nat), l[k]? = some (.ln i) → ∃ v, vs[k]? = some v ∧ σ[i]? = some (some v)) →
    RsP K F H σ s (fun j => ∃ k : Nat, l[k]? = some (.ln j)) → BackR K F H vs ms ls → backS l ls s = some s' → Rs K F H σ s' ∧ ∀ a, Ad σ s' a → Ad σ s a
  | [], vs, ms, ls, s, s', hk, hv, r, hb, e => by
    cases ms with
    | nil =>
      cases vs with
      | nil =>
        cases ls with
        | nil => cases e; exact ⟨⟨r.sub, r.len, fun i b eb => r.at_ i b eb (fun ⟨k, z⟩ => by simp at z), r.dis⟩, fun _ z => z⟩
        | cons _ _ => exact hb.elim
      | cons _ _ => exact hb.elim
    | cons _ _ => cases hk
  | x :: l, vs, ms, ls, s, s', hk, hv, r, hb, e => by
    cases ms with
    | nil => cases hk
    | cons m ms =>
      simp only [List.map_cons, List.cons.injEq] at hk
      obtain ⟨hk1, hk2⟩ := hk
      cases vs with
      | nil => cases m <;> exact hb.elim
      | cons v vs =>
        have hv' : ∀ (k i : Nat), l[k]? = some (.ln i) → ∃ w, vs[k]? = some w ∧ σ[i]? = some (some w) := fun k i e => by
          obtain ⟨w, h1, h2⟩ := hv (k + 1) i (by simpa using e)
          exact ⟨w, by simpa using h1, h2⟩
        have skip : (∀ i, x ≠ .ln i) → RsP K F H σ s (fun j => ∃ k : Nat, l[k]? = some (.ln j)) := fun hx =>
          ⟨r.sub, r.len, fun i b eb np => r.at_ i b eb fun ⟨k, z⟩ => by
            cases k with
            | zero => cases z; exact hx i rfl
            | succ k => exact np ⟨k, by simpa using z⟩, r.dis⟩
        cases x with
        | pl i => cases hk1
        | vl d =>
          cases hk1
          exact back_ok hk2 hv' (skip fun i z => by cases z) hb e
        | ow d =>
          cases hk1
          cases ls with
          | nil => exact hb.elim
          | cons d' ls => exact back_ok hk2 hv' (skip fun i z => by cases z) hb.2 e
        | ln i =>
          cases hk1
          cases ls with
          | nil => exact hb.elim
          | cons d' ls =>
            obtain ⟨⟨a, rfl, hf, ob⟩, hb⟩ := hb
            simp only [backS] at e
            split at e
            · rename_i s1 em
              obtain ⟨b, eb, m, rfl⟩ := mutS_some em
              obtain ⟨w, hw1, hw2⟩ := hv 0 i rfl
              cases hw1
              have hi : i < s.length := (List.getElem?_eq_some_iff.mp eb).1
              have back : ∀ {j : Nat} {c : B}, (s.set i (some (b.put d')))[j]? = some (some c) → c.mine = true → ∃ c', s[j]? = some (some c') ∧ c'.mine = true := fun {j c} ej mj => by
                rcases set_back hi ej with ⟨rfl, rfl⟩ | ⟨nj, ej⟩
                · exact ⟨b, eb, m⟩
                · exact ⟨c, ej, mj⟩
              have r1 : RsP K F H σ (s.set i (some (b.put d'))) (fun j => ∃ k : Nat, l[k]? = some (.ln j)) := by
                refine ⟨r.sub, by rw [List.length_set]; exact r.len, fun j c ej np => ?_, fun j k c d a' e1 e2 m1 m2 e3 e4 => ?_⟩
                · rcases set_back hi ej with ⟨rfl, rfl⟩ | ⟨nj, ej⟩
                  · refine ⟨.ref a, hw2, ?_⟩
                    cases b with
                    | val d => cases m
                    | own d => exact ⟨a, rfl, hf, ob⟩
                    | lent d => exact ⟨a, rfl, hf, ob⟩
                  · refine r.at_ j c ej fun ⟨k, z⟩ => ?_
                    cases k with
                    | zero => cases z; exact nj rfl
                    | succ k => exact np ⟨k, by simpa using z⟩
                · obtain ⟨c', f1, n1⟩ := back e1 m1
                  obtain ⟨d'', f2, n2⟩ := back e2 m2
                  exact r.dis j k c' d'' a' f1 f2 n1 n2 e3 e4
              obtain ⟨r2, a2⟩ := back_ok hk2 hv' r1 hb e
              refine ⟨r2, fun c z => ?_⟩
              obtain ⟨j, d, ej, mj, evj⟩ := a2 c z
              obtain ⟨d'', f, n⟩ := back ej mj
              exact ⟨j, d'', f, n, evj⟩
            · cases e
end FC

/-! Part 15: calls in the text. -/
namespace FC
open PySem PySem.Spec PyProof.Rows L2
def pick {α : Type} (perm : List Nat) (l : List α) : List α := perm.filterMap (l[·]?)
structure CallOk (X : Cx) (C : Calls) (f : Nat) (sg : Sig) : Prop where
  ok : ∃ (k : Nat) (ad : Addr) (fd : FuncData), FnOk X.prog X.w X.K X.mg X.base CX0 k ad fd sg.ps (spF X.K C f sg) ∧ Room k X.A ∧ X.mg sg.name = some (.ref ad) ∧ PySem.W.keepIn X.K (.ref ad) = true ∧ Binds X.K fd sg.ps [] ∧
    ∀ t ∈ sg.kws, KBn X.K fd sg.ps t.1 t.2.1 (fun us ws => pick t.2.2 (us ++ ws)) (fun vs zs => pick t.2.2 (vs ++ zs))
theorem permL_pick {α : Type} : ∀ {perm : List Nat} {l l' : List α}, permL perm l = some l' → l' = pick perm l ∧ l'.length = perm.length
  | [], l, l', h => by
    simp only [permL, List.mapM_nil] at h
    cases h
    exact ⟨rfl, rfl⟩
  | i :: perm, l, l', h => by
    have h : (i :: perm).mapM (fun i => l[i]?) = some l' := h
    rw [List.mapM_cons] at h
    cases e1 : l[i]? with
    | none => rw [e1] at h; cases h
    | some a =>
      rw [e1] at h
      cases e2 : perm.mapM (fun i => l[i]?) with
      | none => rw [e2] at h; cases h
      | some r =>
        rw [e2] at h
        cases h
        obtain ⟨h1, h2⟩ := permL_pick (perm := perm) (l := l) (l' := r) e2
        refine ⟨?_, by simp [h2]⟩
        show a :: r = pick (i :: perm) l
        unfold pick
        rw [List.filterMap_cons, e1]
        show a :: r = a :: pick perm l
        rw [← h1]
theorem pick_get {α : Type} : ∀ {perm : List Nat} {l l' : List α} {j i : Nat}, permL perm l = some l' → perm[j]? = some i → l'[j]? = l[i]?
  | [], _, _, _, _, _, e => by simp at e
  | p :: perm, l, l', j, i, h, e => by
    have h : (p :: perm).mapM (fun i => l[i]?) = some l' := h
    rw [List.mapM_cons] at h
    cases e1 : l[p]? with
    | none => rw [e1] at h; cases h
    | some a =>
      rw [e1] at h
      cases e2 : perm.mapM (fun i => l[i]?) with
      | none => rw [e2] at h; cases h
      | some r =>
        rw [e2] at h
        cases h
        cases j with
        | zero => cases e; simp [e1]
        | succ j => simpa using pick_get (perm := perm) (l := l) (l' := r) e2 (by simpa using e)
theorem permL_same {α β : Type} : ∀ {perm : List Nat} {l : List α} {m : List β} {l' : List α}, permL perm l = some l' → l.length = m.length → ∃ m', permL perm m = some m'
  | [], _, _, _, _, _ => ⟨[], rfl⟩
  | p :: perm, l, m, l', h, hl => by
    have h : (p :: perm).mapM (fun i => l[i]?) = some l' := h
    rw [List.mapM_cons] at h
    cases e1 : l[p]? with
    | none => rw [e1] at h; cases h
    | some a =>
      rw [e1] at h
      cases e2 : perm.mapM (fun i => l[i]?) with
      | none => rw [e2] at h; cases h
      | some r =>
        obtain ⟨m', h2⟩ := permL_same (perm := perm) (l := l) (m := m) (l' := r) e2 hl
        have hp : p < m.length := by rw [← hl]; exact (List.getElem?_eq_some_iff.mp e1).1
        refine ⟨m[p] :: m', ?_⟩
        show (p :: perm).mapM (fun i => m[i]?) = some _
        have h2 : perm.mapM (fun i => m[i]?) = some m' := h2
        rw [List.mapM_cons, List.getElem?_eq_getElem hp, h2]
        rfl
theorem inR_of {K : PySem.W.Frag} {F H : Hp} : ∀ {vs : List V} {ms : List Bool} {ds : List D}, vs.length = ms.length → ds.length = ms.length →
    (∀ (j : Nat) (v : V) (m : Bool) (d : D), vs[j]? = some v → ms[j]? = some m → ds[j]? = some d → if m = true then (∃ a, v = .ref a ∧ F a = none ∧ Ob K F H a d) else Rp K F v d) → InR K F H vs ms ds
  | [], [], [], _, _, _ => trivial
  | v :: vs, m :: ms, d :: ds, h1, h2, h => by
    have hr := inR_of (K := K) (F := F) (H := H) (vs := vs) (ms := ms) (ds := ds) (by simpa using h1) (by simpa using h2) fun j w n e k1 k2 k3 => h (j + 1) w n e (by simpa using k1) (by simpa using k2) (by simpa using k3)
    have h0 := h 0 v m d rfl rfl rfl
    cases m with
    | true => rw [if_pos rfl] at h0; exact ⟨h0, hr⟩
    | false => rw [if_neg Bool.false_ne_true] at h0; exact ⟨h0, hr⟩
  | [], _ :: _, _, h, _, _ => by simp at h
  | _ :: _, [], _, h, _, _ => by simp at h
  | [], [], _ :: _, _, h, _ => by simp at h
  | _ :: _, _ :: _, [], _, h, _ => by simp at h
theorem resAs_get {s : S} : ∀ {l : List Ar} {ds : List D} {j : Nat} {a : Ar}, resAs s l = some ds → l[j]? = some a → ∃ d, ds[j]? = some d ∧ resA s a = some d
  | [], _, _, _, _, e => by simp at e
  | x :: l, ds, j, a, h, e => by
    unfold resAs at h
    split at h
    · rename_i d ds' e1 e2
      cases h
      cases j with
      | zero => cases e; exact ⟨d, rfl, e1⟩
      | succ j =>
        obtain ⟨d', h1, h2⟩ := resAs_get e2 (by simpa using e)
        exact ⟨d', by simpa using h1, h2⟩
    · cases h
theorem resAs_len {s : S} : ∀ {l : List Ar} {ds : List D}, resAs s l = some ds → ds.length = l.length
  | [], ds, h => by cases h; rfl
  | x :: l, ds, h => by
    unfold resAs at h
    split at h
    · rename_i d ds' e1 e2
      cases h
      rw [List.length_cons, List.length_cons, resAs_len e2]
    · cases h
theorem ln_uniq {es : Ex} (hn : ((listE es).filterMap lendOf).Nodup) : ∀ {k k' i : Nat} {e e' : Ex}, (listE es)[k]? = some e → (listE es)[k']? = some e' → lendOf e = some i → lendOf e' = some i → k = k' := by
  generalize listE es = l at hn
  induction l with
  | nil => intro k k' i e e' h; simp at h
  | cons x l ih =>
    intro k k' i e e' h1 h2 h3 h4
    have mem : ∀ {k : Nat} {e : Ex}, l[k]? = some e → lendOf e = some i → i ∈ l.filterMap lendOf := fun h1 h3 => List.mem_filterMap.mpr ⟨_, List.mem_of_getElem? h1, h3⟩
    cases hx : lendOf x with
    | none =>
      rw [List.filterMap_cons, hx] at hn
      cases k with
      | zero => cases h1; rw [hx] at h3; cases h3
      | succ k =>
        cases k' with
        | zero => cases h2; rw [hx] at h4; cases h4
        | succ k' =>
          have := ih hn (k := k) (k' := k') (by simpa using h1) (by simpa using h2) h3 h4
          omega
    | some z =>
      rw [List.filterMap_cons, hx] at hn
      have hn' : z ∉ l.filterMap lendOf ∧ (l.filterMap lendOf).Nodup := List.nodup_cons.mp hn
      cases k with
      | zero =>
        cases h1
        rw [hx] at h3
        cases h3
        cases k' with
        | zero => rfl
        | succ k' => exact absurd (mem (by simpa using h2) h4) hn'.1
      | succ k =>
        cases k' with
        | zero =>
          cases h2
          rw [hx] at h4
          cases h4
          exact absurd (mem (by simpa using h1) h3) hn'.1
        | succ k' =>
          have := ih hn'.2 (k := k) (k' := k') (by simpa using h1) (by simpa using h2) h3 h4
          omega
section
variable {X : Cx} {Γ : Gam} {q : Scp} {C : Calls}
theorem callM_some {f : Nat} {perm : List Nat} {as : M (List Ar)} {s s' : S} {r : D} (h : callM C f perm as s = some (r, s')) : ∃ l l' s1 ds ls, as s = some (l, s1) ∧ permL perm l = some l' ∧ resAs s1 l' = some ds ∧ C f ds = some (r, ls) ∧ backS l' ls s1 = some s' := by
  unfold callM at h
  obtain ⟨l, s1, e1, f1⟩ := bnd_some h
  split at f1
  · cases f1
  · rename_i l' e2
    split at f1
    · cases f1
    · rename_i ds e3
      split at f1
      · cases f1
      · rename_i rr ls e4
        split at f1
        · cases f1
        · rename_i s2 e5
          cases f1
          exact ⟨l, l', s1, ds, ls, e1, e2, e3, e4, e5⟩
/-- the arguments stand, the promise is asked -/
theorem call_read {K : PySem.W.Frag} {f : Nat} {sg : Sig} {perm : List Nat} {es : Ex} {σ : L2.St} {H : Hp} {Q : VK} {R : Hp → Hp → L2.St → Hp → V → D → Prop}
    (hm : perm.map (fun i => ((listE es)[i]?).bind modeOf) = sg.modes.map some) (hps : sg.ps.length = sg.modes.length) (hn : ((listE es).filterMap lendOf).Nodup) (hpn : perm.Nodup)
    (hR : ∀ F' H' H0 v d, (if sg.own = true then (newObj d = true ∧ ∃ a, v = V.ref a ∧ H0 a = none ∧ F' a = none ∧ Ob K F' H' a d) else Rp K F' v d) → R F' H' σ H0 v d)
    (h : tG K (callM C f perm (sem C es).as) R σ H Q) : tAs K C es σ H fun vs H2 => vs.length = (listE es).length ∧ spF K C f sg (pick perm vs) H2 Q E0 := by
  obtain ⟨s, F, d, s', r, e, k⟩ := h
  obtain ⟨l, l', s1, ds, ls, e1, e2, e3, e4, e5⟩ := callM_some e
  obtain ⟨kd1, kd2⟩ := as_kinds e1
  refine as_read es r e1 fun vs F2 H2 r2 x2 sub2 arrs => ?_
  have hll : l.length = (listE es).length := by
    have := congrArg List.length kd1
    simpa using this
  refine ⟨by rw [arrs.len, hll], ?_⟩
  obtain ⟨vs', ev⟩ := permL_same (m := vs) e2 arrs.len.symm
  obtain ⟨epick, elen⟩ := permL_pick ev
  rw [← epick]
  have ll' : l'.length = perm.length := (permL_pick e2).2
  have pm : perm.length = sg.modes.length := by
    have := congrArg List.length hm
    simpa using this
  -- kinds in the order of the parameters
  have kl' : l'.map arKind = sg.modes.map some := by
    rw [← hm]
    apply List.ext_getElem?
    intro j
    rw [List.getElem?_map, List.getElem?_map]
    cases ep : perm[j]? with
    | none =>
      have : l'[j]? = none := List.getElem?_eq_none (by rw [ll']; exact List.getElem?_eq_none_iff.mp ep)
      rw [this]
      rfl
    | some i =>
      rw [pick_get e2 ep]
      have hj : j < l'.length := by rw [ll']; exact (List.getElem?_eq_some_iff.mp ep).1
      have hli : l[i]? ≠ none := by
        rw [← pick_get e2 ep, List.getElem?_eq_getElem hj]
        intro z; cases z
      have k0 : (l.map arKind)[i]? = ((listE es).map modeOf)[i]? := by rw [kd1]
      rw [List.getElem?_map, List.getElem?_map] at k0
      cases el : l[i]? with
      | none => exact absurd el hli
      | some a =>
        rw [el] at k0
        cases ee : (listE es)[i]? with
        | none => rw [ee] at k0; cases k0
        | some x =>
          rw [ee] at k0
          have hk : arKind a = modeOf x := Option.some.inj k0
          show some (arKind a) = some (Option.bind ((listE es)[i]?) modeOf)
          rw [ee, hk]
          rfl
  -- the place of a parameter's argument
  have place : ∀ {j : Nat} {v : V} {a : Ar}, vs'[j]? = some v → l'[j]? = some a → ∃ i, perm[j]? = some i ∧ vs[i]? = some v ∧ l[i]? = some a := fun {j v a} h1 h2 => by
    have hj : j < perm.length := by rw [← ll']; exact (List.getElem?_eq_some_iff.mp h2).1
    have ep : perm[j]? = some perm[j] := List.getElem?_eq_getElem hj
    exact ⟨perm[j], ep, by rw [← pick_get ev ep]; exact h1, by rw [← pick_get e2 ep]; exact h2⟩
  have arAt : ∀ {j : Nat} {v : V} {a : Ar}, vs'[j]? = some v → l'[j]? = some a → ArR K F2 H2 σ H v a := fun {j v a} h1 h2 => by
    obtain ⟨i, _, h3, h4⟩ := place h1 h2
    exact arrs.at_ i v a h3 h4
  have kindAt : ∀ {j : Nat} {a : Ar} {m : Bool}, l'[j]? = some a → sg.modes[j]? = some m → arKind a = some m := fun {j a m} h1 h2 => by
    have : (l'.map arKind)[j]? = (sg.modes.map some)[j]? := by rw [kl']
    rw [List.getElem?_map, List.getElem?_map, h1, h2] at this
    simpa using this
  have lenv : vs'.length = sg.modes.length := elen.trans pm
  have lv : vs'.length = l'.length := by rw [lenv, ll', pm]
  -- a lent argument's address
  have lentAt : ∀ {j : Nat} {v : V} {a : Ar} {d : D}, vs'[j]? = some v → l'[j]? = some a → sg.modes[j]? = some true → resA s1 a = some d → ∃ c, v = .ref c ∧ F2 c = none ∧ Ob K F2 H2 c d ∧ (Ad σ s1 c ∨ H c = none) := fun {j v a d} h1 h2 h3 h4 => by
    have ka := kindAt h2 h3
    have ar := arAt h1 h2
    cases a with
    | pl i => cases ka
    | vl d => cases ka
    | ln i =>
      obtain ⟨b, eb, mb, ed⟩ := ln_some h4
      obtain ⟨w, ew, rb⟩ := r2.at_ i b eb
      have ar : σ[i]? = some (some v) := ar
      rw [ar] at ew
      cases ew
      obtain ⟨c, ec, hf, ob⟩ := rb.mineAt mb
      rw [ed] at ob
      exact ⟨c, ec, hf, ob, .inl ⟨i, b, eb, mb, by rw [← ec]; exact ar⟩⟩
    | ow d' =>
      cases h4
      obtain ⟨_, c, ec, h0, hf, ob⟩ := ar
      exact ⟨c, ec, hf, ob, .inr h0⟩
  have adv : ∀ c, AdV vs' sg.modes c → Ad σ s c ∨ H c = none := fun c ⟨j, hj1, hj2⟩ => by
    have hj : j < l'.length := by rw [← lv]; exact (List.getElem?_eq_some_iff.mp hj2).1
    obtain ⟨dd, _, h4⟩ := resAs_get e3 (List.getElem?_eq_getElem hj)
    obtain ⟨c', ec, _, _, h5⟩ := lentAt hj2 (List.getElem?_eq_getElem hj) hj1 h4
    cases ec
    rcases h5 with h5 | h5
    · exact .inl (sub2 c h5)
    · exact .inr h5
  refine ⟨F2, ds, d, ls, r2.sub, by rw [lenv, hps], inR_of lenv (by rw [resAs_len e3, ← lv, lenv]) fun j v m dd h1 h2 h3 => ?_, fun i j a hi hj hvi hvj => ?_, e4, fun v F' H' sm xc hb hv => ?_⟩
  · have hj : j < l'.length := by rw [← lv]; exact (List.getElem?_eq_some_iff.mp h1).1
    have hl := List.getElem?_eq_getElem hj
    obtain ⟨d2, h5, h4⟩ := resAs_get e3 hl
    rw [h3] at h5
    cases h5
    cases m with
    | true =>
      rw [if_pos rfl]
      obtain ⟨c, ec, hf, ob, _⟩ := lentAt h1 hl h2 h4
      exact ⟨c, ec, hf, ob⟩
    | false =>
      rw [if_neg Bool.false_ne_true]
      have ka := kindAt hl h2
      have ar := arAt h1 hl
      generalize l'[j] = a at ka ar h4
      cases a with
      | pl i => cases ka
      | ln i => cases ka
      | ow d => cases ka
      | vl d => cases h4; exact ar
  · -- lent arguments stand apart
    have hi' : i < l'.length := by rw [← lv]; exact (List.getElem?_eq_some_iff.mp hvi).1
    have hj' : j < l'.length := by rw [← lv]; exact (List.getElem?_eq_some_iff.mp hvj).1
    have hli := List.getElem?_eq_getElem hi'
    have hlj := List.getElem?_eq_getElem hj'
    obtain ⟨pi, ep1, ev1, el1⟩ := place hvi hli
    obtain ⟨pj, ep2, ev2, el2⟩ := place hvj hlj
    have same : pi = pj := by
      have ki := kindAt hli hi
      have kj := kindAt hlj hj
      have ari := arAt hvi hli
      have arj := arAt hvj hlj
      obtain ⟨di, _, rdi⟩ := resAs_get e3 hli
      obtain ⟨dj, _, rdj⟩ := resAs_get e3 hlj
      have ti := lentAt hvi hli hi rdi
      have tj := lentAt hvj hlj hj rdj
      generalize l'[i] = ai at ki ari el1 rdi
      generalize l'[j] = aj at kj arj el2 rdj
      cases ai with
      | pl _ => cases ki
      | vl _ => cases ki
      | ln x =>
        obtain ⟨bi, ebi, mbi, _⟩ := ln_some rdi
        cases aj with
        | pl _ => cases kj
        | vl _ => cases kj
        | ln y =>
          obtain ⟨bj, ebj, mbj, _⟩ := ln_some rdj
          have exy : x = y := r2.dis x y bi bj a ebi ebj mbi mbj ari arj
          subst exy
          obtain ⟨x1, g1, g2⟩ := kd2 _ _ el1
          obtain ⟨x2, g3, g4⟩ := kd2 _ _ el2
          exact ln_uniq hn g1 g3 g2 g4
        | ow d =>
          obtain ⟨_, c, ec, h0, _⟩ := arj
          cases ec
          exact absurd h0 (Ad.tracked r (sub2 a ⟨x, bi, ebi, mbi, ari⟩)).1
      | ow d =>
        obtain ⟨_, c, ec, h0, _⟩ := ari
        cases ec
        cases aj with
        | pl _ => cases kj
        | vl _ => cases kj
        | ln y =>
          obtain ⟨bj, ebj, mbj, _⟩ := ln_some rdj
          exact absurd h0 (Ad.tracked r (sub2 a ⟨y, bj, ebj, mbj, arj⟩)).1
        | ow d' => exact arrs.dis pi pj a d d' ev1 el1 ev2 el2
    subst same
    have h1 : i < perm.length := (List.getElem?_eq_some_iff.mp ep1).1
    have h2 : j < perm.length := (List.getElem?_eq_some_iff.mp ep2).1
    exact (List.getElem_inj hpn).mp ((List.getElem?_eq_some_iff.mp ep1).2.trans (List.getElem?_eq_some_iff.mp ep2).2.symm)
  · -- behind the call
    have rp : RsP K F' H' σ s1 (fun j => ∃ k : Nat, l'[k]? = some (.ln j)) := by
      refine ⟨sm, r2.len, fun j b eb np => ?_, r2.dis⟩
      obtain ⟨w, ew, rb⟩ := r2.at_ j b eb
      refine ⟨w, ew, ?_⟩
      have far : ∀ c, w = .ref c → b.mine = true → ¬ AdV vs' sg.modes c := fun c ec mb ⟨i, hi, hv2⟩ => by
        have hi' : i < l'.length := by rw [← lv]; exact (List.getElem?_eq_some_iff.mp hv2).1
        have hli := List.getElem?_eq_getElem hi'
        have ki := kindAt hli hi
        have ari := arAt hv2 hli
        obtain ⟨di, _, rdi⟩ := resAs_get e3 hli
        have np' : ∀ x, l'[i] ≠ .ln x ∨ x ≠ j := fun x => by
          by_cases hx : x = j
          · exact .inl fun z => np ⟨i, by rw [hli, z, hx]⟩
          · exact .inr hx
        generalize l'[i] = ai at ki ari rdi np'
        cases ai with
        | pl _ => cases ki
        | vl _ => cases ki
        | ln x =>
          obtain ⟨bi, ebi, mbi, _⟩ := ln_some rdi
          have exy : x = j := r2.dis x j bi b c ebi eb mbi mb ari (by rw [← ec]; exact ew)
          rcases np' x with z | z
          · exact z rfl
          · exact z exy
        | ow d =>
          obtain ⟨_, c', ec', h0, _⟩ := ari
          cases ec'
          exact (Ad.tracked r (sub2 c ⟨j, b, eb, mb, by rw [← ec]; exact ew⟩)).1 h0
      cases b with
      | val d => exact Rp.same xc.f rb
      | own d =>
        obtain ⟨c, rfl, hf, ob⟩ := rb
        obtain ⟨o, eo⟩ := ob.has
        exact ⟨c, rfl, xc.z c (far c rfl rfl) hf (by rw [eo]; intro z; cases z), ob.mono xc.f (by rw [xc.k c o (far c rfl rfl) eo, eo])⟩
      | lent d =>
        obtain ⟨c, rfl, hf, ob⟩ := rb
        obtain ⟨o, eo⟩ := ob.has
        exact ⟨c, rfl, xc.z c (far c rfl rfl) hf (by rw [eo]; intro z; cases z), ob.mono xc.f (by rw [xc.k c o (far c rfl rfl) eo, eo])⟩
    have hvl : ∀ (k i : Nat), l'[k]? = some (.ln i) → ∃ v, vs'[k]? = some v ∧ σ[i]? = some (some v) := fun k i el => by
      have hk : k < vs'.length := by rw [lv]; exact (List.getElem?_eq_some_iff.mp el).1
      exact ⟨vs'[k], List.getElem?_eq_getElem hk, arAt (List.getElem?_eq_getElem hk) el⟩
    obtain ⟨rs, ars⟩ := back_ok kl' hvl rp hb e5
    have xx : Ext (Ad σ s) F H F' H' := x2.trans xc adv
    refine k v F' H' rs xx (fun a z => sub2 a (ars a z)) (hR F' H' H v d ?_)
    split
    · rename_i ho
      rw [if_pos ho] at hv
      obtain ⟨h1, a, h2, h3, h4⟩ := hv
      exact ⟨h1, a, h2, fresh_back x2 h3, h4⟩
    · rename_i ho
      rw [if_neg ho] at hv
      exact hv
end
end FC

/-! Part 16: calls, by position and by names. -/
namespace FC
open PySem PySem.Spec PyProof.Rows L2
theorem tAs_mono {K : PySem.W.Frag} {C : Calls} : ∀ {es : Ex} {σ : L2.St} {H : Hp} {k k' : List V → Hp → Prop}, tAs K C es σ H k → (∀ vs H, k vs H → k' vs H) → tAs K C es σ H k'
  | .cons e es, σ, H, k, k', h, i => tG_mono (show tG K (sem C e).a _ σ H _ from h) fun v H1 h1 => tAs_mono (es := es) h1 fun vs H2 h2 => i _ _ h2
  | .nil, σ, H, k, k', h, i => i _ _ h
  | .con _, σ, H, k, k', h, i => i _ _ h
  | .glob _ _, σ, H, k, k', h, i => i _ _ h
  | .var _, σ, H, k, k', h, i => i _ _ h
  | .pk _, σ, H, k, k', h, i => i _ _ h
  | .lend _, σ, H, k, k', h, i => i _ _ h
  | .give _, σ, H, k, k', h, i => i _ _ h
  | .op _ _, σ, H, k, k', h, i => i _ _ h
  | .not _, σ, H, k, k', h, i => i _ _ h
  | .and _ _, σ, H, k, k', h, i => i _ _ h
  | .or _ _, σ, H, k, k', h, i => i _ _ h
  | .chain .., σ, H, k, k', h, i => i _ _ h
  | .ife .., σ, H, k, k', h, i => i _ _ h
  | .tup _, σ, H, k, k', h, i => i _ _ h
  | .lst _, σ, H, k, k', h, i => i _ _ h
  | .call .., σ, H, k, k', h, i => i _ _ h
  | .mt .., σ, H, k, k', h, i => i _ _ h
  | .sl2 .., σ, H, k, k', h, i => i _ _ h
  | .mu .., σ, H, k, k', h, i => i _ _ h
  | .comp .., σ, H, k, k', h, i => i _ _ h
  | .comp2 .., σ, H, k, k', h, i => i _ _ h
  | .itOf _, σ, H, k, k', h, i => i _ _ h
  | .itRange _, σ, H, k, k', h, i => i _ _ h
  | .itEnum _, σ, H, k, k', h, i => i _ _ h
  | .itZip _, σ, H, k, k', h, i => i _ _ h
  | .nev, σ, H, k, k', h, i => i _ _ h
section
variable {X : Cx} {Γ : Gam} {q : Scp} {C : Calls}
theorem PAx.len : ∀ {xs : List Expr} {es : Ex}, PAx X C xs es → (listE es).length = xs.length
  | _, _, .nil => rfl
  | _, _, .cons _ _ r => by simp only [listE, List.length_cons, r.len]
/-- positional arguments, then the keywords' values -/
theorem PAx.split : ∀ {xs ys : List Expr} {es : Ex}, PAx X C (xs ++ ys) es → ∃ e1 e2, PAx X C xs e1 ∧ PAx X C ys e2 ∧
    ∀ {σ : L2.St} {H : Hp} {k : List V → Hp → Prop}, tAs X.K C es σ H (fun vs H2 => vs.length = xs.length + ys.length ∧ k vs H2) → tAs X.K C e1 σ H fun vs H1 => tAs X.K C e2 σ H1 fun zs H2 => vs.length = xs.length ∧ zs.length = ys.length ∧ k (vs ++ zs) H2
  | [], ys, es, h => ⟨.nil, es, .nil, h, fun {σ H k} hq => by
      show tAs X.K C es σ H fun zs H2 => ([] : List V).length = ([] : List Expr).length ∧ zs.length = ys.length ∧ k ([] ++ zs) H2
      exact tAs_mono hq fun vs H2 ⟨hl, hk⟩ => ⟨rfl, by simpa using hl, hk⟩⟩
  | x :: xs, ys, _, .cons (es := es) hn hp r => by
    obtain ⟨e1, e2, p1, p2, h⟩ := PAx.split (xs := xs) (ys := ys) r
    refine ⟨.cons _ e1, e2, .cons hn hp p1, p2, fun {σ H k} hq => ?_⟩
    refine tG_mono (show tG X.K _ _ σ H _ from hq) fun v H1 h1 => ?_
    have h2 : tAs X.K C es σ H1 (fun vs H2 => vs.length = xs.length + ys.length ∧ k (v :: vs) H2) := tAs_mono h1 fun vs H2 ⟨hl, hk⟩ => ⟨by simp only [List.length_cons] at hl; omega, hk⟩
    exact tAs_mono (h h2) fun vs H2 h3 => tAs_mono h3 fun zs H3 ⟨l1, l2, hk⟩ => ⟨by simp [l1], l2, hk⟩
theorem pick_shift {α : Type} (a : α) (vs : List α) : ∀ n : Nat, pick ((List.range n).map (· + 1)) (a :: vs) = pick (List.range n) vs := by
  intro n
  unfold pick
  rw [List.filterMap_map]
  rfl
theorem pick_range {α : Type} : ∀ (vs : List α), pick (List.range vs.length) vs = vs
  | [] => rfl
  | a :: vs => by
    rw [List.length_cons, List.range_succ_eq_map]
    show a :: pick ((List.range vs.length).map Nat.succ) (a :: vs) = a :: vs
    rw [show ((List.range vs.length).map Nat.succ) = ((List.range vs.length).map (· + 1)) from rfl, pick_shift, pick_range vs]
theorem kwEach_some {env : Env} {pos : Pos} : ∀ {kws : List Keyword}, kws.all kwNamed = true → (backToKw pos (keywordEach kws env)).all (·.1.isSome) = true ∧ (backToKw pos (keywordEach kws env)).filterMap (·.1) = kws.filterMap kwName ∧ (backToKw pos (keywordEach kws env)).any (·.1.isNone) = false
  | [], _ => ⟨rfl, rfl, rfl⟩
  | ⟨some n, v, p⟩ :: r, h => by
    obtain ⟨h1, h2, h3⟩ := kwEach_some (env := env) (pos := pos) (kws := r) (by simp only [List.all_cons, Bool.and_eq_true] at h; exact h.2)
    refine ⟨?_, ?_, ?_⟩
    · show (true && (backToKw pos (keywordEach r env)).all (·.1.isSome)) = true
      rw [h1]; rfl
    · show n :: (backToKw pos (keywordEach r env)).filterMap (·.1) = n :: r.filterMap kwName
      rw [h2]
    · show (false || (backToKw pos (keywordEach r env)).any (·.1.isNone)) = false
      rw [h3]; rfl
  | ⟨none, v, p⟩ :: r, h => by cases h
theorem PAx.pk : ∀ {kws : List Keyword} {es : Ex}, PAx X C (kws.map kwVal) es → PK X kws (tAs X.K C es)
  | [], _, .nil => pk_nil
  | ⟨n, v, p⟩ :: r, _, .cons _ hp hr => pk_cons hp hr.pk
theorem pe_callN0 {CX : CXT} {k n : Nat} {f : Addr} {fd : FuncData} {ps ks : List Str} {sp : Sp} {E : XK} {x : Str} {p pos : Pos} {kws : List Keyword} {tk : TA} {g : List Value → List Value → List Value} {gV : List V → List V → List V}
    (F : FnOk X.prog X.w X.K X.mg X.base CX k f fd ps sp) (hr : Room k X.A) (hg : Gl X x) (hm : X.mg x = some (.ref f)) (hk : PySem.W.keepIn X.K (.ref f) = true) (hb : KBn X.K fd ps n ks g gV) (hx : Passes CX X E)
    (hkw : PK X kws tk) (hall : (backToKw pos (keywordEach kws X.env)).all (·.1.isSome) = true) (hks : (backToKw pos (keywordEach kws X.env)).filterMap (·.1) = ks)
    (hdb : (x == ("__debug__" : Str)) = false) (hpl : (backToKw pos (keywordEach kws X.env)).any (·.1.isNone) = false) :
    PE X (.Call (.Name x p) [] kws pos) (tCallN n ks.length sp gV E tNil tk) := by
  refine ⟨fun pins s σ H Q I h => ?_⟩
  refine wpAny_Call_Name_kw (ld_glob I hg hm ?_ hdb)
  refine PySem.W.callWith_KW0 (h₀ := X.base) I.ok.mod.kin hk hall (thn (hkw.run pos pins s σ H _ I h) fun ws s2 ⟨zs, H2, I2, rz, l1, l2, q2⟩ => ⟨I2.kIn, ?_⟩) (by rw [hpl]; rfl)
  rw [hks]
  exact run_fnN F hr hb hx I2 .nil rz l1 l2 q2
theorem pe_call_ (g : Gd X Γ q) {f : Nat} {sg : Sig} {perm : List Nat} {es : Ex} {xs : List Expr} {kws : List Keyword} {y : Str} {p pos : Pos} {R : Hp → Hp → L2.St → Hp → V → D → Prop} (ok : CallOk X C f sg)
    (hy : sg.name = y) (hg : gl q y = true) (hd : (y == ("__debug__" : Str)) = false) (hp : PAx X C (xs ++ kws.map kwVal) es)
    (hkw : (if kws.isEmpty then decide (perm = List.range sg.ps.length) && (xs.length == sg.ps.length) else (kws.all kwNamed) && sg.kws.contains (xs.length, kws.filterMap kwName, perm)) = true)
    (hm : perm.map (fun i => ((listE es)[i]?).bind modeOf) = sg.modes.map some) (hps : sg.ps.length = sg.modes.length) (hn : ((listE es).filterMap lendOf).Nodup) (hpn : perm.Nodup)
    (hR : ∀ F' H' σ H0 v d, (if sg.own = true then (newObj d = true ∧ ∃ a, v = V.ref a ∧ H0 a = none ∧ F' a = none ∧ Ob X.K F' H' a d) else Rp X.K F' v d) → R F' H' σ H0 v d) :
    PE X (.Call (.Name y p) xs kws pos) (tG X.K (callM C f perm (sem C es).as) R) := by
  subst hy
  obtain ⟨k, ad, fd, F, hr, hmg, hk, hb, hkb⟩ := ok.ok
  cases kws with
  | nil =>
    simp only [List.isEmpty_nil, if_true, Bool.and_eq_true, decide_eq_true_eq, beq_iff_eq] at hkw
    obtain ⟨rfl, hxl⟩ := hkw
    rw [List.map_nil, List.append_nil] at hp
    have key : ∀ {σ : L2.St} {H : Hp} {Q : VK}, tG X.K (callM C f (List.range sg.ps.length) (sem C es).as) R σ H Q → tAs X.K C es σ H fun vs H2 => spF X.K C f sg (vs ++ []) H2 Q E0 := fun {σ H Q} h =>
      tAs_mono (call_read hm hps hn hpn (hR · · σ · · ·) h) fun vs H2 ⟨hl, hs⟩ => by
        rw [hp.len, hxl] at hl
        rw [← hl, pick_range] at hs
        rw [List.append_nil]
        exact hs
    cases hp with
    | nil => exact PE.imp (pe_call0 F hr (g.glx hg) hmg hk hb .nil pass0 hd) fun σ H Q h => key h
    | cons h1 h2 h3 => exact PE.imp (pe_call F hr (g.glx hg) hmg hk hb .nil pass0 (PAx.cons h1 h2 h3).pa hd (star_ns h1) h3.star) fun σ H Q h => key h
  | cons kw kws =>
    simp only [List.isEmpty_cons, Bool.false_eq_true, if_false, Bool.and_eq_true] at hkw
    obtain ⟨hall, hcon⟩ := hkw
    have hmem : (xs.length, (kw :: kws).filterMap kwName, perm) ∈ sg.kws := by simpa using hcon
    have hkb' := hkb _ hmem
    obtain ⟨e1, e2, p1, p2, sp⟩ := PAx.split hp
    obtain ⟨k1, k2, k3⟩ := kwEach_some (env := X.env) (pos := pos) hall
    have hkl : ((kw :: kws).filterMap kwName).length = ((kw :: kws).map kwVal).length := by
      have : ∀ {l : List Keyword}, l.all kwNamed = true → (l.filterMap kwName).length = (l.map kwVal).length := by
        intro l
        induction l with
        | nil => intro _; rfl
        | cons a l ih =>
          intro h
          obtain ⟨nm, v, ps⟩ := a
          cases nm with
          | none => cases h
          | some n =>
            show (l.filterMap kwName).length + 1 = (l.map kwVal).length + 1
            rw [ih (by simp only [List.all_cons, Bool.and_eq_true] at h; exact h.2)]
      exact this hall
    have key : ∀ {σ : L2.St} {H : Hp} {Q : VK}, tG X.K (callM C f perm (sem C es).as) R σ H Q → tAs X.K C e1 σ H fun vs H1 => tAs X.K C e2 σ H1 fun zs H2 => vs.length = xs.length ∧ zs.length = ((kw :: kws).filterMap kwName).length ∧ spF X.K C f sg (pick perm (vs ++ zs)) H2 Q E0 := fun {σ H Q} h => by
      have h2 := call_read hm hps hn hpn (hR · · σ · · ·) h
      rw [hp.len, List.length_append] at h2
      rw [hkl]
      exact sp h2
    cases xs with
    | nil =>
      cases p1
      exact PE.imp (pe_callN0 F hr (g.glx hg) hmg hk hkb' pass0 p2.pk k1 k2 hd k3) fun σ H Q h => key h
    | cons x xs =>
      cases p1 with
      | cons h1 h2 h3 =>
        refine PE.imp (pe_callN F hr (g.glx hg) hmg hk hkb' pass0 (PAx.cons h1 h2 h3).pa p2.pk k1 k2 hd (star_ns h1) ?_) fun σ H Q h => key h
        rw [(PAx.cons h1 h2 h3).star, k3]
        rfl
end
end FC

/-! Part 17: every expression does what the evaluator says. -/
namespace FC
open PySem PySem.Spec PyProof.Rows L2
structure PX (Γ : Gam) (C : Calls) (X : Cx) (q : Scp) (e : Ex) : Prop where
  v : ∀ x, (mm Γ e).e q x = true → PE X x (tV X.K C e)
  o : fresh Γ.sigs e = true → ∀ x, (mm Γ e).e q x = true → PE X x (tO X.K C e)
  a : ∀ x, (mm Γ e).e q x = true → PE X x (tA X.K C e)
  t : ∀ x, (mm Γ e).e q x = true → PT X x (tT X.K (sem C e).t)
  as : ∀ xs, (mm Γ e).es q xs = true → PAx X C xs e
  ts : ∀ xs, (mm Γ e).es q xs = true → xs.length ≤ 1 → PTs X xs (tT X.K (sem C e).ts)
  it : ∀ tg x, (mm Γ e).it q x = true → (needTup e = true → ∃ l k p, tg = .Tuple l k p) → PI X tg x (tI X.K (sem C e).it)
theorem PTs.imp {X : Cx} {xs : List Expr} {t t' : TT} (h : PTs X xs t) (i : ∀ σ H Q, t' σ H Q → t σ H Q) : PTs X xs t' := ⟨fun pins s σ H Q I q => h.run pins s σ H Q I (i σ H Q q)⟩
section
variable {Γ : Gam} {C : Calls} {X : Cx} {q : Scp}
/-- for expressions that are not lists nor walked -/
theorem PX.mk' {e : Ex} (hv : ∀ x, (mm Γ e).e q x = true → PE X x (tV X.K C e)) (ho : fresh Γ.sigs e = true → ∀ x, (mm Γ e).e q x = true → PE X x (tO X.K C e)) (ha : ∀ x, (mm Γ e).e q x = true → PE X x (tA X.K C e)) (ht : ∀ x, (mm Γ e).e q x = true → PT X x (tT X.K (sem C e).t))
    (h1 : (mm Γ e).es = fun _ _ => false) (h2 : (mm Γ e).it = fun _ _ => false) : PX Γ C X q e :=
  ⟨hv, ho, ha, ht, fun xs h => (by rw [h1] at h; cases h), fun xs h => (by rw [h1] at h; cases h), fun tg x h => (by rw [h2] at h; cases h)⟩
theorem Gd.blk (g : Gd X Γ q) (s : Shared) (H : Hp) (scope : Scope) (cl : List (Str × Addr)) (c : Addr) (fp : List Addr) : Gd (X.blk s H scope (compEnvC scope cl c X.env) fp) Γ (blkSc q scope) where
  calm := g.calm
  nd := g.nd
  xe := rfl
  un := g.un
  mgb := g.mgb
  N := g.N
  sc := by
    show relS scope X.env.scope = relS scope q.sc
    rw [g.sc]
  fn := rfl
  gv := g.gv
theorem folded_of {iter : Expr} (h : noSet iter = true) (env : Env) (x : Value) : foldedSetIterable iter env x = pure x := by
  cases iter <;> first | rfl | (cases h; done)
theorem call_e {f : Nat} {perm : List Nat} {es : Ex} {x : Expr} (h : (mm Γ (.call f perm es)).e q x = true) : ∃ y p xs kws pos sg, x = .Call (.Name y p) xs kws pos ∧ Γ.sigs[f]? = some sg ∧ sg.name = y ∧ gl q y = true ∧ (y == ("__debug__" : Str)) = false ∧ (mm Γ es).es q (xs ++ kws.map kwVal) = true ∧
    (if kws.isEmpty then decide (perm = List.range sg.ps.length) && (xs.length == sg.ps.length) else (kws.all kwNamed) && sg.kws.contains (xs.length, kws.filterMap kwName, perm)) = true ∧
    perm.map (fun i => ((listE es)[i]?).bind modeOf) = sg.modes.map some ∧ sg.ps.length = sg.modes.length ∧ ((listE es).filterMap lendOf).Nodup ∧ perm.Nodup := by
  simp only [mm] at h
  split at h
  · rename_i y p xs kws pos
    split at h
    · rename_i sg es'
      simp only [Bool.and_eq_true, beq_iff_eq, Bool.not_eq_true', decide_eq_true_eq] at h
      obtain ⟨⟨⟨⟨⟨⟨⟨⟨h1, h2⟩, h3⟩, h4⟩, h5⟩, h6⟩, h7⟩, h8⟩, h9⟩ := h
      exact ⟨y, p, xs, kws, pos, sg, rfl, es', h1, h2, h3, h4, h5, h6, h7, h8, h9⟩
    · cases h
  · cases h
theorem ex_ok : ∀ (e : Ex) (X : Cx) (q : Scp), Gd X Γ q → (∀ f sg, Γ.sigs[f]? = some sg → CallOk X C f sg) → PX Γ C X q e := by
  intro e
  induction e with
  | con d =>
    intro X q g cs
    have hv : ∀ x, (mm Γ (.con d)).e q x = true → PE X x (tV X.K C (.con d)) := fun x h => pe_con h
    exact PX.mk' hv (fun h => by cases h) (fun x h => pe_vl (hv x h)) (fun x h => pt_of (con_plain h) (hv x h)) rfl rfl
  | glob y d =>
    intro X q g cs
    have hv : ∀ x, (mm Γ (.glob y d)).e q x = true → PE X x (tV X.K C (.glob y d)) := fun x h => (pe_glob_ g h).2
    exact PX.mk' hv (fun h => by cases h) (fun x h => pe_vl (hv x h)) (fun x h => pt_of (pe_glob_ (C := C) g h).1 (hv x h)) rfl rfl
  | var i =>
    intro X q g cs
    have hv : ∀ x, (mm Γ (.var i)).e q x = true → PE X x (tV X.K C (.var i)) := fun x h => pe_var_ g h
    refine PX.mk' hv (fun h => by cases h) (fun x h => pe_vl (hv x h)) (fun x h => pt_of ?_ (hv x h)) rfl rfl
    obtain ⟨⟨y, p, rfl⟩, _⟩ := vis_of g h
    rfl
  | pk i =>
    intro X q g cs
    exact PX.mk' (fun x h => PE.fails) (fun h => by cases h) (fun x h => pe_arSlot g (.inl rfl) h) (fun x h => pt_pk_ g h) rfl rfl
  | lend i =>
    intro X q g cs
    exact PX.mk' (fun x h => PE.fails) (fun h => by cases h) (fun x h => pe_arSlot g (.inr rfl) h) (fun x h => PT.fails) rfl rfl
  | give e ih =>
    intro X q g cs
    refine PX.mk' (fun x h => PE.fails) (fun h => by cases h) (fun x h => ?_) (fun x h => PT.fails) rfl rfl
    have h : (fresh Γ.sigs e && (mm Γ e).e q x) = true := h
    rw [Bool.and_eq_true] at h
    exact pe_ow ((ih X q g cs).o h.1 x h.2)
  | op o es ih =>
    intro X q g cs
    have get : ∀ x, (mm Γ (.op o es)).e q x = true → ∃ xs, opArgs q o x = some xs ∧ PAx X C xs es := fun x h => by
      simp only [mm] at h
      split at h
      · rename_i xs hx
        exact ⟨xs, hx, (ih X q g cs).as xs h⟩
      · cases h
    refine PX.mk' (fun x h => ?_) (fun hf x h => ?_) (fun x h => ?_) (fun x h => ?_) rfl rfl
    · obtain ⟨xs, h1, h2⟩ := get x h
      exact pe_opV g h1 h2
    · obtain ⟨xs, h1, h2⟩ := get x h
      exact pe_opO g h1 h2 hf
    · obtain ⟨xs, h1, h2⟩ := get x h
      exact pe_vl (pe_opV g h1 h2)
    · obtain ⟨xs, h1, h2⟩ := get x h
      exact op_t g h1 h2
  | not a ih =>
    intro X q g cs
    have get : ∀ x, (mm Γ (.not a)).e q x = true → ∃ y p, x = .UnaryOp .Not y p ∧ (mm Γ a).e q y = true := fun x h => by
      simp only [mm] at h
      split at h
      · exact ⟨_, _, rfl, h⟩
      · cases h
    have hv : ∀ x, (mm Γ (.not a)).e q x = true → PE X x (tV X.K C (.not a)) := fun x h => by
      obtain ⟨y, p, rfl, h1⟩ := get x h
      exact pe_not_ ((ih X q g cs).v y h1)
    refine PX.mk' hv (fun h => by cases h) (fun x h => pe_vl (hv x h)) (fun x h => ?_) rfl rfl
    obtain ⟨y, p, rfl, h1⟩ := get x h
    exact pt_not_ ((ih X q g cs).t y h1)
  | and a b iha ihb =>
    intro X q g cs
    have get : ∀ x, (mm Γ (.and a b)).e q x = true → ∃ y z rest p, x = .BoolOp .And (y :: z :: rest) p ∧ (mm Γ a).e q y = true ∧ ((rest = [] ∧ (mm Γ b).e q z = true) ∨ (mm Γ b).e q (.BoolOp .And (z :: rest) p) = true) := fun x h => by
      simp only [mm] at h
      split at h
      · rw [Bool.and_eq_true] at h
        exact ⟨_, _, [], _, rfl, h.1, .inl ⟨rfl, h.2⟩⟩
      · rw [Bool.and_eq_true] at h
        exact ⟨_, _, _, _, rfl, h.1, .inr h.2⟩
      · cases h
    have hv : ∀ x, (mm Γ (.and a b)).e q x = true → PE X x (tV X.K C (.and a b)) := fun x h => by
      obtain ⟨y, z, rest, p, rfl, h1, h2⟩ := get x h
      refine pe_and_ ((iha X q g cs).v y h1) ?_
      rcases h2 with ⟨rfl, h2⟩ | h2
      · exact pe_one ((ihb X q g cs).v z h2)
      · exact (ihb X q g cs).v _ h2
    refine PX.mk' hv (fun h => by cases h) (fun x h => pe_vl (hv x h)) (fun x h => ?_) rfl rfl
    obtain ⟨y, z, rest, p, rfl, h1, h2⟩ := get x h
    refine pt_and_ ((iha X q g cs).t y h1) ?_
    rcases h2 with ⟨rfl, h2⟩ | h2
    · exact pw_and1 ((ihb X q g cs).t z h2)
    · exact pw_of ((ihb X q g cs).t _ h2)
  | or a b iha ihb =>
    intro X q g cs
    have get : ∀ x, (mm Γ (.or a b)).e q x = true → ∃ y z rest p, x = .BoolOp .Or (y :: z :: rest) p ∧ (mm Γ a).e q y = true ∧ ((rest = [] ∧ (mm Γ b).e q z = true) ∨ (mm Γ b).e q (.BoolOp .Or (z :: rest) p) = true) := fun x h => by
      simp only [mm] at h
      split at h
      · rw [Bool.and_eq_true] at h
        exact ⟨_, _, [], _, rfl, h.1, .inl ⟨rfl, h.2⟩⟩
      · rw [Bool.and_eq_true] at h
        exact ⟨_, _, _, _, rfl, h.1, .inr h.2⟩
      · cases h
    have hv : ∀ x, (mm Γ (.or a b)).e q x = true → PE X x (tV X.K C (.or a b)) := fun x h => by
      obtain ⟨y, z, rest, p, rfl, h1, h2⟩ := get x h
      refine pe_or_ ((iha X q g cs).v y h1) ?_
      rcases h2 with ⟨rfl, h2⟩ | h2
      · exact pe_one ((ihb X q g cs).v z h2)
      · exact (ihb X q g cs).v _ h2
    refine PX.mk' hv (fun hf x h => ?_) (fun x h => pe_vl (hv x h)) (fun x h => ?_) rfl rfl
    · have hf : (fresh Γ.sigs a && fresh Γ.sigs b) = true := hf
      rw [Bool.and_eq_true] at hf
      obtain ⟨y, z, rest, p, rfl, h1, h2⟩ := get x h
      refine pe_orO ((iha X q g cs).o hf.1 y h1) ?_
      rcases h2 with ⟨rfl, h2⟩ | h2
      · exact pe_one ((ihb X q g cs).o hf.2 z h2)
      · exact (ihb X q g cs).o hf.2 _ h2
    · obtain ⟨y, z, rest, p, rfl, h1, h2⟩ := get x h
      refine pt_or_ ((iha X q g cs).t y h1) ?_
      rcases h2 with ⟨rfl, h2⟩ | h2
      · exact pw_or1 ((ihb X q g cs).t z h2)
      · exact pw_of ((ihb X q g cs).t _ h2)
  | chain o o' a b c iha ihb ihc =>
    intro X q g cs
    have get : ∀ x, (mm Γ (.chain o o' a b c)).e q x = true → ∃ y z w c1 c2 p, x = .Compare y [c1, c2] [z, w] p ∧ copOf o = some c1 ∧ copOf o' = some c2 ∧ (mm Γ a).e q y = true ∧ (mm Γ b).e q z = true ∧ (mm Γ c).e q w = true := fun x h => by
      simp only [mm] at h
      split at h
      · simp only [Bool.and_eq_true, beq_iff_eq] at h
        obtain ⟨⟨⟨⟨h1, h2⟩, h3⟩, h4⟩, h5⟩ := h
        exact ⟨_, _, _, _, _, _, rfl, h1, h2, h3, h4, h5⟩
      · cases h
    have hv : ∀ x, (mm Γ (.chain o o' a b c)).e q x = true → PE X x (tV X.K C (.chain o o' a b c)) := fun x h => by
      obtain ⟨y, z, w, c1, c2, p, rfl, h1, h2, h3, h4, h5⟩ := get x h
      exact pe_chain_ h1 h2 ((iha X q g cs).v _ h3) ((ihb X q g cs).v _ h4) ((ihc X q g cs).v _ h5)
    refine PX.mk' hv (fun h => by cases h) (fun x h => pe_vl (hv x h)) (fun x h => ?_) rfl rfl
    obtain ⟨y, z, w, c1, c2, p, rfl, h1, h2, h3, h4, h5⟩ := get x h
    exact pt_chain_ h1 h2 ((iha X q g cs).v _ h3) ((ihb X q g cs).v _ h4) ((ihc X q g cs).v _ h5)
  | ife c a b ihc iha ihb =>
    intro X q g cs
    have hv : ∀ x, (mm Γ (.ife c a b)).e q x = true → PE X x (tV X.K C (.ife c a b)) := fun x h => by
      simp only [mm] at h
      split at h
      · simp only [Bool.and_eq_true] at h
        exact pe_ife_ ((ihc X q g cs).t _ h.1.1) ((iha X q g cs).v _ h.1.2) ((ihb X q g cs).v _ h.2)
      · cases h
    exact PX.mk' hv (fun h => by cases h) (fun x h => pe_vl (hv x h)) (fun x h => PT.fails) rfl rfl
  | tup es ih =>
    intro X q g cs
    have get : ∀ x, (mm Γ (.tup es)).e q x = true → ∃ xs k p, x = .Tuple xs k p ∧ PAx X C xs es := fun x h => by
      simp only [mm] at h
      split at h
      · exact ⟨_, _, _, rfl, (ih X q g cs).as _ h⟩
      · cases h
    have hv : ∀ x, (mm Γ (.tup es)).e q x = true → PE X x (tV X.K C (.tup es)) := fun x h => by
      obtain ⟨xs, k, p, rfl, hp⟩ := get x h
      exact pe_tup_ hp
    refine PX.mk' hv (fun h => by cases h) (fun x h => pe_vl (hv x h)) (fun x h => pt_of ?_ (hv x h)) rfl rfl
    obtain ⟨xs, k, p, rfl, hp⟩ := get x h
    rfl
  | lst es ih =>
    intro X q g cs
    have get : ∀ x, (mm Γ (.lst es)).e q x = true → ∃ xs p, x = .List xs p ∧ PAx X C xs es := fun x h => by
      simp only [mm] at h
      split at h
      · exact ⟨_, _, rfl, (ih X q g cs).as _ h⟩
      · cases h
    have ho : ∀ x, (mm Γ (.lst es)).e q x = true → PE X x (tO X.K C (.lst es)) := fun x h => by
      obtain ⟨xs, p, rfl, hp⟩ := get x h
      exact pe_lstO hp
    refine PX.mk' (fun x h => pe_frz (ho x h)) (fun _ => ho) (fun x h => pe_vl (pe_frz (ho x h))) (fun x h => pt_of ?_ (pe_frz (ho x h))) rfl rfl
    obtain ⟨xs, p, rfl, hp⟩ := get x h
    rfl
  | call f perm es ih =>
    intro X q g cs
    have hv : ∀ x, (mm Γ (.call f perm es)).e q x = true → PE X x (tV X.K C (.call f perm es)) := fun x h => by
      obtain ⟨y, p, xs, kws, pos, sg, rfl, h0, h1, h2, h3, h4, h5, h6, h7, h8, h9⟩ := call_e h
      cases ho : sg.own with
      | false =>
        refine pe_call_ g (cs f sg h0) h1 h2 h3 ((ih X q g cs).as _ h4) h5 h6 h7 h8 h9 fun F' H' σ H0 v d hq => ?_
        rw [ho, if_neg Bool.false_ne_true] at hq
        exact hq
      | true =>
        refine pe_frz (pe_call_ g (cs f sg h0) h1 h2 h3 ((ih X q g cs).as _ h4) h5 h6 h7 h8 h9 fun F' H' σ H0 v d hq => ?_)
        rw [ho, if_pos rfl] at hq
        show Raw X.K F' H' H0 v d
        unfold Raw
        rw [if_pos hq.1]
        exact hq.2
    refine PX.mk' hv (fun hf x h => ?_) (fun x h => pe_vl (hv x h)) (fun x h => pt_of ?_ (hv x h)) rfl rfl
    · obtain ⟨y, p, xs, kws, pos, sg, rfl, h0, h1, h2, h3, h4, h5, h6, h7, h8, h9⟩ := call_e h
      have ho : sg.own = true := by
        have hf : (match Γ.sigs[f]? with | some s => s.own | none => false) = true := hf
        rw [h0] at hf
        exact hf
      refine pe_call_ g (cs f sg h0) h1 h2 h3 ((ih X q g cs).as _ h4) h5 h6 h7 h8 h9 fun F' H' σ H0 v d hq => ?_
      rw [ho, if_pos rfl] at hq
      show Raw X.K F' H' H0 v d
      unfold Raw
      rw [if_pos hq.1]
      exact hq.2
    · obtain ⟨y, p, xs, kws, pos, sg, rfl, _⟩ := call_e h
      rfl
  | mt m o es iho ihe =>
    intro X q g cs
    have get : ∀ x, (mm Γ (.mt m o es)).e q x = true → plainT x = true ∧ PE X x (tV X.K C (.mt m o es)) := fun x h => by
      simp only [mm] at h
      split at h
      · simp only [Bool.and_eq_true, beq_iff_eq, Bool.or_eq_true] at h
        obtain ⟨⟨⟨⟨⟨⟨h1, h2⟩, h3⟩, h4⟩, h5⟩, h6⟩, h7⟩ := h
        exact ⟨rfl, pe_mt_ g h1 h2 ((iho X q g cs).a _ h3) h4 (by simpa using h5) ((ihe X q g cs).as _ h6) h7⟩
      · cases h
    exact PX.mk' (fun x h => (get x h).2) (fun h => by cases h) (fun x h => pe_vl (get x h).2) (fun x h => pt_of (get x h).1 (get x h).2) rfl rfl
  | sl2 a lo hi iha ihl ihh =>
    intro X q g cs
    have get : ∀ x, (mm Γ (.sl2 a lo hi)).e q x = true → plainT x = true ∧ PE X x (tO X.K C (.sl2 a lo hi)) := fun x h => by
      simp only [mm] at h
      split at h
      · simp only [Bool.and_eq_true] at h
        exact ⟨rfl, pe_sl2O ((iha X q g cs).a _ h.1.1) ((ihl X q g cs).v _ h.1.2) ((ihh X q g cs).v _ h.2)⟩
      · cases h
    exact PX.mk' (fun x h => pe_frz (get x h).2) (fun _ x h => (get x h).2) (fun x h => pe_vl (pe_frz (get x h).2)) (fun x h => pt_of (get x h).1 (pe_frz (get x h).2)) rfl rfl
  | mu m i es ih =>
    intro X q g cs
    have get : ∀ x, (mm Γ (.mu m i es)).e q x = true → plainT x = true ∧ PE X x (tV X.K C (.mu m i es)) := fun x h => by
      simp only [mm] at h
      split at h
      · simp only [Bool.and_eq_true, beq_iff_eq] at h
        obtain ⟨⟨⟨⟨h1, h2⟩, h3⟩, h4⟩, h5⟩ := h
        exact ⟨rfl, pe_mu_ g h1 h2 (by simpa using h3) ((ih X q g cs).as _ h4) h5⟩
      · cases h
    exact PX.mk' (fun x h => (get x h).2) (fun h => by cases h) (fun x h => pe_vl (get x h).2) (fun x h => pt_of (get x h).1 (get x h).2) rfl rfl
  | comp e t it ifs ihe ihi ihf =>
    intro X q g cs
    have get : ∀ x, (mm Γ (.comp e t it ifs)).e q x = true → plainT x = true ∧ PE X x (tO X.K C (.comp e t it ifs)) := fun x h => by
      simp only [mm] at h
      split at h
      · rename_i elt tg iter cs' k scope pos
        simp only [Bool.and_eq_true, beq_iff_eq, decide_eq_true_eq, Bool.or_eq_true, Bool.not_eq_true'] at h
        obtain ⟨⟨⟨⟨⟨⟨⟨⟨⟨h1, h2⟩, h3⟩, h4⟩, h5⟩, h6⟩, h7⟩, h8⟩, h9⟩, h10⟩ := h
        subst h1
        refine ⟨rfl, ?_⟩
        have hit : PI X tg iter (tI X.K (sem C it).it) := (ihi X q g cs).it tg iter h4 fun hn => by
          rcases h3 with h3 | h3
          · rw [h3] at hn; cases hn
          · cases t with
            | nm i => cases h3
            | tp is =>
              unfold mTg at h5
              split at h5
              · rename_i heq; cases heq
              · exact ⟨_, _, _, rfl⟩
              · cases h5
        have ok : BlkOk X.N X.env.scope scope (t.slots.filterMap fun i => (Γ.N[i]?).map fun n => (n, i)) := by
          rw [g.N, g.sc]
          exact blkOk_by h6
        have hp := pe_lc (te := tV X.K C e) (tt := tT X.K (sem C ifs).ts) (g := gTg X.K t) (pos := pos) g.calm g.nd hit ok
          (fun s H c cl fp => pg_tg (g.blk s H scope cl c fp) h5)
          (fun s H c cl fp => (ihf _ _ (g.blk s H scope cl c fp) fun f sg hs => ⟨(cs f sg hs).ok⟩).ts _ h9 h10)
          (fun s H c cl fp => (ihe _ _ (g.blk s H scope cl c fp) fun f sg hs => ⟨(cs f sg hs).ok⟩).v _ h8)
          (folded_of h2 X.env)
        rw [h7] at hp
        exact PE.imp hp fun σ H Q hq => comp_read hq
      · cases h
    exact PX.mk' (fun x h => pe_frz (get x h).2) (fun _ x h => (get x h).2) (fun x h => pe_vl (pe_frz (get x h).2)) (fun x h => pt_of (get x h).1 (pe_frz (get x h).2)) rfl rfl
  | comp2 e t it ifs t1 it1 ifs1 ihe ihi ihf ihi1 ihf1 =>
    intro X q g cs
    have get : ∀ x, (mm Γ (.comp2 e t it ifs t1 it1 ifs1)).e q x = true → plainT x = true ∧ PE X x (tO X.K C (.comp2 e t it ifs t1 it1 ifs1)) := fun x h => by
      simp only [mm] at h
      split at h
      · rename_i elt tg iter cs' k tg1 iter1 cs1 k1 scope pos
        simp only [Bool.and_eq_true, beq_iff_eq, decide_eq_true_eq, Bool.or_eq_true, Bool.not_eq_true'] at h
        obtain ⟨⟨⟨⟨⟨⟨⟨⟨⟨⟨⟨⟨⟨⟨⟨⟨h1, h1'⟩, h2⟩, h2'⟩, h3⟩, h3'⟩, h4⟩, h4'⟩, h5⟩, h5'⟩, h6⟩, h7⟩, h8⟩, h9⟩, h10⟩, h9'⟩, h10'⟩ := h
        subst h1 h1'
        refine ⟨rfl, ?_⟩
        have tup : ∀ {t : Tg} {tg : Expr} {it : Ex} {q : Scp}, (needTup it = false ∨ isTup t = true) → mTg Γ q t tg = true → needTup it = true → ∃ l k p, tg = .Tuple l k p := fun {t tg it q} h3 h5 hn => by
          rcases h3 with h3 | h3
          · rw [h3] at hn; cases hn
          · cases t with
            | nm i => cases h3
            | tp is =>
              unfold mTg at h5
              split at h5
              · rename_i heq; cases heq
              · exact ⟨_, _, _, rfl⟩
              · cases h5
        have hit : PI X tg iter (tI X.K (sem C it).it) := (ihi X q g cs).it tg iter h4 (tup h3 h5)
        have ok : BlkOk X.N X.env.scope scope ((t.slots ++ t1.slots).filterMap fun i => (Γ.N[i]?).map fun n => (n, i)) := by
          rw [g.N, g.sc]
          exact blkOk_by h6
        have hp := pe_lc2 (te := tV X.K C e) (tt := tT X.K (sem C ifs).ts) (g := gTg X.K t) (tt1 := tT X.K (sem C ifs1).ts) (g1 := gTg X.K t1) (wi1 := tI X.K (sem C it1).it) (vs1 := t1.slots) (pos := pos) g.calm g.nd hit ok
          (fun i hi => by rw [h7]; exact List.mem_append_right _ hi)
          (fun s H c cl fp => pg_tg (g.blk s H scope cl c fp) h5)
          (fun s H c cl fp => (ihf _ _ (g.blk s H scope cl c fp) fun f sg hs => ⟨(cs f sg hs).ok⟩).ts _ h9 h10)
          (fun s H c cl fp => (ihi1 _ _ (g.blk s H scope cl c fp) fun f sg hs => ⟨(cs f sg hs).ok⟩).it tg1 iter1 h4' (tup h3' h5'))
          (fun s H c cl fp => pg_tg (g.blk s H scope cl c fp) h5')
          (fun s H c cl fp => (ihf1 _ _ (g.blk s H scope cl c fp) fun f sg hs => ⟨(cs f sg hs).ok⟩).ts _ h9' h10')
          (fun s H c cl fp => (ihe _ _ (g.blk s H scope cl c fp) fun f sg hs => ⟨(cs f sg hs).ok⟩).v _ h8)
          (folded_of h2 X.env) (fun env => folded_of h2' env)
        rw [h7] at hp
        exact PE.imp hp fun σ H Q hq => comp2_read hq
      · cases h
    exact PX.mk' (fun x h => pe_frz (get x h).2) (fun _ x h => (get x h).2) (fun x h => pe_vl (pe_frz (get x h).2)) (fun x h => pt_of (get x h).1 (pe_frz (get x h).2)) rfl rfl
  | nev =>
    intro X q g cs
    exact PX.mk' (fun x h => PE.fails) (fun _ x h => PE.fails) (fun x h => PE.fails) (fun x h => PT.fails) rfl rfl
  | nil =>
    intro X q g cs
    refine ⟨fun x h => (by cases h), fun _ x h => (by cases h), fun x h => (by cases h), fun x h => (by cases h), fun xs h => ?_, fun xs h _ => ?_, fun tg x h => (by cases h)⟩
    · have h : xs.isEmpty = true := h
      rw [List.isEmpty_iff.mp h]
      exact .nil
    · have h : xs.isEmpty = true := h
      rw [List.isEmpty_iff.mp h]
      refine PTs.imp pts_nil fun σ H Q hq => ?_
      obtain ⟨s, F, k, s', r, e, kk⟩ := hq
      cases e
      exact kk F H r Ext.refl fun _ z => z
  | cons e es ihe ihs =>
    intro X q g cs
    refine ⟨fun x h => (by cases h), fun _ x h => (by cases h), fun x h => (by cases h), fun x h => (by cases h), fun xs h => ?_, fun xs h hl => ?_, fun tg x h => (by cases h)⟩
    · simp only [mm] at h
      split at h
      · simp only [Bool.and_eq_true] at h
        exact .cons h.1.1 ((ihe X q g cs).a _ h.1.2) ((ihs X q g cs).as _ h.2)
      · cases h
    · simp only [mm] at h
      split at h
      · rename_i x r
        simp only [Bool.and_eq_true] at h
        have hr : r = [] := by
          cases r with
          | nil => rfl
          | cons _ _ => simp at hl
        subst hr
        have hes : es = .nil := by
          have := h.2
          cases es <;> simp only [mm] at this <;> first | (cases this; done) | rfl
        subst hes
        refine PTs.imp (pts_one ((ihe X q g cs).t _ h.1.2)) fun σ H Q hq => ?_
        obtain ⟨s, F, k, s', rr, e0, kk⟩ := hq
        have e0 : bnd (sem C e).t (fun k => if k then (sem C .nil).ts else gives false) s = some (k, s') := e0
        obtain ⟨k1, s1, e1, f1⟩ := bnd_some e0
        cases k1 with
        | true =>
          cases f1
          exact ⟨s, F, _, _, rr, e1, kk⟩
        | false =>
          cases f1
          exact ⟨s, F, _, _, rr, e1, kk⟩
      · cases h
  | itOf e ih =>
    intro X q g cs
    refine ⟨fun x h => (by cases h), fun _ x h => (by cases h), fun x h => (by cases h), fun x h => (by cases h), fun xs h => (by cases h), fun xs h => (by cases h), fun tg x h _ => ?_⟩
    exact pi_of ((ih X q g cs).v x h)
  | itRange es ih =>
    intro X q g cs
    refine ⟨fun x h => (by cases h), fun _ x h => (by cases h), fun x h => (by cases h), fun x h => (by cases h), fun xs h => (by cases h), fun xs h => (by cases h), fun tg x h _ => ?_⟩
    simp only [mm] at h
    split at h
    · simp only [Bool.and_eq_true, beq_iff_eq, Bool.or_eq_true] at h
      obtain ⟨⟨⟨h1, h2⟩, h3⟩, h4⟩ := h
      subst h1
      exact pi_range_ g h2 ((ih X q g cs).as _ h3) h4
    · cases h
  | itEnum e ih =>
    intro X q g cs
    refine ⟨fun x h => (by cases h), fun _ x h => (by cases h), fun x h => (by cases h), fun x h => (by cases h), fun xs h => (by cases h), fun xs h => (by cases h), fun tg x h hn => ?_⟩
    obtain ⟨l, k, p, rfl⟩ := hn rfl
    simp only [mm] at h
    split at h
    · simp only [Bool.and_eq_true, beq_iff_eq] at h
      obtain ⟨⟨⟨h1, h2⟩, h3⟩, h4⟩ := h
      subst h1
      exact pi_enum_ g h2 h3 ((ih X q g cs).v _ h4)
    · cases h
  | itZip es ih =>
    intro X q g cs
    refine ⟨fun x h => (by cases h), fun _ x h => (by cases h), fun x h => (by cases h), fun x h => (by cases h), fun xs h => (by cases h), fun xs h => (by cases h), fun tg x h hn => ?_⟩
    obtain ⟨l, k, p, rfl⟩ := hn rfl
    simp only [mm] at h
    split at h
    · simp only [Bool.and_eq_true, beq_iff_eq] at h
      obtain ⟨⟨h1, h2⟩, h3⟩ := h
      subst h1
      exact pi_zip_ g h2 ((ih X q g cs).as _ h3)
    · cases h
end
end FC

/-! Part 18: statements: their readings. -/
namespace FC
open PySem PySem.Spec PyProof.Rows L2

/-- what a way out promises of the value -/
def FlR (K : PySem.W.Frag) (F' H' : Hp) (σ' : L2.St) (s' : S) (σ : L2.St) (s : S) (H : Hp) (v : V) : Fl → Prop
  | .rt false d => Rp K F' v d
  | .rt true d => newObj d = true ∧ ∃ a, v = V.ref a ∧ F' a = none ∧ Ob K F' H' a d ∧ ¬ Ad σ' s' a ∧ (Ad σ s a ∨ H a = none)
  | _ => True
def EndAt (D : Ends) (σ' : L2.St) (H' : Hp) (v : V) : Fl → Prop
  | .nx => D.nx σ' H'
  | .bk => D.bk σ' H'
  | .ct => D.ct σ' H'
  | .rt _ _ => D.rt v H'
structure Aft (K : PySem.W.Frag) (L : Nat → Bool) (F H : Hp) (σ : L2.St) (s : S) (F' H' : Hp) (σ' : L2.St) (s' : S) : Prop where
  rs : Rs K F' H' σ' s'
  ex : Ext (Ad σ s) F H F' H'
  ad : ∀ a, Ad σ' s' a → Ad σ s a ∨ H a = none
  lk : ∀ i, L i = true → σ'[i]? = σ[i]?
def tS (K : PySem.W.Frag) (L : Nat → Bool) (m : M Fl) : TS := fun D σ H =>
  ∃ (s : S) (F : Hp) (fl : Fl) (s' : S), Rs K F H σ s ∧ m s = some (fl, s') ∧
    ∀ (v : V) (σ' : L2.St) (F' H' : Hp), Aft K L F H σ s F' H' σ' s' → FlR K F' H' σ' s' σ s H v fl → EndAt D σ' H' v fl
section
variable {K : PySem.W.Frag} {L : Nat → Bool} {F H F' H' F1 H1 : Hp} {σ σ' σ1 : L2.St} {s s' s1 : S}
theorem none_back (x : Ext (Ad σ s) F H F1 H1) {a : Addr} (h : H1 a = none) : H a = none := by
  cases e : H a with
  | none => rfl
  | some o => exact absurd h (x.t a (by rw [e]; intro z; cases z))
theorem Aft.refl (r : Rs K F H σ s) : Aft K L F H σ s F H σ s := ⟨r, Ext.refl, fun _ z => .inl z, fun _ _ => rfl⟩
theorem Aft.of (r : Rs K F' H' σ s') (x : Ext (Ad σ s) F H F' H') (sub : ∀ a, Ad σ s' a → Ad σ s a) : Aft K L F H σ s F' H' σ s' := ⟨r, x, fun a z => .inl (sub a z), fun _ _ => rfl⟩
theorem Aft.trans (h : Aft K L F H σ s F1 H1 σ1 s1) (h' : Aft K L F1 H1 σ1 s1 F' H' σ' s') : Aft K L F H σ s F' H' σ' s' := by
  refine ⟨h'.rs, h.ex.trans h'.ex h.ad, fun a z => ?_, fun i hi => (h'.lk i hi).trans (h.lk i hi)⟩
  rcases h'.ad a z with z | z
  · exact h.ad a z
  · exact .inr (none_back h.ex z)
theorem FlR.back {v : V} {fl : Fl} (h : Aft K L F H σ s F1 H1 σ1 s1) (f : FlR K F' H' σ' s' σ1 s1 H1 v fl) : FlR K F' H' σ' s' σ s H v fl := by
  cases fl with
  | rt o d =>
    cases o with
    | false => exact f
    | true =>
      obtain ⟨hn, a, e, h1, h2, h3, h4⟩ := f
      refine ⟨hn, a, e, h1, h2, h3, ?_⟩
      rcases h4 with z | z
      · exact h.ad a z
      · exact .inr (none_back h.ex z)
  | _ => trivial
end
theorem PS.imp {X : Cx} {e : Stmt} {t t' : TS} (h : PS X e t) (i : ∀ D σ H, t' D σ H → t D σ H) : PS X e t' := ⟨fun pins s σ H D I q => h.run pins s σ H D I (i D σ H q)⟩
theorem PSs.imp {X : Cx} {e : List Stmt} {t t' : TS} (h : PSs X e t) (i : ∀ D σ H, t' D σ H → t D σ H) : PSs X e t' := ⟨fun pins s σ H D I q => h.run pins s σ H D I (i D σ H q)⟩
theorem PS.fails {X : Cx} {e : Stmt} {K : PySem.W.Frag} {L : Nat → Bool} : PS X e (tS K L fails) := ⟨fun pins s σ H Q I h => by
  obtain ⟨_, _, _, _, _, e, _⟩ := h
  cases e⟩
theorem PSs.fails {X : Cx} {e : List Stmt} {K : PySem.W.Frag} {L : Nat → Bool} : PSs X e (tS K L fails) := ⟨fun pins s σ H Q I h => by
  obtain ⟨_, _, _, _, _, e, _⟩ := h
  cases e⟩
section
variable {X : Cx} {L : Nat → Bool} {Γ : Gam} {q : Scp} {C : Calls}
theorem pss_seq {st : Stmt} {rest : List Stmt} {a b : M Fl} (h1 : PS X st (tS X.K L a)) (h2 : PSs X rest (tS X.K L b)) :
    PSs X (st :: rest) (tS X.K L (bnd a fun f => match f with
      | .nx => b
      | f => gives f)) := by
  refine PSs.imp (pss_cons h1 h2) fun D σ H hq => ?_
  obtain ⟨s, F, fl, s', r, e, k⟩ := hq
  obtain ⟨f, s1, e1, e2⟩ := bnd_some e
  cases f with
  | nx =>
    refine ⟨s, F, .nx, s1, r, e1, fun v σ1 F1 H1 a1 _ => ?_⟩
    exact ⟨s1, F1, fl, s', a1.rs, e2, fun v σ2 F2 H2 a2 f2 => k v σ2 F2 H2 (a1.trans a2) (f2.back a1)⟩
  | bk =>
    cases e2
    exact ⟨s, F, .bk, s', r, e1, fun v σ1 F1 H1 a1 f1 => k v σ1 F1 H1 a1 f1⟩
  | ct =>
    cases e2
    exact ⟨s, F, .ct, s', r, e1, fun v σ1 F1 H1 a1 f1 => k v σ1 F1 H1 a1 f1⟩
  | rt o d =>
    cases e2
    exact ⟨s, F, .rt o d, s', r, e1, fun v σ1 F1 H1 a1 f1 => k v σ1 F1 H1 a1 f1⟩
theorem ps_ife_ {c : Expr} {a b : List Stmt} {pos : Pos} {mc : M Bool} {ma mb : M Fl} (hc : PT X c (tT X.K mc)) (ha : PSs X a (tS X.K L ma)) (hb : PSs X b (tS X.K L mb)) :
    PS X (.If c a b pos) (tS X.K L (bnd mc fun k => if k then ma else mb)) := by
  refine PS.imp (ps_if hc ha hb) fun D σ H hq => ?_
  obtain ⟨s, F, fl, s', r, e, k⟩ := hq
  obtain ⟨b, s1, e1, e2⟩ := bnd_some e
  refine ⟨s, F, b, s1, r, e1, fun F1 H1 r1 x1 sub1 => ?_⟩
  have a1 : Aft X.K L F H σ s F1 H1 σ s1 := Aft.of r1 x1 sub1
  cases b with
  | true => exact ⟨s1, F1, fl, s', r1, e2, fun v σ2 F2 H2 a2 f2 => k v σ2 F2 H2 (a1.trans a2) (f2.back a1)⟩
  | false => exact ⟨s1, F1, fl, s', r1, e2, fun v σ2 F2 H2 a2 f2 => k v σ2 F2 H2 (a1.trans a2) (f2.back a1)⟩
theorem ps_expr_ {x : Expr} {pos : Pos} {m : M D} (h : PE X x (tG X.K m fun F _ _ _ v d => Rp X.K F v d)) (hs : swapsWith x none pos.line X.env = pure false) :
    PS X (.Expr x pos) (tS X.K L (bnd m fun _ => gives .nx)) := by
  refine PS.imp (ps_expr h hs) fun D σ H hq => ?_
  obtain ⟨s, F, fl, s', r, e, k⟩ := hq
  obtain ⟨d, s1, e1, e2⟩ := bnd_some e
  cases e2
  exact ⟨s, F, d, s', r, e1, fun v F1 H1 r1 x1 sub1 _ => k .non σ F1 H1 (Aft.of r1 x1 sub1) trivial⟩
theorem ps_ret_ {x : Expr} {pos : Pos} {m : M D} (h : PE X x (tG X.K m fun F _ _ _ v d => Rp X.K F v d)) :
    PS X (.Return (some x) pos) (tS X.K L (bnd m fun d => gives (.rt false d))) := by
  refine PS.imp (ps_ret h) fun D σ H hq => ?_
  obtain ⟨s, F, fl, s', r, e, k⟩ := hq
  obtain ⟨d, s1, e1, e2⟩ := bnd_some e
  cases e2
  exact ⟨s, F, d, s', r, e1, fun v F1 H1 r1 x1 sub1 w => k v σ F1 H1 (Aft.of r1 x1 sub1) w⟩
theorem ps_reto_ {x : Expr} {pos : Pos} {m : M D} (h : PE X x (tG X.K m fun F H _ H0 v d => Raw X.K F H H0 v d)) :
    PS X (.Return (some x) pos) (tS X.K L (bnd m fun d => if newObj d then gives (.rt true d) else fails)) := by
  refine PS.imp (ps_ret h) fun D σ H hq => ?_
  obtain ⟨s, F, fl, s', r, e, k⟩ := hq
  obtain ⟨d, s1, e1, e2⟩ := bnd_some e
  split at e2
  · rename_i hn
    cases e2
    refine ⟨s, F, d, s', r, e1, fun v F1 H1 r1 x1 sub1 w => k v σ F1 H1 (Aft.of r1 x1 sub1) ?_⟩
    have w : Raw X.K F1 H1 H v d := w
    unfold Raw at w
    rw [if_pos hn] at w
    obtain ⟨a, e, h0, hf, ob⟩ := w
    exact ⟨hn, a, e, hf, ob, fun z => (Ad.tracked r (sub1 a z)).1 h0, .inr h0⟩
  · cases e2
theorem ps_retn_ {pos : Pos} : PS X (.Return none pos) (tS X.K L (gives (.rt false .none))) := by
  refine PS.imp ps_retN fun D σ H hq => ?_
  obtain ⟨s, F, fl, s', r, e, k⟩ := hq
  cases e
  exact k .non σ F H (Aft.refl r) .non
theorem ps_gives {st : Stmt} {fl : Fl} {t : TS} (h : PS X st t) (ht : ∀ D σ H, EndAt D σ H .non fl → t D σ H) (hf : ∀ o d, fl ≠ .rt o d) : PS X st (tS X.K L (gives fl)) := by
  refine PS.imp h fun D σ H hq => ?_
  obtain ⟨s, F, fl', s', r, e, k⟩ := hq
  cases e
  refine ht D σ H (k .non σ F H (Aft.refl r) ?_)
  cases fl with
  | rt o d => exact absurd rfl (hf o d)
  | _ => trivial
theorem pss_nil_ : PSs X [] (tS X.K L (gives .nx)) := by
  refine PSs.imp pss_nil fun D σ H hq => ?_
  obtain ⟨s, F, fl', s', r, e, k⟩ := hq
  cases e
  exact k .non σ F H (Aft.refl r) trivial
/-- an own slot is handed out -/
theorem ps_retv_ {x : Expr} {pos : Pos} {i : Nat} (g : Gd X Γ q) (h : vis Γ q i x = true) :
    PS X (.Return (some x) pos) (tS X.K L fun s => match s[i]? with
      | some (some (.own d)) => some (.rt true d, s.set i none)
      | _ => none) := by
  refine PS.imp (ps_ret (pe_arSlot g (.inl rfl) h)) fun D σ H hq => ?_
  obtain ⟨s, F, fl, s', r, e, k⟩ := hq
  dsimp only at e
  split at e
  · rename_i d ei
    cases e
    have er : resA s (.pl i) = some d := by simp only [resA, ei]; rfl
    refine ⟨s, F, .pl i, s, r, by simp only [slotA, er], fun v F1 H1 r1 x1 sub1 w => ?_⟩
    have w : σ[i]? = some (some v) := w
    obtain ⟨v', ev, rb⟩ := r1.at_ i _ ei
    rw [w] at ev
    cases ev
    obtain ⟨a, rfl, hf, ob⟩ := rb
    have hi : i < s.length := (List.getElem?_eq_some_iff.mp ei).1
    have gone : ∀ {j : Nat} {b : B}, (s.set i none)[j]? = some (some b) → j ≠ i ∧ s[j]? = some (some b) := fun {j b} ej => by
      by_cases hj : j = i
      · subst hj; rw [List.getElem?_set_self hi] at ej; cases ej
      · rw [List.getElem?_set_ne (Ne.symm hj)] at ej; exact ⟨hj, ej⟩
    have hd : newObj d = true := by
      obtain ⟨o, eo⟩ := ob.has
      cases d <;> first | rfl | exact ob.elim
    refine k _ σ F1 H1 ⟨⟨r1.sub, by rw [List.length_set]; exact r1.len, fun j b ej => r1.at_ j b (gone ej).2, fun j k b c a e1 e2 => r1.dis j k b c a (gone e1).2 (gone e2).2⟩, x1, fun b ⟨j, c, ej, m, ev⟩ => .inl ⟨j, c, (gone ej).2, m, ev⟩, fun _ _ => rfl⟩ ⟨hd, a, rfl, hf, ob, fun ⟨j, c, ej, m, ev⟩ => ?_, .inl ⟨i, _, ei, rfl, w⟩⟩
    exact (gone ej).1 (r1.dis j i c _ a (gone ej).2 ei m rfl ev w)
  · cases e
end
end FC

/-! Part 19: statements: stores and loops. -/
namespace FC
open PySem PySem.Spec PyProof.Rows L2
section
variable {K : PySem.W.Frag} {L : Nat → Bool} {F H F' H' F1 H1 : Hp} {σ σ' σ1 : L2.St} {s s' s1 : S} {D : Ends}
theorem lk_set {i j : Nat} {o : Option V} (hi : L i = false) (hj : L j = true) : (σ.set i o)[j]? = σ[j]? :=
  List.getElem?_set_ne (fun e => by rw [e, hj] at hi; cases hi)
theorem lk_setAll : ∀ {is : List Nat} {vs : List V} {σ : L2.St} {j : Nat}, is.all (fun i => !L i) = true → L j = true → (setAll σ is vs)[j]? = σ[j]?
  | [], _, σ, j, _, _ => by unfold setAll; rfl
  | i :: is, [], σ, j, _, _ => by unfold setAll; rfl
  | i :: is, v :: vs, σ, j, h, hj => by
    rw [List.all_cons, Bool.and_eq_true] at h
    unfold setAll
    rw [lk_setAll h.2 hj]
    exact lk_set (by simpa using h.1) hj
theorem frz_read {m : M FC.D} {Q : VK} (h : tG K m (fun F _ _ _ v d => Rp K F v d) σ H Q) : tG K m (fun F H _ H0 v d => Raw K F H H0 v d) σ H Q := by
  obtain ⟨s, F, d, s', r, e, k⟩ := h
  refine ⟨s, F, d, s', r, e, fun v F' H' r' x' sub w => ?_⟩
  obtain ⟨F'', r2, x2, p⟩ := raw_val r r' x' sub w
  exact k v F'' H' r2 x2 sub p
theorem set_read {m : M FC.D} {i : Nat} (hL : L i = false) (h : tS K L (bnd m fun d s => match putS i (.val d) s with
    | none => none
    | some s' => some (.nx, s')) D σ H) : tAsg (tG K m fun F _ _ _ v d => Rp K F v d) (gName i) D σ H := by
  obtain ⟨s, F, fl, s', r, e, k⟩ := h
  obtain ⟨d, s1, e1, e2⟩ := bnd_some e
  split at e2
  · cases e2
  · rename_i s2 ep
    cases e2
    refine ⟨s, F, d, s1, r, e1, fun v F1 H1 r1 x1 sub1 w => ?_⟩
    obtain ⟨r2, a2⟩ := r1.put ep w
    exact k .non _ F1 H1 ⟨r2, x1, fun a z => .inl (sub1 a (a2 a z)), fun j hj => lk_set hL hj⟩ trivial
theorem seto_read {m : M FC.D} {i : Nat} (hL : L i = false) (h : tS K L (bnd m fun d s => if newObj d then match putS i (.own d) s with
    | none => none
    | some s' => some (.nx, s') else none) D σ H) : tAsg (tG K m fun F H _ H0 v d => Raw K F H H0 v d) (gName i) D σ H := by
  obtain ⟨s, F, fl, s', r, e, k⟩ := h
  obtain ⟨d, s1, e1, e2⟩ := bnd_some e
  split at e2
  · rename_i hn
    split at e2
    · cases e2
    · rename_i s2 ep
      cases e2
      refine ⟨s, F, d, s1, r, e1, fun v F1 H1 r1 x1 sub1 w => ?_⟩
      have w : Raw K F1 H1 H v d := w
      unfold Raw at w
      rw [if_pos hn] at w
      obtain ⟨a, rfl, h0, hf, ob⟩ := w
      obtain ⟨r2, a2⟩ := r1.putO ep hf ob fun z => (Ad.tracked r (sub1 a z)).1 h0
      refine k .non _ F1 H1 ⟨r2, x1, fun c z => ?_, fun j hj => lk_set hL hj⟩ trivial
      rcases a2 c z with z | z
      · exact .inl (sub1 c z)
      · exact .inr (by rw [z]; exact h0)
  · cases e2
theorem unp_read {m : M FC.D} {is : List Nat} (hL : is.all (fun i => !L i) = true) (h : tS K L (bnd m fun d s => match bindT (.tp is) d s with
    | none => none
    | some s' => some (.nx, s')) D σ H) : tAsg (tG K m fun F _ _ _ v d => Rp K F v d) (gTg K (.tp is)) D σ H := by
  obtain ⟨s, F, fl, s', r, e, k⟩ := h
  obtain ⟨d, s1, e1, e2⟩ := bnd_some e
  split at e2
  · cases e2
  · rename_i s2 ep
    cases e2
    refine ⟨s, F, d, s1, r, e1, fun v F1 H1 r1 x1 sub1 w => ?_⟩
    refine bind_read r1 w ep fun σ' r2 a2 hw => k .non _ F1 H1 ⟨r2, x1, fun a z => .inl (sub1 a (a2 a z)), fun j hj => ?_⟩ trivial
    have hj' : j ∉ is := fun z => by
      have := List.all_eq_true.mp hL j z
      rw [hj] at this; cases this
    rw [← wipe_out (σ := σ') (vs := is) hj', show L2.wipe σ' is = L2.wipe σ is from hw, wipe_out hj']
/-- a slot gets what a display hands out -/
theorem Rs.putBs : ∀ {is : List Nat} {l : List Ar} {bs : List B} {vs : List V} {σ : L2.St} {s s1 : S}, Rs K F H σ s → bsOf l = some bs → FC.putAll (is.zip bs) s = some s1 → bs.length = is.length →
    ∀ {H0 : Hp}, ArRs K F H σ1 H0 vs l → (∀ a d, V.ref a ∈ vs → .ow d ∈ l → True) → (∀ (i : Nat) (a : Addr) (d : FC.D), vs[i]? = some (.ref a) → l[i]? = some (.ow d) → ¬ Ad σ s a) →
    Rs K F H (setAll σ is vs) s1 ∧ ∀ a, Ad (setAll σ is vs) s1 a → Ad σ s a ∨ H0 a = none
  | [], [], _, vs, σ, s, s1, r, hb, h, _, H0, ar, _, _ => by
    cases hb
    cases h
    have : vs = [] := List.length_eq_zero_iff.mp ar.len
    subst this
    exact ⟨r, fun _ z => .inl z⟩
  | i :: is, a :: l, bs, vs, σ, s, s1, r, hb, h, hl, H0, ar, ht, na => by
    simp only [bsOf] at hb
    split at hb
    · rename_i b bs' hb1 hb2
      cases hb
      simp only [List.zip_cons_cons, FC.putAll] at h
      cases vs with
      | nil => have := ar.len; simp at this
      | cons v vs =>
        have ar' : ArRs K F H σ1 H0 vs l := ⟨by have := ar.len; simpa using this, fun j w x e1 e2 => ar.at_ (j + 1) w x (by simpa using e1) (by simpa using e2), fun j k a d e h1 h2 h3 h4 => by
          have := ar.dis (j + 1) (k + 1) a d e (by simpa using h1) (by simpa using h2) (by simpa using h3) (by simpa using h4)
          omega⟩
        have a0 := ar.at_ 0 v a rfl rfl
        split at h
        · rename_i s2 e
          unfold setAll
          cases a with
          | pl _ => cases hb1
          | ln _ => cases hb1
          | vl d =>
            cases hb1
            obtain ⟨r2, a2⟩ := r.put e (show Rp K F v d from a0)
            obtain ⟨r3, a3⟩ := Rs.putBs r2 hb2 h (by simpa using hl) ar' (fun _ _ _ _ => trivial) fun j b d e1 e2 z => na (j + 1) b d (by simpa using e1) (by simpa using e2) (a2 b z)
            refine ⟨r3, fun b z => ?_⟩
            rcases a3 b z with z | z
            · exact .inl (a2 b z)
            · exact .inr z
          | ow d =>
            cases hb1
            obtain ⟨hn, p, rfl, h0, hf, ob⟩ := a0
            obtain ⟨r2, a2⟩ := r.putO e hf ob (na 0 p d rfl rfl)
            obtain ⟨r3, a3⟩ := Rs.putBs r2 hb2 h (by simpa using hl) ar' (fun _ _ _ _ => trivial) fun j b d' e1 e2 z => by
              rcases a2 b z with z | z
              · exact na (j + 1) b d' (by simpa using e1) (by simpa using e2) z
              · subst z
                have := ar.dis (j + 1) 0 b d' d (by simpa using e1) (by simpa using e2) rfl rfl
                omega
            refine ⟨r3, fun b z => ?_⟩
            rcases a3 b z with z | z
            · rcases a2 b z with z | z
              · exact .inl z
              · subst z; exact .inr h0
            · exact .inr z
        · cases h
    · cases hb
  | [], a :: l, bs, vs, σ, s, s1, r, hb, h, hl, H0, ar, ht, na => by
    simp only [bsOf] at hb
    split at hb
    · cases hb; simp at hl
    · cases hb
  | i :: is, [], bs, vs, σ, s, s1, r, hb, h, hl, H0, ar, ht, na => by
    cases hb; simp at hl
def parM (C : Calls) (is : List Nat) (es : Ex) : M Fl := bnd (sem C es).as fun l s => match bsOf l with
    | none => none
    | some bs => if bs.length = is.length then match putAll (is.zip bs) s with
      | none => none
      | some s' => some (.nx, s') else none
/-- the displays' items, then the stores -/
theorem par_read {C : Calls} {is : List Nat} {es : Ex} (hL : is.all (fun i => !L i) = true) (h : tS K L (parM C is es) D σ H) :
    tAs K C es σ H fun vs H1 => vs.length = is.length ∧ D.nx (setAll σ is vs) H1 ∧ ∀ p, H1 p = none → D.nx (setAll σ is vs) (upd H1 p (.tup vs)) := by
  obtain ⟨s, F, fl, s', r, e, k⟩ := h
  obtain ⟨l, s1, e1, e2⟩ := bnd_some e
  split at e2
  · cases e2
  · rename_i bs hb
    split at e2
    · rename_i hl
      split at e2
      · cases e2
      · rename_i s2 ep
        cases e2
        refine as_read es r e1 fun vs F1 H1 r1 x1 sub1 ar => ?_
        have nA : ∀ (i : Nat) (a : Addr) (d : FC.D), vs[i]? = some (.ref a) → l[i]? = some (.ow d) → ¬ Ad σ s1 a := fun i a d h1 h2 z => by
          obtain ⟨_, b, e, h0, _⟩ := ar.at_ i _ _ h1 h2
          cases e
          exact (Ad.tracked r (sub1 a z)).1 h0
        have hlen : ∀ {l : List Ar} {bs : List B}, bsOf l = some bs → l.length = bs.length := by
          intro l
          induction l with
          | nil => intro bs h; cases h; rfl
          | cons a l ih =>
            intro bs h
            simp only [bsOf] at h
            split at h
            · rename_i h1 h2
              cases h
              simp [ih h2]
            · cases h
        obtain ⟨r2, a2⟩ := Rs.putBs r1 hb ep hl ar (fun _ _ _ _ => trivial) nA
        have ad : ∀ a, Ad (setAll σ is vs) s' a → Ad σ s a ∨ H a = none := fun a z => by
          rcases a2 a z with z | z
          · exact .inl (sub1 a z)
          · exact .inr z
        refine ⟨by rw [ar.len, hlen hb, hl], k .non _ F1 H1 ⟨r2, x1, ad, fun j hj => lk_setAll hL hj⟩ trivial, fun p hp => ?_⟩
        refine k .non _ F1 _ ⟨r2.ext (ext_new hp) (same_new r2.sub hp), ?_, ad, fun j hj => lk_setAll hL hj⟩ trivial
        exact x1.trans (ext_new (F := F1) (o := .tup vs) hp).none_ fun b z => .inl (sub1 b z)
    · cases e2
def subM (C : Calls) (i : Nat) (k e : Ex) : M Fl := bnd (sem C e).v fun d => bnd (slotA (.ln i)) fun _ => bnd (sem C k).v fun kd s => match resA s (.ln i) with
    | none => none
    | some x => match subD x kd d with
      | none => none
      | some x' => match mutS i x' s with
        | none => none
        | some s' => some (.nx, s')
theorem sub_read {C : Calls} {i : Nat} {k e : Ex} (h : tS K L (subM C i k e) D σ H) : tAsg (tV K C e) (gSub (tVar i) (tV K C k) rSetL) D σ H := by
  obtain ⟨s, F, fl, s', r, e0, kk⟩ := h
  obtain ⟨d, s1, e1, f1⟩ := bnd_some e0
  obtain ⟨_, s2, e2, f2⟩ := bnd_some f1
  obtain ⟨kd, s3, e3, f3⟩ := bnd_some f2
  split at f3
  · cases f3
  · rename_i x hx
    split at f3
    · cases f3
    · rename_i x' hx'
      split at f3
      · cases f3
      · rename_i s4 hm
        cases f3
        refine ⟨s, F, d, s1, r, e1, fun v F1 H1 r1 x1 sub1 w1 => ?_⟩
        have e2' : s2 = s1 ∧ ∃ y, resA s1 (.ln i) = some y := by
          unfold slotA at e2
          split at e2
          · rename_i y hy
            cases e2
            exact ⟨rfl, y, hy⟩
          · cases e2
        obtain ⟨rfl, y, hy⟩ := e2'
        obtain ⟨b, eb, mb, ed⟩ := ln_some hy
        obtain ⟨u, eu, _⟩ := r1.at_ i b eb
        refine ⟨u, eu, ?_⟩
        refine ⟨s2, F1, kd, s3, r1, e3, fun kv F2 H2 r2 x2 sub2 w2 => ?_⟩
        -- the slot as it is now
        cases x <;> simp only [subD] at hx' <;> try (cases hx'; done)
        rename_i xs
        cases kd <;> simp only [] at hx' <;> try (cases hx'; done)
        rename_i n
        split at hx'
        · rename_i j hj
          cases hx'
          cases w2
          obtain ⟨b2, a, vs, eb2, m2, ev2, hf2, hH2, rp2⟩ := slot_read r2 hx
          have : u = .ref a := by rw [eu] at ev2; cases ev2; rfl
          subst this
          refine ⟨a, vs, n, j, rfl, rfl, hH2, by rw [rp2.length]; exact hj, ?_⟩
          have w1' : Rp K F2 v d := Rp.same x2.f w1
          have hm' : s' = s3.set i (some (b2.put (.list (xs.set j d)))) := by
            unfold mutS at hm
            rw [eb2] at hm
            cases b2 with
            | val _ => cases m2
            | own _ => cases hm; rfl
            | lent _ => cases hm; rfl
          subst hm'
          obtain ⟨r3, x3, a3⟩ := r2.mutate (o' := .lst (vs.set j v)) (x' := .list (xs.set j d)) eb2 m2 ev2 ⟨vs.set j v, upd_same, rp2.set w1' j⟩
          refine kk .non σ F2 _ ⟨r3, (x1.trans x2 fun b z => .inl (sub1 b z)).trans x3 fun b z => .inl (sub1 b (sub2 b z)), fun b z => .inl (sub1 b (sub2 b (a3 b z))), fun _ _ => rfl⟩ trivial
        · cases hx'
end
end FC

/-! Part 20: statements: in-place operations, loops. -/
namespace FC
open PySem PySem.Spec PyProof.Rows L2
def vOf : D → Option V
  | .int i => some (.int i)
  | .str x => some (.str x)
  | _ => none
def augR (o : Op) : TIp := fun x y H Q => ∃ dx dy d, vOf dx = some x ∧ vOf dy = some y ∧ augD o dx dy = some d ∧ ∀ v, vOf d = some v → Q v H
def augOp : Op → Option Operator
  | .add => some .Add
  | .sub => some .Sub
  | .mul => some .Mult
  | .fdiv => some .FloorDiv
  | .mod => some .Mod
  | _ => none
theorem PIp.imp {X : Cx} {o : Operator} {t t' : TIp} (h : PIp X o t) (i : ∀ x y H Q, t' x y H Q → t x y H Q) : PIp X o t' := fun pins s σ H x y v u Q I r1 r2 q => h pins s σ H x y v u Q I r1 r2 (i x y H Q q)
theorem PIp.or {X : Cx} {o : Operator} {t t' : TIp} (h : PIp X o t) (h' : PIp X o t') : PIp X o (fun x y H Q => t x y H Q ∨ t' x y H Q) := fun pins s σ H x y v u Q I r1 r2 q => q.elim (h pins s σ H x y v u Q I r1 r2) (h' pins s σ H x y v u Q I r1 r2)
theorem pip_aug {X : Cx} {o : Op} {p : Operator} (h : augOp o = some p) : PIp X p (augR o) := by
  have ii : ∀ {o : Op} {dx dy d : D} {x y : V}, vOf dx = some x → vOf dy = some y → augD o dx dy = some d → (∃ i j, dx = .int i ∧ dy = .int j ∧ x = .int i ∧ y = .int j ∧ augD o (.int i) (.int j) = some d) ∨ (∃ i j, o = .add ∧ dx = .str i ∧ dy = .str j ∧ x = .str i ∧ y = .str j ∧ opAdd (.str i) (.str j) = some d) := by
    intro o dx dy d x y h1 h2 h3
    cases dx <;> simp only [vOf] at h1 <;> cases h1 <;> cases dy <;> simp only [vOf] at h2 <;> cases h2
    · exact .inl ⟨_, _, rfl, rfl, rfl, rfl, h3⟩
    · cases o <;> cases h3
    · cases o <;> cases h3
    · cases o <;> first | (cases h3; done) | exact .inr ⟨_, _, rfl, rfl, rfl, rfl, rfl, h3⟩
  cases o <;> simp only [augOp] at h <;> cases h
  · refine PIp.imp (PIp.or (show PIp X .Add _ from iop_add) (show PIp X .Add _ from iop_add_str)) fun x y H Q hq => ?_
    obtain ⟨dx, dy, d, h1, h2, h3, hk⟩ := hq
    rcases ii h1 h2 h3 with ⟨i, j, rfl, rfl, rfl, rfl, h4⟩ | ⟨i, j, _, rfl, rfl, rfl, rfl, h4⟩
    · cases h4
      exact .inl ⟨i, j, rfl, rfl, hk _ rfl⟩
    · simp only [opAdd] at h4
      split at h4
      · rename_i hz
        cases h4
        exact .inr ⟨i, j, rfl, rfl, hz, hk _ rfl⟩
      · cases h4
  · refine PIp.imp (show PIp X .Sub _ from iop_sub) fun x y H Q hq => ?_
    obtain ⟨dx, dy, d, h1, h2, h3, hk⟩ := hq
    rcases ii h1 h2 h3 with ⟨i, j, rfl, rfl, rfl, rfl, h4⟩ | ⟨i, j, z, _⟩
    · cases h4
      exact ⟨i, j, rfl, rfl, hk _ rfl⟩
    · cases z
  · refine PIp.imp (show PIp X .Mult _ from iop_mul) fun x y H Q hq => ?_
    obtain ⟨dx, dy, d, h1, h2, h3, hk⟩ := hq
    rcases ii h1 h2 h3 with ⟨i, j, rfl, rfl, rfl, rfl, h4⟩ | ⟨i, j, z, _⟩
    · simp only [augD] at h3
      split at h3
      · rename_i hz
        cases h3
        refine ⟨i, j, rfl, rfl, ?_, hk _ rfl⟩
        simpa [CMul, or_assoc] using hz
      · cases h3
    · cases z
  · refine PIp.imp (show PIp X .FloorDiv _ from iop_fdiv) fun x y H Q hq => ?_
    obtain ⟨dx, dy, d, h1, h2, h3, hk⟩ := hq
    rcases ii h1 h2 h3 with ⟨i, j, rfl, rfl, rfl, rfl, h4⟩ | ⟨i, j, z, _⟩
    · simp only [augD] at h3
      split at h3
      · rename_i hz
        cases h3
        refine ⟨i, j, rfl, rfl, ?_, hk _ rfl⟩
        simpa [CDiv] using hz
      · cases h3
    · cases z
  · refine PIp.imp (show PIp X .Mod _ from iop_mod) fun x y H Q hq => ?_
    obtain ⟨dx, dy, d, h1, h2, h3, hk⟩ := hq
    rcases ii h1 h2 h3 with ⟨i, j, rfl, rfl, rfl, rfl, h4⟩ | ⟨i, j, z, _⟩
    · simp only [augD] at h3
      split at h3
      · rename_i hz
        cases h3
        exact ⟨i, j, rfl, rfl, by simpa using hz, hk _ rfl⟩
      · cases h3
    · cases z
theorem vOf_rp {K : PySem.W.Frag} {F : Hp} {v : V} {d : D} (h : vOf d = some v) : Rp K F v d := by
  cases d <;> simp only [vOf] at h <;> cases h
  · exact .int _
  · exact .str _
theorem rp_vOf {K : PySem.W.Frag} {F : Hp} {v : V} {d : D} (h : Rp K F v d) (o : ∃ u, vOf d = some u) : vOf d = some v := by
  obtain ⟨u, hu⟩ := o
  cases d <;> simp only [vOf] at hu <;> cases hu <;> cases h <;> rfl
theorem aug_ty {o : Op} {x y z : D} (h : augD o x y = some z) : (∃ u, vOf x = some u) ∧ (∃ u, vOf y = some u) ∧ newObj x = false := by
  unfold augD at h
  split at h <;> first | exact ⟨⟨_, rfl⟩, ⟨_, rfl⟩, rfl⟩ | cases h
theorem aug_out {o : Op} {x y z : D} (h : augD o x y = some z) : ∃ u, vOf z = some u := by
  unfold augD at h
  split at h <;> (try simp only [opAdd] at h) <;> (try split at h) <;> first | (cases h; exact ⟨_, rfl⟩) | (cases h; done)
section
variable {K : PySem.W.Frag} {L : Nat → Bool} {F H F' H' F1 H1 : Hp} {σ σ' σ1 : L2.St} {s s' s1 : S} {D : Ends}
def augM (C : Calls) (i : Nat) (o : Op) (e : Ex) : M Fl := bnd (rdV i) fun x => bnd (sem C e).v fun y => bnd (lift (augD o x y)) fun z s => match putS i (.val z) s with
    | none => none
    | some s' => some (.nx, s')
theorem aug_read {C : Calls} {i : Nat} {o : Op} {p : Operator} {e : Ex} (ho : augOp o = some p) (hL : L i = false) (h : tS K L (augM C i o e) D σ H) : tAug i (tV K C e) (augR o) D σ H := by
  obtain ⟨s, F, fl, s', r, e0, kk⟩ := h
  obtain ⟨x, s1, e1, f1⟩ := bnd_some e0
  obtain ⟨y, s2, e2, f2⟩ := bnd_some f1
  obtain ⟨z, s3, e3, f3⟩ := bnd_some f2
  obtain ⟨e4, e5⟩ := lift_some e3
  change s3 = s2 at e5
  subst e5
  change augD o x y = some z at e4
  split at f3
  · cases f3
  · rename_i s4 ep
    cases f3
    obtain ⟨t1, t2, t3⟩ := aug_ty e4
    -- the slot holds a plain value
    unfold rdV at e1
    split at e1
    · rename_i d ed
      cases e1
      obtain ⟨v, ev, rb⟩ := r.at_ i _ ed
      refine ⟨v, ev, s, F, y, s3, r, e2, fun w F1 H1 r1 x1 sub1 wy => ?_⟩
      refine ⟨x, y, z, rp_vOf rb t1, rp_vOf wy t2, e4, fun u hu => ?_⟩
      obtain ⟨r2, a2⟩ := r1.put ep (vOf_rp (K := K) (F := F1) hu)
      exact kk .non _ F1 H1 ⟨r2, x1, fun a z => .inl (sub1 a (a2 a z)), fun j hj => lk_set hL hj⟩ trivial
    · rename_i d ed
      cases e1
      obtain ⟨v, ev, a, _, _, ob⟩ := r.at_ i _ ed
      cases x <;> first | exact ob.elim | cases t3
    · cases e1
theorem while_read {mc : M Bool} {mb : M Fl} {w : Nat} (h : tS K L (whileLoop mc mb w) D σ H) : tWhile (tT K mc) (tS K L mb) D σ H := by
  obtain ⟨s, F, fl, s', r, e, k⟩ := h
  refine ⟨fun m σ2 H2 => ∃ (F2 : Hp) (si : S), whileLoop mc mb m si = some (fl, s') ∧ Aft K L F H σ s F2 H2 σ2 si, ⟨w, F, s, e, Aft.refl r⟩, ?_⟩
  rintro m σ2 H2 ⟨F2, si, ew, a2⟩
  cases m with
  | zero => cases ew
  | succ m =>
    simp only [whileLoop] at ew
    split at ew
    · cases ew
    · rename_i s1 ec
      cases ew
      refine ⟨si, F2, false, _, a2.rs, ec, fun F3 H3 r3 x3 sub3 => ?_⟩
      show D.nx σ2 H3
      exact k .non σ2 F3 H3 (a2.trans (Aft.of r3 x3 sub3)) trivial
    · rename_i s1 ec
      refine ⟨si, F2, true, s1, a2.rs, ec, fun F3 H3 r3 x3 sub3 => ?_⟩
      dsimp only
      rw [if_pos rfl]
      have a3 := a2.trans (Aft.of (L := L) r3 x3 sub3)
      refine ⟨fun σ' H' => ∃ (F' : Hp) (si : S), whileLoop mc mb m si = some (fl, s') ∧ Aft K L F H σ s F' H' σ' si, fun σ' H' hN => ⟨m, Nat.lt_succ_self _, hN⟩, ?_⟩
      split at ew
      · cases ew
      · rename_i s2 eb
        exact ⟨s1, F3, _, s2, r3, eb, fun v σ4 F4 H4 a4 _ => ⟨F4, s2, ew, a3.trans a4⟩⟩
      · rename_i s2 eb
        exact ⟨s1, F3, _, s2, r3, eb, fun v σ4 F4 H4 a4 _ => ⟨F4, s2, ew, a3.trans a4⟩⟩
      · rename_i s2 eb
        cases ew
        exact ⟨s1, F3, _, _, r3, eb, fun v σ4 F4 H4 a4 _ => k v σ4 F4 H4 (a3.trans a4) trivial⟩
      · rename_i o d s2 eb
        cases ew
        exact ⟨s1, F3, _, _, r3, eb, fun v σ4 F4 H4 a4 f4 => k v σ4 F4 H4 (a3.trans a4) (f4.back a3)⟩
theorem Aft.grow (r : Rs K F H σ s) (x : Ext (fun _ => False) F H F' H') (q : Same F' H') : Aft K L F H σ s F' H' σ s := ⟨r.ext x q, x.none_, fun _ z => .inl z, fun _ _ => rfl⟩
theorem for_read {t : Tg} {it : M (List FC.D)} {mb : M Fl} (hL : t.slots.all (fun i => !L i) = true) (h : tS K L (bnd it fun ds => forLoop t mb ds) D σ H) : tFor (tI K it) (gTg K t) (tS K L mb) D σ H := by
  obtain ⟨s, F, fl, s', r, e, k⟩ := h
  obtain ⟨ds, s1, e1, e2⟩ := bnd_some e
  refine ⟨s, F, ds, s1, r, e1, fun J F1 H1 r1 x1 sub1 ok => ?_⟩
  have a1 : Aft K L F H σ s F1 H1 σ s1 := Aft.of r1 x1 sub1
  refine ⟨fun i m σ2 H2 => ∃ (F2 : Hp) (si : S), m = ds.length - i ∧ i ≤ ds.length ∧ forLoop t mb (ds.drop i) si = some (fl, s') ∧ Same F1 F2 ∧ Aft K L F H σ s F2 H2 σ2 si, ⟨ds.length, F1, s1, by simp, Nat.zero_le _, e2, Same.refl, a1⟩, ?_⟩
  rintro i m σ2 H2 ⟨F2, si, rfl, hi, ew, sm, a2⟩
  obtain ⟨okg, oks⟩ := ok F2 H2 sm a2.rs.sub
  by_cases hlt : i < ds.length
  · have hdi : ds[i]? = some ds[i] := List.getElem?_eq_getElem hlt
    obtain ⟨hgo, hy⟩ := okg i _ hdi
    rw [List.drop_eq_getElem_cons hlt] at ew
    simp only [forLoop] at ew
    refine .inr ⟨hgo, fun σ' H' => ∃ (F' : Hp) (si : S), forLoop t mb (ds.drop (i + 1)) si = some (fl, s') ∧ Same F1 F' ∧ Aft K L F H σ s F' H' σ' si, fun σ' H' ⟨F', si, h1, h2, h3⟩ => ⟨ds.length - (i + 1), by omega, F', si, rfl, hlt, h1, h2, h3⟩, fun x H3 yl => ?_⟩
    obtain ⟨F3, x3, sm3, rx⟩ := hy x H3 yl
    have a3 : Aft K L F H σ s F3 H3 σ2 si := a2.trans (Aft.grow a2.rs x3 sm3)
    split at ew
    · cases ew
    · rename_i sb eb
      refine bind_read a3.rs rx eb fun σ4 r4 sub4 w4 => ?_
      have a4 : Aft K L F H σ s F3 H3 σ4 sb := a3.trans ⟨r4, Ext.refl, fun a z => .inl (sub4 a z), fun j hj => by
        have hj' : j ∉ t.slots := fun z => by
          have := List.all_eq_true.mp hL j z
          rw [hj] at this; cases this
        rw [← wipe_out (σ := σ4) hj', w4, wipe_out hj']⟩
      have sm4 : Same F1 F3 := fun b u e => x3.f b u (sm b u e)
      split at ew
      · cases ew
      · rename_i s2 e5
        exact ⟨sb, F3, _, s2, r4, e5, fun v σ5 F5 H5 a5 _ => ⟨F5, s2, ew, fun b u e => a5.ex.f b u (sm4 b u e), a4.trans a5⟩⟩
      · rename_i s2 e5
        exact ⟨sb, F3, _, s2, r4, e5, fun v σ5 F5 H5 a5 _ => ⟨F5, s2, ew, fun b u e => a5.ex.f b u (sm4 b u e), a4.trans a5⟩⟩
      · rename_i s2 e5
        cases ew
        exact ⟨sb, F3, _, _, r4, e5, fun v σ5 F5 H5 a5 _ => k v σ5 F5 H5 (a4.trans a5) trivial⟩
      · rename_i o d s2 e5
        cases ew
        exact ⟨sb, F3, _, _, r4, e5, fun v σ5 F5 H5 a5 f5 => k v σ5 F5 H5 (a4.trans a5) (f5.back a4)⟩
  · have ei : i = ds.length := by omega
    subst ei
    rw [List.drop_length] at ew
    cases ew
    exact .inl ⟨oks _ (Nat.le_refl _), k .non σ2 F2 H2 a2 trivial⟩
end
end FC

/-! Part 21: statements against the program's text. -/
namespace FC
open PySem PySem.Spec PyProof.Rows L2

def isComp : Expr → Bool
  | .ListComp .. => true
  | .SetComp .. => true
  | .DictComp .. => true
  | _ => false
def isLComp : Expr → Bool
  | .ListComp .. => true
  | _ => false
def isTupE : Expr → Bool
  | .Tuple .. => true
  | _ => false
def swNames (sc : Scope) (ts vs : List Expr) : Option (Option (List Str)) :=
  if (!(ts.length == 2 || ts.length == 3) || vs.length != ts.length) = true then some none
  else if (vs.any fun | .Starred .. => true | _ => false) = true then some none
  else
    let line := (ts.head?.map (·.pos.line)).getD 0
    let names := ts.filterMap fun
      | .Name id pos => if sc.names.lookup id == some .local && pos.line == line then some id else none
      | _ => none
    if (names.length != ts.length || names.eraseDups.length != names.length) = true then some none
    else if vs.all (foldedForSure 8) = true then some none
    else if vs.all (constantsAlone 8) = true then none
    else some (some names)
theorem sw_names {env : Env} {ts vs : List Expr} {k k2 : Nat} {p p2 : Pos} {r : Option (List Str)} (hk : env.scope.kind = .function) (h : swNames env.scope ts vs = some r) : swappedStores [.Tuple ts k p] (.Tuple vs k2 p2) env = pure r := by
  have hb : env.blockKind = .function := by unfold Env.blockKind; rw [hk]; rfl
  unfold swNames at h
  unfold swappedStores
  simp only [hb, Env.kindOf, bne_self_eq_false, Bool.or_false]
  split at h
  · rename_i c
    cases h
    exact (if_pos c).trans rfl
  · rename_i c
    refine (if_neg c).trans ?_
    split at h
    · rename_i c2
      cases h
      exact (if_pos c2).trans rfl
    · rename_i c2
      refine (if_neg c2).trans ?_
      dsimp only at h
      split at h
      · rename_i c3
        cases h
        exact (if_pos c3).trans rfl
      · rename_i c3
        refine (if_neg c3).trans ?_
        split at h
        · rename_i c4
          cases h
          exact (if_pos c4).trans rfl
        · rename_i c4
          refine (if_neg c4).trans ?_
          split at h
          · cases h
          · rename_i c5
            cases h
            exact (if_neg c5).trans rfl
theorem sw_comp {env : Env} {elt : Expr} {gs : List Comprehension} {scope : Scope} {pos py : Pos} {y : Str} {l : Nat} (hk : env.scope.kind = .function) :
    swapsWith (.ListComp elt gs scope pos) (some (.Name y py)) l env = pure (env.kindOf y == some .local && py.line == pos.line && !(scope.names.any fun (n, k) => n == y && (k == .local || k == .cell))) := by
  have hb : env.blockKind = .function := by unfold Env.blockKind; rw [hk]; rfl
  unfold swapsWith
  simp only [hb]
  rfl
theorem sw_no {env : Env} {e : Expr} {t : Option Expr} {l : Nat} (h : isComp e = false) : swapsWith e t l env = pure false := by
  cases e <;> first | rfl | (cases h; done)
theorem sw_tup {env : Env} {e : Expr} {ts : List Expr} {k : Nat} {p : Pos} {l : Nat} : swapsWithSole [.Tuple ts k p] e l env = pure false := by
  cases e <;> rfl
theorem sw_sub {env : Env} {e a b : Expr} {p : Pos} {l : Nat} : swapsWithSole [.Subscript a b p] e l env = pure false := by
  cases e <;> rfl
theorem st_sub {env : Env} {e a b : Expr} {p : Pos} : swappedStores [.Subscript a b p] e env = pure none := by
  cases e <;> rfl
theorem st_tup {env : Env} {e : Expr} {ts : List Expr} {k : Nat} {p : Pos} (h : isTupE e = false) : swappedStores [.Tuple ts k p] e env = pure none := by
  cases e <;> first | rfl | (cases h; done)
section
variable {X : Cx} {L : Nat → Bool} {Γ : Gam} {q : Scp} {C : Calls}
theorem comp_parts (g : Gd X Γ q) (cs : ∀ f sg, Γ.sigs[f]? = some sg → CallOk X C f sg) {e it ifs : Ex} {t : Tg} {x : Expr} (h : (mm Γ (.comp e t it ifs)).e q x = true) :
    ∃ (elt tg iter : Expr) (cs' : List Expr) (scope : Scope) (pos : Pos) (own : List (Str × Nat)), x = .ListComp elt [⟨tg, iter, cs', 0⟩] scope pos ∧ PI X tg iter (tI X.K (sem C it).it) ∧ BlkOk X.N X.env.scope scope own ∧
      (∀ (s : Shared) (H : Hp) (c : Addr) (cl : List (Str × Addr)) (fp : List Addr), PG (X.blk s H scope (compEnvC scope cl c X.env) fp) tg (gTg X.K t)) ∧
      (∀ (s : Shared) (H : Hp) (c : Addr) (cl : List (Str × Addr)) (fp : List Addr), PTs (X.blk s H scope (compEnvC scope cl c X.env) fp) cs' (tT X.K (sem C ifs).ts)) ∧
      (∀ (s : Shared) (H : Hp) (c : Addr) (cl : List (Str × Addr)) (fp : List Addr), PE (X.blk s H scope (compEnvC scope cl c X.env) fp) elt (tV X.K C e)) ∧ (∀ v, foldedSetIterable iter X.env v = pure v) ∧ own.map (·.2) = t.slots := by
  simp only [mm] at h
  split at h
  · rename_i elt tg iter cs' k scope pos
    simp only [Bool.and_eq_true, beq_iff_eq, decide_eq_true_eq, Bool.or_eq_true, Bool.not_eq_true'] at h
    obtain ⟨⟨⟨⟨⟨⟨⟨⟨⟨h1, h2⟩, h3⟩, h4⟩, h5⟩, h6⟩, h7⟩, h8⟩, h9⟩, h10⟩ := h
    subst h1
    have hit : PI X tg iter (tI X.K (sem C it).it) := (ex_ok it X q g cs).it tg iter h4 fun hn => by
      rcases h3 with h3 | h3
      · rw [h3] at hn; cases hn
      · cases t with
        | nm i => cases h3
        | tp is =>
          unfold mTg at h5
          split at h5
          · rename_i heq; cases heq
          · exact ⟨_, _, _, rfl⟩
          · cases h5
    have ok : BlkOk X.N X.env.scope scope (t.slots.filterMap fun i => (Γ.N[i]?).map fun n => (n, i)) := by
      rw [g.N, g.sc]
      exact blkOk_by h6
    exact ⟨elt, tg, iter, cs', scope, pos, _, rfl, hit, ok, fun s H c cl fp => pg_tg (g.blk s H scope cl c fp) h5,
      fun s H c cl fp => (ex_ok ifs _ _ (g.blk s H scope cl c fp) fun f sg hs => ⟨(cs f sg hs).ok⟩).ts _ h9 h10,
      fun s H c cl fp => (ex_ok e _ _ (g.blk s H scope cl c fp) fun f sg hs => ⟨(cs f sg hs).ok⟩).v _ h8, folded_of h2 X.env, h7⟩
  · cases h
theorem tgn_name (g : Gd X Γ q) {i : Nat} {y : Str} {p : Pos} (h : tgn Γ q i (.Name y p) = true) : X.N[i]? = some y ∧ Loc X.env.scope y ∧ (X.fn y = true ∨ X.env.scope.names.lookup y = some .local) := by
  unfold tgn at h
  simp only [Bool.and_eq_true, beq_iff_eq] at h
  obtain ⟨h1, h2⟩ := h
  refine ⟨by rw [g.N]; exact h1, ?_⟩
  unfold locB at h2
  split at h2
  · rename_i e
    have e' : X.env.scope.names.lookup y = some .local := by rw [g.sc]; exact e
    exact ⟨.inl e', .inr e'⟩
  · rename_i e
    have e' : X.env.scope.names.lookup y = some .cell := by rw [g.sc]; exact e
    exact ⟨.inr e', .inl (by rw [g.fn]; exact h2)⟩
  · cases h2
/-- a value that is stored under a name -/
def valOk (q : Scp) (e : Ex) (x : Expr) : Bool := !isComp x || (isLComp x && (match e with | .comp .. => true | _ => false))
theorem tAsg_imp {te te' : TE} {gg : TG} (i : ∀ σ H Q, te' σ H Q → te σ H Q) : ∀ D σ H, tAsg te' gg D σ H → tAsg te gg D σ H := fun D σ H h => i σ H _ h
theorem asg_o (g : Gd X Γ q) (cs : ∀ f sg, Γ.sigs[f]? = some sg → CallOk X C f sg) (hk : q.sc.kind = .function) {i : Nat} {e : Ex} {y : Str} {p : Pos} {x : Expr} {pos : Pos} (ht : tgn Γ q i (.Name y p) = true) (hv : valOk q e x = true) (h : (mm Γ e).e q x = true) (hf : fresh Γ.sigs e = true) :
    PS X (.Assign [.Name y p] x pos) (tAsg (tO X.K C e) (gName i)) := by
  obtain ⟨t1, t2, t3⟩ := tgn_name g ht
  have hk' : X.env.scope.kind = .function := by rw [g.sc]; exact hk
  unfold valOk at hv
  rw [Bool.or_eq_true] at hv
  rcases hv with hv | hv
  · exact ps_set g.nd t1 t2 ((ex_ok e X q g cs).o hf x h) (sw_no (by simpa using hv)) t3
  · rw [Bool.and_eq_true] at hv
    cases e <;> first | (cases hv.2; done) | skip
    rename_i e t it ifs
    obtain ⟨elt, tg, iter, cs', scope, cpos, own, rfl, a1, a2, a3, a4, a5, a6, a7⟩ := comp_parts g cs h
    have sw := sw_comp (env := X.env) (elt := elt) (gs := [⟨tg, iter, cs', 0⟩]) (scope := scope) (pos := cpos) (py := p) (y := y) (l := pos.line) hk'
    cases hb : (X.env.kindOf y == some .local && p.line == cpos.line && !(scope.names.any fun (n, k) => n == y && (k == .local || k == .cell))) with
    | false =>
      rw [hb] at sw
      exact ps_set g.nd t1 t2 ((ex_ok _ X q g cs).o hf _ h) sw t3
    | true =>
      rw [hb] at sw
      have hl : X.env.scope.names.lookup y = some .local := by
        simp only [Bool.and_eq_true, beq_iff_eq] at hb
        exact hb.1.1
      have := ps_setLc (i := i) g.calm g.nd t1 hl sw a1 a2 a3 a4 a5 a6
      rw [a7] at this
      exact PS.imp this fun D σ H hq => comp_read hq
theorem asg_v (g : Gd X Γ q) (cs : ∀ f sg, Γ.sigs[f]? = some sg → CallOk X C f sg) (hk : q.sc.kind = .function) {i : Nat} {e : Ex} {y : Str} {p : Pos} {x : Expr} {pos : Pos} (ht : tgn Γ q i (.Name y p) = true) (hv : valOk q e x = true) (h : (mm Γ e).e q x = true) :
    PS X (.Assign [.Name y p] x pos) (tAsg (tV X.K C e) (gName i)) := by
  cases hc : isComp x with
  | false =>
    obtain ⟨t1, t2, t3⟩ := tgn_name g ht
    exact ps_set g.nd t1 t2 ((ex_ok e X q g cs).v x h) (sw_no hc) t3
  | true =>
    have hf : fresh Γ.sigs e = true := by
      unfold valOk at hv
      rw [hc, Bool.not_true, Bool.false_or, Bool.and_eq_true] at hv
      cases e <;> first | rfl | (cases hv.2; done)
    exact PS.imp (asg_o g cs hk ht hv h hf) (tAsg_imp fun σ H Q hq => frz_read hq)
/-- parallel stores -/
def parOk (Γ : Gam) (q : Scp) (is : List Nat) (ts vs : List Expr) : Bool :=
  tgns Γ q is ts && (match swNames q.sc ts vs with
    | some none => decide (is.length ≤ 100)
    | some (some ns) => decide is.Nodup && (match ts with
      | [.Name x _, .Name y _] => decide (ns = [x, y]) && (q.sc.names.lookup x == some .local) && (q.sc.names.lookup y == some .local)
      | [.Name x _, .Name y _, .Name z _] => decide (ns = [x, y, z]) && (q.sc.names.lookup x == some .local) && (q.sc.names.lookup y == some .local) && (q.sc.names.lookup z == some .local)
      | _ => false)
    | none => false)
theorem par_ok (g : Gd X Γ q) (hk : q.sc.kind = .function) {is : List Nat} {es : Ex} {ts vs : List Expr} {k k2 : Nat} {p p2 pos : Pos} (hL : is.all (fun i => !L i) = true) (hp : parOk Γ q is ts vs = true) (ha : PAx X C vs es) :
    PS X (.Assign [.Tuple ts k p] (.Tuple vs k2 p2) pos) (tS X.K L (parM C is es)) := by
  have hk' : X.env.scope.kind = .function := by rw [g.sc]; exact hk
  unfold parOk at hp
  rw [Bool.and_eq_true] at hp
  obtain ⟨hp1, hp⟩ := hp
  split at hp
  · rename_i hs
    have sw := sw_names (k := k) (p := p) (k2 := k2) (p2 := p2) hk' (by rw [g.sc]; exact hs)
    obtain ⟨pg, l1, f1⟩ := tgns_of g hp1
    refine PS.imp (ps_asg (pe_tup ha.pa) (pg_tup g.calm pg l1 f1) sw_tup sw) fun D σ H hq => ?_
    refine tAs_mono (par_read hL hq) fun vs H1 ⟨hl, _, h2⟩ => ?_
    refine ⟨?_, fun a hH => ⟨a, vs, rfl, .inl (.inl upd_same), hl, gIs_of hl (h2 a hH)⟩⟩
    rw [hl]
    exact Nat.le_trans (by simpa using hp) (by decide)
  · rename_i ns hs
    have sw := sw_names (k := k) (p := p) (k2 := k2) (p2 := p2) hk' (by rw [g.sc]; exact hs)
    rw [Bool.and_eq_true, decide_eq_true_eq] at hp
    obtain ⟨hnd, hp⟩ := hp
    split at hp
    · rename_i x px y py
      simp only [Bool.and_eq_true, decide_eq_true_eq, beq_iff_eq] at hp
      obtain ⟨⟨rfl, lx⟩, ly⟩ := hp
      match is, hp1, hnd, hL with
      | [i, j], hp1, hnd, hL =>
        simp only [tgns, Bool.and_eq_true] at hp1
        match vs, ha with
        | [a, b], ha =>
          refine PS.imp (ps_par g.calm g.nd (tgn_name g hp1.1).1 (tgn_name g hp1.2.1).1 (by simpa using hnd) (by rw [g.sc]; exact lx) (by rw [g.sc]; exact ly) ha.pa sw sw_tup) fun D σ H hq => ?_
          refine tAs_mono (par_read hL hq) fun vs H1 ⟨hl, h1, _⟩ => ?_
          match vs, hl with
          | [v, w], _ => exact ⟨v, w, rfl, h1⟩
        | [], _ => simp [swNames] at hs
        | [_], _ => simp [swNames] at hs
        | _ :: _ :: _ :: _, _ => simp [swNames] at hs
      | [], hp1, _, _ => simp [tgns] at hp1
      | [_], hp1, _, _ => simp [tgns] at hp1
      | _ :: _ :: _ :: _, hp1, _, _ => simp [tgns] at hp1
    · rename_i x px y py z pz
      simp only [Bool.and_eq_true, decide_eq_true_eq, beq_iff_eq] at hp
      obtain ⟨⟨⟨rfl, lx⟩, ly⟩, lz⟩ := hp
      match is, hp1, hnd, hL with
      | [i, j, l], hp1, hnd, hL =>
        simp only [tgns, Bool.and_eq_true] at hp1
        match vs, ha with
        | [a, b, c], ha =>
          have hn : i ≠ j ∧ i ≠ l ∧ j ≠ l := by
            simp only [List.nodup_cons, List.mem_cons, List.not_mem_nil, or_false, not_or] at hnd
            exact ⟨hnd.1.1, hnd.1.2, hnd.2.1⟩
          refine PS.imp (ps_par3 g.calm g.nd (tgn_name g hp1.1).1 (tgn_name g hp1.2.1).1 (tgn_name g hp1.2.2.1).1 hn.1 hn.2.1 hn.2.2 (by rw [g.sc]; exact lx) (by rw [g.sc]; exact ly) (by rw [g.sc]; exact lz) ha.pa sw sw_tup) fun D σ H hq => ?_
          refine tAs_mono (par_read hL hq) fun vs H1 ⟨hl, h1, _⟩ => ?_
          match vs, hl with
          | [u, v, w], _ => exact ⟨u, v, w, rfl, h1⟩
        | [], _ => simp [swNames] at hs
        | [_], _ => simp [swNames] at hs
        | [_, _], _ => simp [swNames] at hs
        | _ :: _ :: _ :: _ :: _, _ => simp [swNames] at hs
      | [], hp1, _, _ => simp [tgns] at hp1
      | [_], hp1, _, _ => simp [tgns] at hp1
      | [_, _], hp1, _, _ => simp [tgns] at hp1
      | _ :: _ :: _ :: _ :: _, hp1, _, _ => simp [tgns] at hp1
    · cases hp
  · cases hp
end
end FC

/-! Part 22: every statement does what the evaluator says. -/
namespace FC
open PySem PySem.Spec PyProof.Rows L2
structure Ms where
  s : Stmt → Bool := fun _ => false
  ss : List Stmt → Bool := fun _ => false
def one (f : Stmt → Bool) : Ms := { s := f }
def ms (Γ : Gam) (q : Scp) (L : Nat → Bool) : Sx → Ms
  | .set i e => one fun st => match st with
    | .Assign [.Name y p] x _ => tgn Γ q i (.Name y p) && !L i && valOk q e x && (mm Γ e).e q x
    | _ => false
  | .seto i e => one fun st => match st with
    | .Assign [.Name y p] x _ => tgn Γ q i (.Name y p) && !L i && valOk q e x && fresh Γ.sigs e && (mm Γ e).e q x
    | _ => false
  | .par is es => one fun st => match st with
    | .Assign [.Tuple ts _ _] (.Tuple vs _ _) _ => (is.all fun i => !L i) && parOk Γ q is ts vs && (mm Γ es).es q vs
    | _ => false
  | .unp is e => one fun st => match st with
    | .Assign [.Tuple ts k p] x _ => (is.all fun i => !L i) && mTg Γ q (.tp is) (.Tuple ts k p) && !isTupE x && (mm Γ e).e q x
    | _ => false
  | .sub i k e => one fun st => match st with
    | .Assign [.Subscript o j _] x _ => vis Γ q i o && noSlice j && (mm Γ k).e q j && (mm Γ e).e q x
    | _ => false
  | .aug i o e => one fun st => match st with
    | .AugAssign (.Name y p) op x _ => tgn Γ q i (.Name y p) && !L i && (augOp o == some op) && (mm Γ e).e q x
    | _ => false
  | .expr e => one fun st => match st with
    | .Expr x _ => !isComp x && (mm Γ e).e q x
    | _ => false
  | .ret e => one fun st => match st with
    | .Return (some x) _ => (mm Γ e).e q x
    | _ => false
  | .reto e => one fun st => match st with
    | .Return (some x) _ => fresh Γ.sigs e && (mm Γ e).e q x
    | _ => false
  | .retv i => one fun st => match st with
    | .Return (some x) _ => vis Γ q i x
    | _ => false
  | .retn => one fun st => match st with
    | .Return none _ => true
    | _ => false
  | .ife c a b => one fun st => match st with
    | .If x y z _ => (mm Γ c).e q x && (ms Γ q L a).ss y && (ms Γ q L b).ss z
    | _ => false
  | .for_ t it b => one fun st => match st with
    | .For tg iter body [] _ => (t.slots.all fun i => !L i) && noSet iter && (!needTup it || isTup t) && mTg Γ q t tg && (mm Γ it).it q iter && (ms Γ q L b).ss body
    | _ => false
  | .while_ c b => one fun st => match st with
    | .While x body [] _ => (mm Γ c).e q x && (ms Γ q L b).ss body
    | _ => false
  | .pass => one fun st => match st with
    | .Pass _ => true
    | .Expr (.Constant (.str _) _ _) _ => true
    | _ => false
  | .brk => one fun st => match st with
    | .Break _ => true
    | _ => false
  | .cont => one fun st => match st with
    | .Continue _ => true
    | _ => false
  | .nev => { s := fun _ => true, ss := fun _ => true }
  | .nil => { ss := fun l => l.isEmpty }
  | .cons a b => { ss := fun l => match l with
    | st :: r => (ms Γ q L a).s st && (ms Γ q L b).ss r
    | [] => false }
theorem asg_noSlice {env : Env} {o j : Expr} {pos : Pos} (h : noSlice j = true) : ∀ v, assign (.Subscript o j pos) env v = (do
      let ov ← holding [v] (eval o env)
      let iv ← holding [v, ov] (eval j env)
      standAt pos
      holding [v, ov, iv] (setItem ov iv v)
      release [v, ov, iv] []) := by
  intro v
  cases j <;> first | rfl | (cases h; done)
structure PSx (Γ : Gam) (w : Nat) (C : Calls) (X : Cx) (q : Scp) (L : Nat → Bool) (x : Sx) : Prop where
  s : ∀ st, (ms Γ q L x).s st = true → PS X st (tS X.K L (stm w C x))
  ss : ∀ st, (ms Γ q L x).ss st = true → PSs X st (tS X.K L (stm w C x))
theorem PSx.one {Γ : Gam} {w : Nat} {C : Calls} {X : Cx} {q : Scp} {L : Nat → Bool} {x : Sx} {f : Stmt → Bool} (hm : ms Γ q L x = FC.one f) (h : ∀ st, f st = true → PS X st (tS X.K L (stm w C x))) : PSx Γ w C X q L x :=
  ⟨fun st hs => h st (by rw [hm] at hs; exact hs), fun st hs => by rw [hm] at hs; cases hs⟩
theorem sx_ok {Γ : Gam} {w : Nat} {C : Calls} {X : Cx} {q : Scp} {L : Nat → Bool} (g : Gd X Γ q) (cs : ∀ f sg, Γ.sigs[f]? = some sg → CallOk X C f sg) (hk : q.sc.kind = .function) (hp : PassesOwn (model X.prog X.w) X.A X.env X.xe) :
    ∀ x : Sx, PSx Γ w C X q L x := by
  intro x
  induction x with
  | set i e =>
    refine PSx.one rfl fun st h => ?_
    split at h
    · simp only [Bool.and_eq_true, Bool.not_eq_true'] at h
      obtain ⟨⟨⟨h1, h2⟩, h3⟩, h4⟩ := h
      exact PS.imp (asg_v g cs hk h1 h3 h4) fun D σ H hq => set_read h2 hq
    · cases h
  | seto i e =>
    refine PSx.one rfl fun st h => ?_
    split at h
    · simp only [Bool.and_eq_true, Bool.not_eq_true'] at h
      obtain ⟨⟨⟨⟨h1, h2⟩, h3⟩, h4⟩, h5⟩ := h
      exact PS.imp (asg_o g cs hk h1 h3 h5 h4) fun D σ H hq => seto_read h2 hq
    · cases h
  | par is es =>
    refine PSx.one rfl fun st h => ?_
    split at h
    · simp only [Bool.and_eq_true] at h
      obtain ⟨⟨h1, h2⟩, h3⟩ := h
      exact par_ok g hk h1 h2 ((ex_ok es X q g cs).as _ h3)
    · cases h
  | unp is e =>
    refine PSx.one rfl fun st h => ?_
    split at h
    · simp only [Bool.and_eq_true, Bool.not_eq_true'] at h
      obtain ⟨⟨⟨h1, h2⟩, h3⟩, h4⟩ := h
      exact PS.imp (ps_asg ((ex_ok e X q g cs).v _ h4) (pg_tg g h2) sw_tup (st_tup h3)) fun D σ H hq => unp_read h1 hq
    · cases h
  | sub i k e =>
    refine PSx.one rfl fun st h => ?_
    split at h
    · simp only [Bool.and_eq_true] at h
      obtain ⟨⟨⟨h1, h2⟩, h3⟩, h4⟩ := h
      exact PS.imp (ps_asg ((ex_ok e X q g cs).v _ h4) (pg_sub (vis_of g h1).2 ((ex_ok k X q g cs).v _ h3) set_list (asg_noSlice h2)) sw_sub st_sub) fun D σ H hq => sub_read hq
    · cases h
  | aug i o e =>
    refine PSx.one rfl fun st h => ?_
    split at h
    · simp only [Bool.and_eq_true, Bool.not_eq_true', beq_iff_eq] at h
      obtain ⟨⟨⟨h1, h2⟩, h3⟩, h4⟩ := h
      obtain ⟨t1, t2, t3⟩ := tgn_name g h1
      exact PS.imp (ps_aug g.nd t1 t2 ((ex_ok e X q g cs).v _ h4) (pip_aug h3) t3) fun D σ H hq => aug_read h3 h2 hq
    · cases h
  | expr e =>
    refine PSx.one rfl fun st h => ?_
    split at h
    · simp only [Bool.and_eq_true, Bool.not_eq_true'] at h
      exact ps_expr_ ((ex_ok e X q g cs).v _ h.2) (sw_no h.1)
    · cases h
  | ret e =>
    refine PSx.one rfl fun st h => ?_
    split at h
    · exact ps_ret_ ((ex_ok e X q g cs).v _ h)
    · cases h
  | reto e =>
    refine PSx.one rfl fun st h => ?_
    split at h
    · rw [Bool.and_eq_true] at h
      exact ps_reto_ ((ex_ok e X q g cs).o h.1 _ h.2)
    · cases h
  | retv i =>
    refine PSx.one rfl fun st h => ?_
    split at h
    · exact ps_retv_ g h
    · cases h
  | retn =>
    refine PSx.one rfl fun st h => ?_
    split at h
    · exact ps_retn_
    · cases h
  | ife c a b iha ihb =>
    refine PSx.one rfl fun st h => ?_
    split at h
    · simp only [Bool.and_eq_true] at h
      exact ps_ife_ ((ex_ok c X q g cs).t _ h.1.1) (iha.ss _ h.1.2) (ihb.ss _ h.2)
    · cases h
  | for_ t it b ih =>
    refine PSx.one rfl fun st h => ?_
    split at h
    · rename_i tg iter body pos
      simp only [Bool.and_eq_true, Bool.or_eq_true, Bool.not_eq_true'] at h
      obtain ⟨⟨⟨⟨⟨h1, h2⟩, h3⟩, h4⟩, h5⟩, h6⟩ := h
      have hit : PI X tg iter (tI X.K (sem C it).it) := (ex_ok it X q g cs).it tg iter h5 fun hn => by
        rcases h3 with h3 | h3
        · rw [h3] at hn; cases hn
        · cases t with
          | nm i => cases h3
          | tp is =>
            unfold mTg at h4
            split at h4
            · rename_i heq; cases heq
            · exact ⟨_, _, _, rfl⟩
            · cases h4
      exact PS.imp (ps_for hp g.calm hit (pg_tg g h4) (ih.ss _ h6) (folded_of h2 X.env)) fun D σ H hq => for_read h1 hq
    · cases h
  | while_ c b ih =>
    refine PSx.one rfl fun st h => ?_
    split at h
    · simp only [Bool.and_eq_true] at h
      exact PS.imp (ps_while hp ((ex_ok c X q g cs).t _ h.1) (ih.ss _ h.2)) fun D σ H hq => while_read hq
    · cases h
  | pass =>
    refine PSx.one rfl fun st h => ?_
    split at h
    · exact ps_gives ps_pass (fun D σ H hq => hq) (fun o d z => by cases z)
    · exact ps_gives ps_doc (fun D σ H hq => hq) (fun o d z => by cases z)
    · cases h
  | brk =>
    refine PSx.one rfl fun st h => ?_
    split at h
    · exact ps_gives ps_break (fun D σ H hq => hq) (fun o d z => by cases z)
    · cases h
  | cont =>
    refine PSx.one rfl fun st h => ?_
    split at h
    · exact ps_gives ps_continue (fun D σ H hq => hq) (fun o d z => by cases z)
    · cases h
  | nev => exact ⟨fun st _ => PS.fails, fun st _ => PSs.fails⟩
  | nil =>
    refine ⟨fun st h => (by cases h), fun st h => ?_⟩
    have h : st.isEmpty = true := h
    rw [List.isEmpty_iff.mp h]
    exact pss_nil_
  | cons a b iha ihb =>
    refine ⟨fun st h => (by cases h), fun st h => ?_⟩
    simp only [ms] at h
    split at h
    · rw [Bool.and_eq_true] at h
      exact pss_seq (iha.s _ h.1) (ihb.ss _ h.2)
    · cases h
end FC

/-! Part 23: defs. -/
namespace FC
open PySem PySem.Spec PyProof.Rows L2
structure FnT where
  sg : Sig
  fi : FnI
  N : List Str
  sc : Scope
  body : List Stmt
def FnT.L (t : FnT) : Nat → Bool := fun i => t.fi.modes[i]? == some true
def FnT.q (t : FnT) : Scp := { sc := t.sc, fn := fun _ => true }
def FnT.Γ (t : FnT) (sigs : List Sig) (globs : List (Str × D)) : Gam := { N := t.N, sigs := sigs, globs := globs }
def okSc (t : FnT) : Bool := (t.fi.n == t.N.length) && decide (t.sg.modes = t.fi.modes) && (t.sg.own == t.fi.own) && (t.sg.ps.length == t.sg.modes.length) && decide (t.sc.kind = .function) && !t.sc.isCoroutine && !t.sc.isGenerator
  && decide t.N.Nodup && decide (t.N.take t.sg.ps.length = t.sg.ps) && (t.sg.ps.all fun x => t.sc.names.lookup x == some .local || t.sc.names.lookup x == some .cell) && (t.sc.names.all fun y => !(y.2 == .free))
def okFn (sigs : List Sig) (globs : List (Str × D)) (t : FnT) : Bool := okSc t && (ms (t.Γ sigs globs) t.q t.L t.fi.body).ss t.body

section
variable {K : PySem.W.Frag} {F H F' H' : Hp} {σ σ' : L2.St} {s s' : S}
theorem inR_at : ∀ {vs : List V} {ms : List Bool} {ds : List D}, InR K F H vs ms ds → vs.length = ms.length ∧ ds.length = ms.length ∧ ∀ (i : Nat) (b : B), (List.zipWith inB ms ds)[i]? = some b → ∃ v, vs[i]? = some v ∧ RB K F H v b ∧ (b.mine = true → ms[i]? = some true)
  | [], [], [], _ => ⟨rfl, rfl, fun i b h => by simp at h⟩
  | v :: vs, false :: ms, d :: ds, h => by
    obtain ⟨h1, h2⟩ := h
    obtain ⟨l1, l2, h3⟩ := inR_at h2
    refine ⟨by simp [l1], by simp [l2], fun i b e => ?_⟩
    cases i with
    | zero => simp [inB] at e; subst e; exact ⟨v, rfl, h1, fun z => by cases z⟩
    | succ i =>
      simp only [List.zipWith_cons_cons, List.getElem?_cons_succ] at e ⊢
      exact h3 i b e
  | v :: vs, true :: ms, d :: ds, h => by
    obtain ⟨h1, h2⟩ := h
    obtain ⟨l1, l2, h3⟩ := inR_at h2
    refine ⟨by simp [l1], by simp [l2], fun i b e => ?_⟩
    cases i with
    | zero => simp [inB] at e; subst e; exact ⟨v, rfl, h1, fun _ => rfl⟩
    | succ i =>
      simp only [List.zipWith_cons_cons, List.getElem?_cons_succ] at e ⊢
      exact h3 i b e
  | [], [], _ :: _, h => h.elim
  | [], _ :: _, _, h => h.elim
  | _ :: _, [], _, h => h.elim
  | _ :: _, true :: _, [], h => h.elim
  | _ :: _, false :: _, [], h => h.elim
theorem startS_at {fi : FnI} {ds : List D} {i : Nat} {b : B} (h : (startS fi ds)[i]? = some (some b)) : (List.zipWith inB fi.modes ds)[i]? = some b := by
  unfold startS at h
  rw [List.getElem?_append] at h
  split at h
  · rw [List.getElem?_map, Option.map_eq_some_iff] at h
    obtain ⟨c, h1, h2⟩ := h
    cases h2
    exact h1
  · rw [List.getElem?_replicate] at h
    split at h <;> cases h
theorem start_at {N : List Str} {vs : List V} {i : Nat} {v : V} (h : vs[i]? = some v) : (start N vs)[i]? = some (some v) := by
  unfold L2.start
  have hi : i < vs.length := (List.getElem?_eq_some_iff.mp h).1
  rw [List.getElem?_append_left (by simpa using hi), List.getElem?_map, h]
  rfl
theorem start_ref {N : List Str} {vs : List V} {i : Nat} {v w : V} (h : vs[i]? = some v) (e : (start N vs)[i]? = some (some w)) : v = w := by
  rw [start_at h] at e
  cases e
  rfl
theorem rs_start {fi : FnI} {N : List Str} {vs : List V} {ds : List D} (hn : fi.n = N.length) (hm : fi.modes.length ≤ N.length) (sub : Same F H) (h : InR K F H vs fi.modes ds) (dis : DisV vs fi.modes) :
    Rs K F H (start N vs) (startS fi ds) ∧ ∀ a, Ad (start N vs) (startS fi ds) a → AdV vs fi.modes a := by
  obtain ⟨l1, l2, h3⟩ := inR_at h
  have mine : ∀ {i : Nat} {b : B} {a : Addr}, (startS fi ds)[i]? = some (some b) → b.mine = true → (start N vs)[i]? = some (some (.ref a)) → fi.modes[i]? = some true ∧ vs[i]? = some (.ref a) := fun {i b a} e m ea => by
    obtain ⟨v, hv, _, hm⟩ := h3 i b (startS_at e)
    rw [start_ref hv ea] at hv
    exact ⟨hm m, hv⟩
  refine ⟨⟨sub, ?_, fun i b e => ?_, fun i j b c a e1 e2 m1 m2 a1 a2 => ?_⟩, fun a ⟨i, b, e, m, ea⟩ => ⟨i, mine e m ea⟩⟩
  · unfold L2.start startS
    simp only [List.length_append, List.length_map, List.length_replicate, List.length_zipWith, hn, l1, l2]
    omega
  · obtain ⟨v, hv, rb, _⟩ := h3 i b (startS_at e)
    exact ⟨v, start_at hv, rb⟩
  · obtain ⟨x1, x2⟩ := mine e1 m1 a1
    obtain ⟨y1, y2⟩ := mine e2 m2 a2
    exact dis i j a x1 y1 x2 y2
theorem lents_at : ∀ {ms : List Bool} {s : S} {ls : List D}, lentsOf ms s = some ls → ∀ i : Nat, ms[i]? = some true → ∃ d, s[i]? = some (some (B.lent d))
  | [], s, ls, _, i, h => by simp at h
  | false :: ms, s, ls, h, i, hi => by
    cases i with
    | zero => simp at hi
    | succ i =>
      obtain ⟨d, hd⟩ := lents_at (s := s.tail) h i (by simpa using hi)
      refine ⟨d, ?_⟩
      cases s with
      | nil => simp at hd
      | cons x s => simpa using hd
  | true :: ms, s, ls, h, i, hi => by
    simp only [lentsOf] at h
    split at h
    · rename_i d hd
      split at h
      · rename_i ds h2
        cases h
        cases s with
        | nil => simp at hd
        | cons x s =>
          cases i with
          | zero => exact ⟨d, by simpa using hd⟩
          | succ i =>
            obtain ⟨d', hd'⟩ := lents_at (s := s) h2 i (by simpa using hi)
            exact ⟨d', by simpa using hd'⟩
      · cases h
    · cases h
/-- what was lent lies behind the call where it lay -/
theorem back_of : ∀ {ms : List Bool} {vs : List V} {s : S} {σ : L2.St} {ls : List D}, vs.length = ms.length → lentsOf ms s = some ls →
    (∀ (i : Nat) (v : V), ms[i]? = some true → vs[i]? = some v → σ[i]? = some (some v)) → (∀ (i : Nat) (b : B), s[i]? = some (some b) → ∃ v, σ[i]? = some (some v) ∧ RB K F H v b) → BackR K F H vs ms ls
  | [], [], s, σ, ls, _, h, _, _ => by cases h; trivial
  | false :: ms, v :: vs, s, σ, ls, hl, h, h1, h2 => by
    refine back_of (ms := ms) (vs := vs) (s := s.tail) (σ := σ.tail) (by simpa using hl) h (fun i v e1 e2 => ?_) (fun i b e => ?_)
    · have := h1 (i + 1) v (by simpa using e1) (by simpa using e2)
      cases σ with
      | nil => simp at this
      | cons x σ => simpa using this
    · obtain ⟨v, hv, rb⟩ := h2 (i + 1) b (by cases s with
        | nil => simp at e
        | cons x s => simpa using e)
      refine ⟨v, ?_, rb⟩
      cases σ with
      | nil => simp at hv
      | cons x σ => simpa using hv
  | true :: ms, v :: vs, s, σ, ls, hl, h, h1, h2 => by
    simp only [lentsOf] at h
    split at h
    · rename_i d hd
      split at h
      · rename_i ds h3
        cases h
        have e0 : s[0]? = some (some (.lent d)) := by
          cases s with
          | nil => simp at hd
          | cons x s => simpa using hd
        obtain ⟨v', hv', rb⟩ := h2 0 _ e0
        have := h1 0 v rfl rfl
        rw [this] at hv'
        cases hv'
        refine ⟨rb, back_of (ms := ms) (vs := vs) (s := s.tail) (σ := σ.tail) (by simpa using hl) h3 (fun i v e1 e2 => ?_) (fun i b e => ?_)⟩
        · have := h1 (i + 1) v (by simpa using e1) (by simpa using e2)
          cases σ with
          | nil => simp at this
          | cons x σ => simpa using this
        · obtain ⟨v, hv, rb⟩ := h2 (i + 1) b (by cases s with
            | nil => simp at e
            | cons x s => simpa using e)
          refine ⟨v, ?_, rb⟩
          cases σ with
          | nil => simp at hv
          | cons x σ => simpa using hv
      · cases h
    · cases h
  | [], _ :: _, _, _, _, hl, _, _, _ => by simp at hl
  | _ :: _, [], _, _, _, hl, _, _, _ => by simp at hl
end

/-- a def as the head leaves it -/
structure HdF (K : PySem.W.Frag) (mg : Str → Option Value) (t : FnT) (ad : Addr) (fd : FuncData) : Prop where
  fn : ∃ (x qual : Str) (params : Arguments) (dvs : List V) (kws : List (Str × V)), FunD K x qual params t.body t.sc dvs kws ad fd
  mg : mg t.sg.name = some (.ref ad)
  bd : Binds K fd t.sg.ps []
  kb : ∀ x ∈ t.sg.kws, KBn K fd t.sg.ps x.1 x.2.1 (fun us ws => pick x.2.2 (us ++ ws)) (fun vs zs => pick x.2.2 (vs ++ zs))
structure HdG (K : PySem.W.Frag) (mg : Str → Option Value) (globs : List (Str × D)) : Prop where
  mgb : ∀ x ∈ blts, mg x = none
  gv : ∀ p ∈ globs, ∃ u, mg p.1 = some u ∧ (match p.2 with
    | .int i => RelV (.int i) u
    | .str t => RelV (.str t) u
    | _ => False)
theorem fns_ok {P : Program} {w : World} {K : PySem.W.Frag} {mg : Str → Option Value} {base : Heap} {Fs : List FnT} {globs : List (Str × D)} {wf : Nat} (hg : HdG K mg globs) (hf : ∀ t ∈ Fs, ∃ ad fd, HdF K mg t ad fd)
    (ok : Fs.all (okFn (Fs.map (·.sg)) globs) = true) : ∀ (n f : Nat) (t : FnT) (ad : Addr) (fd : FuncData), Fs[f]? = some t → HdF K mg t ad fd → FnOk P w K mg base CX0 n ad fd t.sg.ps (spF K (run (Fs.map (·.fi)) wf n) f t.sg) := by
  intro n
  induction n with
  | zero =>
    intro f t ad fd ht hd
    refine ⟨fun vs H Q E h => ?_, fun A outer s H args us vs Q E _ _ _ _ h => ?_⟩
    · obtain ⟨F, ds, r, ls, _, hl, _⟩ := h
      exact hl
    · obtain ⟨F, ds, r, ls, _, _, _, _, e, _⟩ := h
      cases e
  | succ n ih =>
    intro f t ad fd ht hd
    have okt := List.all_eq_true.mp ok t (List.mem_of_getElem? ht)
    unfold okFn okSc at okt
    simp only [Bool.and_eq_true, beq_iff_eq, decide_eq_true_eq, Bool.not_eq_true', List.all_eq_true, Bool.or_eq_true] at okt
    obtain ⟨⟨⟨⟨⟨⟨⟨⟨⟨⟨⟨o1, o2⟩, o3⟩, o4⟩, o5⟩, o6⟩, o7⟩, o8⟩, o9⟩, o10⟩, o11⟩, o12⟩ := okt
    obtain ⟨x, qual, params, dvs, kws, FD⟩ := hd.fn
    have hpl : t.sg.ps.length ≤ t.N.length := by
      have := congrArg List.length o9
      rw [List.length_take] at this
      omega
    refine FD.ok (N := t.N) ⟨o5, o6, o7, o8, o9, o10, fun y hy z => by have := o11 y hy; rw [z] at this; cases this⟩ (fun vs H Q E h => ?_) fun cdv A outer s H vs Q E hr h => ?_
    · obtain ⟨F, ds, r, ls, _, hl, _⟩ := h
      exact hl
    · obtain ⟨F, ds, r, ls, sub, hl, hin, dis, e, k⟩ := h
      -- the body
      have gd : Gd (cxOf CX0 P w K mg base t.N qual t.sc ad cdv A outer s H E).nox (t.Γ (Fs.map (·.sg)) globs) t.q :=
        ⟨rfl, o8, rfl, by have := hr.un; show (A.deeper _).units + 65 < cLine; omega, hg.mgb, rfl, rfl, rfl, hg.gv⟩
      have cs : ∀ f sg, (t.Γ (Fs.map (·.sg)) globs).sigs[f]? = some sg → CallOk (cxOf CX0 P w K mg base t.N qual t.sc ad cdv A outer s H E).nox (run (Fs.map (·.fi)) wf n) f sg := fun f' sg' e' => by
        have e' : (Fs.map (·.sg))[f']? = some sg' := e'
        rw [List.getElem?_map, Option.map_eq_some_iff] at e'
        obtain ⟨t', ht', rfl⟩ := e'
        obtain ⟨ad', fd', hd'⟩ := hf t' (List.mem_of_getElem? ht')
        obtain ⟨_, _, _, _, _, FD'⟩ := hd'.fn
        exact ⟨n, ad', fd', ih f' t' ad' fd' ht' hd', hr, hd'.mg, FD'.kp, hd'.bd, hd'.kb⟩
      have body := (sx_ok (w := wf) (L := t.L) gd cs o5 PassesOwn.never t.fi.body).ss t.body o12
      refine ⟨_, PSs.nox body, ?_⟩
      -- its reading
      simp only [run, List.getElem?_map, ht, Option.map_some] at e
      split at e
      · rename_i hds
        rw [o2] at hin dis k
        obtain ⟨rs0, ad0⟩ := rs_start (N := t.N) o1 (by rw [← o2, ← o4]; exact hpl) sub hin dis
        obtain ⟨lv, ld, _⟩ := inR_at hin
        cases hb : stm wf (run (Fs.map (·.fi)) wf n) t.fi.body (startS t.fi ds) with
        | none => rw [hb] at e; cases e
        | some r0 =>
          obtain ⟨fl, s'⟩ := r0
          rw [hb] at e
          -- behind the body
          have fin : ∀ {v : V} {σ' : L2.St} {F' H' : Hp} {ls : List D}, Aft K t.L F H (start t.N vs) (startS t.fi ds) F' H' σ' s' → lentsOf t.fi.modes s' = some ls →
              Same F' H' ∧ Ext (AdV vs t.fi.modes) F H F' H' ∧ BackR K F' H' vs t.fi.modes ls ∧ ∀ a, Ad (start t.N vs) (startS t.fi ds) a → Ad σ' s' a := fun {v σ' F' H' ls} a hls => by
            have keep : ∀ (i : Nat) (v : V), t.fi.modes[i]? = some true → vs[i]? = some v → σ'[i]? = some (some v) := fun i v e1 e2 => by
              rw [a.lk i (by unfold FnT.L; rw [e1]; rfl)]
              exact start_at e2
            refine ⟨a.rs.sub, a.ex.mono ad0, back_of lv hls keep a.rs.at_, fun b z => ?_⟩
            obtain ⟨i, e1, e2⟩ := ad0 b z
            obtain ⟨d, hd⟩ := lents_at hls i e1
            exact ⟨i, _, hd, rfl, keep i _ e1 e2⟩
          refine ⟨startS t.fi ds, F, fl, s', rs0, hb, fun v σ' F' H' a ff => ?_⟩
          cases fl with
          | nx =>
            simp only [endD] at e
            split at e
            · rename_i ho
              split at e
              · rename_i ls' hls
                cases e
                obtain ⟨f1, f2, f3, _⟩ := fin (v := v) a hls
                refine k .non F' H' f1 f2 f3 ?_
                rw [o3, ho, if_neg Bool.false_ne_true]
                exact .non
              · cases e
            · cases e
          | bk => cases e
          | ct => cases e
          | rt o d =>
            simp only [endD] at e
            split at e
            · rename_i ho
              split at e
              · rename_i ls' hls
                cases e
                obtain ⟨f1, f2, f3, f4⟩ := fin (v := v) a hls
                refine k v F' H' f1 f2 f3 ?_
                rw [o3, ← ho]
                cases o with
                | false =>
                  rw [if_neg Bool.false_ne_true]
                  exact ff
                | true =>
                  rw [if_pos rfl]
                  obtain ⟨hn, b, eb, hF, ob, nA, hor⟩ := ff
                  refine ⟨hn, b, eb, ?_, hF, ob⟩
                  rcases hor with z | z
                  · exact absurd (f4 b z) nA
                  · exact z
              · cases e
            · cases e
      · cases e
end FC

/-! Part 24: the head. -/
namespace FC
open PySem PySem.Spec PyProof.Rows L2

/-! ### a written part without lists -/
def isLst (o : Obj) : Bool := match o.cls with
  | .type c => decide (c = "list")
  | _ => false
def noLs (K : PySem.W.Frag) : PySem.W.Frag := K.filter fun p => !isLst p.2
theorem lookup_mem {K : PySem.W.Frag} {a : Addr} {o : Obj} (h : K.lookup a = some o) : (a, o) ∈ K := by
  induction K with
  | nil => cases h
  | cons p K ih =>
    obtain ⟨b, u⟩ := p
    rw [List.lookup_cons] at h
    split at h
    · rename_i e
      cases h
      rw [show a = b from by simpa using e]
      exact List.mem_cons_self
    · exact List.mem_cons_of_mem _ (ih h)
theorem frG_mem {g : Addr → Option Obj} {as : List Addr} {a : Addr} {o : Obj} (h : (a, o) ∈ He.frG g as) : g a = some o := by
  unfold He.frG at h
  obtain ⟨b, _, e⟩ := List.mem_filterMap.mp h
  cases q : g b with
  | none => rw [q] at e; cases e
  | some u =>
    rw [q] at e
    cases e
    exact q
theorem noLs_in {g : Addr → Option Obj} {as : List Addr} {a : Addr} {o : Obj} (h : (noLs (He.frG g as)).lookup a = some o) : g a = some o :=
  frG_mem (List.mem_filter.mp (lookup_mem h)).1
def NoL (K : PySem.W.Frag) : Prop := ∀ a o, K.lookup a = some o → isLst o = false
theorem noLs_no {K : PySem.W.Frag} : NoL (noLs K) := fun a o h => by
  have := (List.mem_filter.mp (lookup_mem h)).2
  simpa using this
theorem NoL.sq {K : PySem.W.Frag} (n : NoL K) {H : Hp} {a : Addr} {xs : List V} (h : SqL K H a xs) : Rd H a (.lst xs) := by
  rcases h with h | ⟨o, its, m, hk, hc, _⟩
  · exact h
  · have := n a o hk
    unfold isLst at this
    rw [hc] at this
    cases this
def obsN (n : Nat) (fa : List He.Fa) (fn : List He.DefD) (g : Addr → Option Obj) : He.AlD := He.obsD fa fn (noLs (He.frG g (He.asD g n)))
def hookN (n : Nat) (fa : List He.Fa) (fn : List He.DefD) : PySem.W.Hook where
  α := He.AlD
  obs := fun s => obsN n fa fn s.heap.get?
  val := fun _ => He.valD fn
  says := fun _ h => ∃ K : PySem.W.Frag, K.In h ∧ He.SaysD fa fn K ∧ NoL K
  of := fun _ _ e => ⟨_, fun a o h => noLs_in h, e, noLs_no⟩
  keeps := fun _ _ _ ⟨K, hK, c⟩ k => ⟨K, PySem.W.Frag.In.keeps hK k, c⟩
theorem obsN_eq {n : Nat} {fa : List He.Fa} {fn : List He.DefD} {g : Addr → Option Obj} {s : Shared} (h : ∀ a, g a = s.heap.get? a) : obsN n fa fn g = (hookN n fa fn).obs s := by
  have e : g = s.heap.get? := funext h
  rw [e] <;> rfl

/-! ### how a def binds -/
theorem pick_vals {vs : List V} {us : List Value} (h : Vals vs us) : ∀ {perm : List Nat}, Vals (pick perm vs) (pick perm us) := by
  intro perm
  induction perm with
  | nil => exact .nil
  | cons i perm ih =>
    unfold pick at ih ⊢
    rw [List.filterMap_cons, List.filterMap_cons]
    have : (∃ v u, vs[i]? = some v ∧ us[i]? = some u ∧ RelV v u) ∨ (vs[i]? = none ∧ us[i]? = none) := by
      clear ih
      induction h generalizing i with
      | nil => exact .inr ⟨rfl, rfl⟩
      | cons r _ ih =>
        cases i with
        | zero => exact .inl ⟨_, _, rfl, rfl, r⟩
        | succ i => simpa using ih i
    rcases this with ⟨v, u, e1, e2, r⟩ | ⟨e1, e2⟩
    · rw [e1, e2]
      exact .cons r ih
    · rw [e1, e2]
      exact ih
section
variable {K : PySem.W.Frag} {x qual : Str} {params : Arguments} {body : List Stmt} {scope : Scope} {kws : List (Str × V)} {f : Addr} {fd : FuncData} {ps : List Str}
theorem kbn_of (F : FunD K x qual params body scope [] kws f fd) {n : Nat} {ks : List Str} {perm : List Nat}
    (h : ∀ (kV doc pm : Value) (an : Option Addr) (cdv ct : Value) (us ws : List Value), us.length = n → ws.length = ks.length → bindArgs (PySem.W.fnOf x qual params body scope .none kV doc pm an cdv ct) ⟨us, ks.zip ws⟩ = pure (ps.zip (pick perm (us ++ ws)))) :
    KBn K fd ps n ks (fun us ws => pick perm (us ++ ws)) (fun vs zs => pick perm (vs ++ zs)) := by
  obtain ⟨oc, od, dV, kV, doc, pm, an, cdv, ct, osl, rfl, lk, hcd, hD, hK⟩ := F.ex
  rcases hD with ⟨_, rfl⟩ | ⟨e, _⟩
  · exact ⟨fun s us ws _ h1 h2 => .of_eq (h kV doc pm an cdv ct us ws h1 h2), fun r1 r2 => pick_vals (r1.append r2)⟩
  · exact absurd rfl e
end

/-! ### the facts of all defs -/
structure Df where
  t : FnT
  ps : Arguments
def Df.d (x : Df) : He.DefD := ⟨(x.t.sg.name, none), x.t.sg.name, x.t.sg.name, x.ps, x.t.body, x.t.sc, [], []⟩
/-- how the defs bind: told by computing -/
structure BindOk (x : Df) : Prop where
  all : ∀ (kV doc pm : Value) (an : Option Addr) (cdv ct : Value) (us : List Value), us.length = x.t.sg.ps.length → bindArgs (PySem.W.fnOf x.t.sg.name x.t.sg.name x.ps x.t.body x.t.sc .none kV doc pm an cdv ct) ⟨us, []⟩ = pure (x.t.sg.ps.zip us)
  kw : ∀ t ∈ x.t.sg.kws, ∀ (kV doc pm : Value) (an : Option Addr) (cdv ct : Value) (us ws : List Value), us.length = t.1 → ws.length = t.2.1.length → bindArgs (PySem.W.fnOf x.t.sg.name x.t.sg.name x.ps x.t.body x.t.sc .none kV doc pm an cdv ct) ⟨us, t.2.1.zip ws⟩ = pure (x.t.sg.ps.zip (pick t.2.2 (us ++ ws)))
def globFa : Str × D → Option He.Fa
  | (x, .int i) => some (.int x i)
  | (x, .str z) => some (.str x z)
  | _ => none
def allFa (ds : List Df) (globs : List (Str × D)) : List He.Fa := ds.map (fun x => .glo x.t.sg.name) ++ blts.map .free ++ globs.filterMap globFa
theorem facts_of {ds : List Df} {globs : List (Str × D)} {K : PySem.W.Frag} {h : Heap} {mg : Str → Option Value} (X : K.In h) (G : h.Ns mainGlobals mg) (c : He.SaysD (allFa ds globs) (ds.map Df.d) K)
    (hb : ∀ x ∈ ds, BindOk x) (hgl : globs.all (fun p => (globFa p).isSome) = true) : HdG K mg globs ∧ ∀ x ∈ ds, ∃ fd, HdF K mg x.t (He.ga K x.t.sg.name) fd := by
  have fa : ∀ f ∈ allFa ds globs, f.ok K = true := fun f hf => by
    obtain ⟨i, hi⟩ := List.getElem?_of_mem hf
    exact c.fact i hi
  refine ⟨⟨fun x hx => He.free_ok X G (fa _ ?_), fun p hp => ?_⟩, fun x hx => ?_⟩
  · exact List.mem_append_left _ (List.mem_append_right _ (List.mem_map.mpr ⟨x, hx, rfl⟩))
  · have hs := List.all_eq_true.mp hgl p hp
    obtain ⟨x, d⟩ := p
    cases d with
    | int i =>
      obtain ⟨t, e⟩ := He.int_ok X G (fa (.int x i) (List.mem_append_right _ (List.mem_filterMap.mpr ⟨(x, .int i), hp, rfl⟩)))
      exact ⟨_, e, t, rfl⟩
    | str z =>
      obtain ⟨t, e⟩ := He.str_ok X G (fa (.str x z) (List.mem_append_right _ (List.mem_filterMap.mpr ⟨(x, .str z), hp, rfl⟩)))
      exact ⟨_, e, t, rfl⟩
    | _ => cases hs
  · obtain ⟨i, hi⟩ := List.getElem?_of_mem hx
    have hi' : (ds.map Df.d)[i]? = some x.d := by rw [List.getElem?_map, hi]; rfl
    obtain ⟨fd, F⟩ := c.def_ i (d := x.d) hi'
    have F' : FunD K x.t.sg.name x.t.sg.name x.ps x.t.body x.t.sc [] [] (He.ga K x.t.sg.name) fd := F
    refine ⟨fd, ⟨⟨_, _, _, _, _, F'⟩, He.glo_ok X G (fa (.glo x.t.sg.name) (List.mem_append_left _ (List.mem_append_left _ (List.mem_map.mpr ⟨x, hx, rfl⟩)))), F'.bindsN (hb x hx).all, fun t ht => kbn_of F' ((hb x hx).kw t ht)⟩⟩
/-- the law itself -/
theorem law_of {ds : List Df} {globs : List (Str × D)} {P : Program} {w : World} {K : PySem.W.Frag} {h : Heap} {mg : Str → Option Value} {fa : Addr} {i : Nat} {x : Df} {v : Str} {n wf k : Nat} (X : K.In h) (G : h.Ns mainGlobals mg) (hfa : mg x.t.sg.name = some (.ref fa)) (c : He.SaysD (allFa ds globs) (ds.map Df.d) K) (nl : NoL K)
    (hb : ∀ x ∈ ds, BindOk x) (hgl : globs.all (fun p => (globFa p).isSome) = true) (ok : (ds.map (·.t)).all (okFn ((ds.map (·.t)).map (·.sg)) globs) = true) (hx : ds[i]? = some x) (hps : x.t.sg.ps = [v]) (hmo : x.t.sg.modes = [false]) (how : x.t.sg.own = false)
    (hrun : ∀ ns : List Int, ns.length ≤ n → run ((ds.map (·.t)).map (·.fi)) wf k i [.list (ns.map .int)] = some (.bool true, [])) :
    ∃ (K : PySem.W.Frag) (fd : FuncData) (sp : Sp), K.In h ∧ (∀ (s : Shared) (u : Value), BindsTo s fd ⟨[u], []⟩ [(v, u)]) ∧
      (∀ (H : Hp) (a : Addr) (ns : List Int), ns.length ≤ n → Only H → SqL K H a (ns.map V.int) → sp [.ref a] H (fun v _ => v = .bl true) fun _ _ _ => False) ∧
      ∀ base : Heap, K.In base → base.Ns mainGlobals mg → FnOk P w K mg base CX0 k fa fd [v] sp := by
  obtain ⟨hG, hF⟩ := facts_of X G c hb hgl
  obtain ⟨fd, F⟩ := hF x (List.mem_of_getElem? hx)
  have e := hfa.symm.trans F.mg
  cases e
  have hmem := List.mem_of_getElem? hx
  have hxi : (ds.map (·.t))[i]? = some x.t := by rw [List.getElem?_map, hx]; rfl
  refine ⟨K, fd, spF K (run ((ds.map (·.t)).map (·.fi)) wf k) i x.t.sg, X, fun s u => ?_, fun H a ns hl _ hS => ?_, fun base _ _ => ?_⟩
  · obtain ⟨j, hj⟩ := List.getElem?_of_mem hmem
    have hj' : (ds.map Df.d)[i]? = some x.d := by rw [List.getElem?_map, hx]; rfl
    obtain ⟨fd', F'⟩ := c.def_ i (d := x.d) hj'
    have F' : FunD K x.t.sg.name x.t.sg.name x.ps x.t.body x.t.sc [] [] (He.ga K x.t.sg.name) fd' := F'
    obtain ⟨_, _, _, _, _, F2⟩ := F.fn
    have same : fd' = fd := by
      obtain ⟨_, _, _, _, _, _, _, _, _, _, _, l1, _⟩ := F'.ex
      obtain ⟨_, _, _, _, _, _, _, _, _, _, _, l2, _⟩ := F2.ex
      rw [l1] at l2
      cases l2
      rfl
    subst same
    have b := FunD.bindsA (ps := x.t.sg.ps) F' (hb x hmem).all s [u] (by rw [hps]; rfl)
    rw [hps] at b
    exact b
  · refine ⟨H, [.list (ns.map .int)], .bool true, [], Same.refl, by rw [hps]; rfl, ?_, ?_, hrun ns hl, fun v F' H' _ _ _ hr => ?_⟩
    · rw [hmo]
      exact ⟨.lst (nl.sq hS) (rps_ints ns), trivial⟩
    · rw [hmo]
      intro i j a h1 h2
      cases i with
      | zero => cases h1
      | succ i => simp at h1
    · rw [how, if_neg Bool.false_ne_true] at hr
      cases hr
      rfl
  · have := fns_ok (P := P) (w := w) (base := base) (wf := wf) hG (fun t ht => by
      obtain ⟨y, hy, rfl⟩ := List.mem_map.mp ht
      obtain ⟨fd, F⟩ := hF y hy
      exact ⟨_, fd, F⟩) ok k i x.t _ fd hxi F
    rw [hps] at this
    exact this
end FC

/-! Part 25: how the evaluator is worked out. -/
namespace FC
open PySem
section
variable {α β : Type} {s s' : S} {C : Calls} {w : Nat}
@[simp] theorem bnd_run {m : M α} {f : α → M β} : bnd m f s = (match m s with
  | none => none
  | some (a, s') => f a s') := rfl
@[simp] theorem gives_run {a : α} : gives a s = some (a, s) := rfl
@[simp] theorem fails_run : (fails : M α) s = none := rfl
@[simp] theorem lift_run {a : α} : lift (some a) s = some (a, s) := rfl
@[simp] theorem lift_no : lift (none : Option α) s = none := rfl
@[simp] theorem mk_v {m : M D} : (mk m).v = m := rfl
@[simp] theorem mk_t {m : M D} : (mk m).t = bnd m fun d => lift (truD d) := rfl
@[simp] theorem mk_a {m : M D} : (mk m).a = bnd m fun d => gives (.vl d) := rfl
@[simp] theorem opD1 {o : Op} {a : D} : opD o [a] = op1 o a := rfl
@[simp] theorem opD2 {o : Op} {a b : D} : opD o [a, b] = op2 o a b := rfl
@[simp] theorem resA_pl {i : Nat} : resA s (.pl i) = (match s[i]? with
    | some (some b) => some b.d
    | _ => none) := rfl
@[simp] theorem resA_ln {i : Nat} : resA s (.ln i) = (match s[i]? with
    | some (some (.own d)) => some d
    | some (some (.lent d)) => some d
    | _ => none) := rfl
@[simp] theorem resA_vl {d : D} : resA s (.vl d) = some d := rfl
@[simp] theorem resA_ow {d : D} : resA s (.ow d) = some d := rfl
@[simp] theorem resAs_nil : resAs s [] = some [] := rfl
@[simp] theorem resAs_cons {a : Ar} {r : List Ar} : resAs s (a :: r) = (match resA s a, resAs s r with
    | some d, some ds => some (d :: ds)
    | _, _ => none) := rfl
@[simp] theorem valsA_nil : valsA [] = some [] := rfl
@[simp] theorem valsA_cons {d : D} {r : List Ar} : valsA (.vl d :: r) = (match valsA r with
    | some ds => some (d :: ds)
    | none => none) := rfl
@[simp] theorem B_val {d : D} : (B.val d).d = d := rfl
@[simp] theorem B_own {d : D} : (B.own d).d = d := rfl
@[simp] theorem B_lent {d : D} : (B.lent d).d = d := rfl
end
theorem run_at {T : List FnI} {w n f : Nat} {fi : FnI} {ds : List D} (h : T[f]? = some fi) (hl : ds.length = fi.modes.length) : run T w (n + 1) f ds = endD fi (stm w (run T w n) fi.body (startS fi ds)) := by
  simp only [run, h, hl, if_true]

/-! ### comprehensions -/
theorem wipeS_len' (s : S) : ∀ vs : List Nat, (wipeS s vs).length = s.length
  | [] => rfl
  | v :: vs => by unfold wipeS; rw [List.length_set, wipeS_len' s vs]
theorem wipeS_eq {s s' : S} {vs : List Nat} (hl : s'.length = s.length) (h : ∀ i, i ∉ vs → s'[i]? = s[i]?) : wipeS s' vs = wipeS s vs := by
  have key : ∀ (vs : List Nat) (s : S) (i : Nat), (wipeS s vs)[i]? = if i ∈ vs then (if i < s.length then some none else none) else s[i]? := by
    intro vs
    induction vs with
    | nil => intro s i; simp [wipeS]
    | cons v vs ih =>
      intro s i
      unfold wipeS
      by_cases hv : v = i
      · subst hv
        by_cases hi : v < s.length
        · rw [List.getElem?_set_self (by rw [wipeS_len']; exact hi)]; simp [hi]
        · rw [List.getElem?_eq_none (by rw [List.length_set, wipeS_len']; omega)]; simp [hi]
      · rw [List.getElem?_set_ne hv, ih]
        simp [Ne.symm hv]
  apply List.ext_getElem?
  intro i
  rw [key, key, hl]
  split
  · rfl
  · rename_i hi; exact h i hi
theorem restS_self (s : S) : ∀ vs : List Nat, restS s s vs = s
  | [] => rfl
  | v :: vs => by
    unfold restS
    rw [restS_self s vs]
    apply List.ext_getElem?
    intro i
    by_cases hv : v = i
    · subst hv
      by_cases hi : v < s.length
      · rw [List.getElem?_set_self hi, List.getElem?_eq_getElem hi]; rfl
      · rw [List.getElem?_eq_none (by simpa using hi), List.getElem?_eq_none (by simpa using hi)]
    · rw [List.getElem?_set_ne hv]
/-- a comprehension's loop, with a law of what is found and of the slots -/
theorem compLoop_inv {t : Tg} {ifs : M Bool} {e : M D} (P : List D → S → Prop) : ∀ (ds acc : List D) (s : S), P acc s → acc.length + ds.length ≤ sizeLine →
    (∀ d ∈ ds, ∀ acc s, P acc s → ∃ s1 b s2, bindT t d (wipeS s t.slots) = some s1 ∧ ifs s1 = some (b, s2) ∧ (if b then ∃ y s3, e s2 = some (y, s3) ∧ P (acc ++ [y]) s3 else P acc s2)) →
    ∃ ys s', compLoop t ifs e ds acc s = some (ys, s') ∧ P ys s'
  | [], acc, s, p, _, _ => ⟨acc, s, rfl, p⟩
  | d :: ds, acc, s, p, hl, h => by
    obtain ⟨s1, b, s2, e1, e2, e3⟩ := h d List.mem_cons_self acc s p
    rw [List.length_cons] at hl
    simp only [compLoop, e1, e2]
    cases b with
    | false =>
      exact compLoop_inv P ds acc s2 e3 (by omega) fun d hd => h d (List.mem_cons_of_mem _ hd)
    | true =>
      obtain ⟨y, s3, e4, e5⟩ := e3
      simp only [e4]
      rw [if_pos (by omega)]
      exact compLoop_inv P ds (acc ++ [y]) s3 e5 (by rw [List.length_append, List.length_singleton]; omega) fun d hd => h d (List.mem_cons_of_mem _ hd)
/-- the slots stay, each item is worked out by itself -/
theorem compLoop_map {t : Tg} {ifs : M Bool} {e : M D} {s0 : S} (f : D → D) : ∀ (ds acc : List D) (s : S), wipeS s t.slots = wipeS s0 t.slots → acc.length + ds.length ≤ sizeLine →
    (∀ d ∈ ds, ∃ s1 s2 s3, bindT t d (wipeS s0 t.slots) = some s1 ∧ ifs s1 = some (true, s2) ∧ e s2 = some (f d, s3) ∧ wipeS s3 t.slots = wipeS s0 t.slots) →
    ∃ s', compLoop t ifs e ds acc s = some (acc ++ ds.map f, s') ∧ wipeS s' t.slots = wipeS s0 t.slots
  | [], acc, s, p, _, _ => ⟨s, by simp [compLoop], p⟩
  | d :: ds, acc, s, p, hl, h => by
    obtain ⟨s1, s2, s3, e1, e2, e3, e4⟩ := h d List.mem_cons_self
    rw [List.length_cons] at hl
    simp only [compLoop, p, e1, e2, e3]
    rw [if_pos (by omega)]
    obtain ⟨s', h1, h2⟩ := compLoop_map f ds (acc ++ [f d]) s3 e4 (by rw [List.length_append, List.length_singleton]; omega) fun d hd => h d (List.mem_cons_of_mem _ hd)
    exact ⟨s', by rw [h1]; simp, h2⟩
theorem restS_wipe {s0 s s' : S} : ∀ {vs : List Nat}, wipeS s' vs = wipeS s vs → s.length = s0.length → (∀ i, i ∉ vs → s[i]? = s0[i]?) → restS s0 s' vs = s0 := by
  intro vs h hl ho
  have len : ∀ (vs : List Nat) (s' : S), (restS s0 s' vs).length = s'.length := by
    intro vs
    induction vs with
    | nil => intro s'; rfl
    | cons v vs ih => intro s'; unfold restS; rw [List.length_set, ih]
  have key : ∀ (vs : List Nat) (s' : S) (i : Nat), (restS s0 s' vs)[i]? = if i ∈ vs then (if i < s'.length then some ((s0[i]?).getD none) else none) else s'[i]? := by
    intro vs
    induction vs with
    | nil => intro s i; simp [restS]
    | cons v vs ih =>
      intro s' i
      unfold restS
      by_cases hv : v = i
      · subst hv
        by_cases hi : v < s'.length
        · rw [List.getElem?_set_self (by rw [len]; exact hi)]; simp [hi]
        · rw [List.getElem?_eq_none (by rw [List.length_set, len]; omega)]; simp [hi]
      · rw [List.getElem?_set_ne hv, ih]
        simp [Ne.symm hv]
  have hl' : s'.length = s.length := by
    have := congrArg List.length h
    rwa [wipeS_len', wipeS_len'] at this
  apply List.ext_getElem?
  intro i
  rw [key]
  split
  · split
    · rw [List.getElem?_eq_getElem (by omega)]; rfl
    · rw [List.getElem?_eq_none (by omega)]
  · rename_i hi
    have e1 : ∀ (vs : List Nat) (s : S), i ∉ vs → (wipeS s vs)[i]? = s[i]? := by
      intro vs
      induction vs with
      | nil => intro s _; rfl
      | cons v vs ih =>
        intro s hn
        unfold wipeS
        rw [List.getElem?_set_ne (show v ≠ i from fun z => hn (by rw [z]; exact List.mem_cons_self)), ih s fun z => hn (List.mem_cons_of_mem _ z)]
    rw [← e1 vs s' hi, h, e1 vs s hi, ho i hi]
theorem compM_map {t : Tg} {it : M (List D)} {ifs : M Bool} {e : M D} {s s0 : S} {ds : List D} (f : D → D) (h0 : it s = some (ds, s0)) (hp : t.slots.all (plainS s0) = true) (hl : ds.length ≤ sizeLine)
    (h : ∀ d ∈ ds, ∃ s1 s2 s3, bindT t d (wipeS s0 t.slots) = some s1 ∧ ifs s1 = some (true, s2) ∧ e s2 = some (f d, s3) ∧ wipeS s3 t.slots = wipeS s0 t.slots) :
    compM t it ifs e s = some (.list (ds.map f), s0) := by
  obtain ⟨s', h1, h2⟩ := compLoop_map (s0 := s0) f ds [] s0 rfl (by simpa using hl) h
  simp only [compM, h0, hp, if_true, h1, List.nil_append]
  rw [restS_wipe h2 rfl fun _ _ => rfl]
/-- a loop with a law by the turn -/
theorem forLoop_inv {t : Tg} {b : M Fl} (P : Nat → S → Prop) (ds : List D) (hs : ∀ i d s, ds[i]? = some d → P i s → ∃ s1 s2, bindT t d s = some s1 ∧ (b s1 = some (.nx, s2) ∨ b s1 = some (.ct, s2)) ∧ P (i + 1) s2) (s : S) (h0 : P 0 s) :
    ∃ s', forLoop t b ds s = some (.nx, s') ∧ P ds.length s' := by
  have go : ∀ (k i : Nat) (s : S), k = ds.length - i → i ≤ ds.length → P i s → ∃ s', forLoop t b (ds.drop i) s = some (.nx, s') ∧ P ds.length s' := by
    intro k
    induction k with
    | zero =>
      intro i s hk hi p
      have : i = ds.length := by omega
      subst this
      exact ⟨s, by rw [List.drop_length]; rfl, p⟩
    | succ k ih =>
      intro i s hk hi p
      have hlt : i < ds.length := by omega
      obtain ⟨s1, s2, e1, e2, p2⟩ := hs i ds[i] s (List.getElem?_eq_getElem hlt) p
      obtain ⟨s', e3, p3⟩ := ih (i + 1) s2 (by omega) hlt p2
      refine ⟨s', ?_, p3⟩
      rw [List.drop_eq_getElem_cons hlt]
      simp only [forLoop, e1]
      rcases e2 with e2 | e2
      · simp only [e2, e3]
      · simp only [e2, e3]
  obtain ⟨s', h1, h2⟩ := go ds.length 0 s (by simp) (Nat.zero_le _) h0
  exact ⟨s', by simpa using h1, h2⟩
end FC

/-! Part 26: the evaluator's equations. -/
namespace FC
open PySem
def isLent : Option B → Bool
  | some (.lent _) => true
  | _ => false
def isPlain : Option B → Bool
  | none => true
  | some (.val _) => true
  | _ => false
/-- a slot with a value, or with none -/
def pv (x : Option D) : Option B := x.map .val
@[simp] theorem lent_lent {d : D} : isLent (some (.lent d)) = true := rfl
@[simp] theorem lent_val {d : D} : isLent (some (.val d)) = false := rfl
@[simp] theorem lent_own {d : D} : isLent (some (.own d)) = false := rfl
@[simp] theorem lent_none : isLent none = false := rfl
@[simp] theorem lent_pv {x : Option D} : isLent (pv x) = false := by cases x <;> rfl
@[simp] theorem lent_map {x : Option D} : isLent (x.map .val) = false := by cases x <;> rfl
@[simp] theorem isPl_val {d : D} : isPlain (some (.val d)) = true := rfl
@[simp] theorem isPl_none : isPlain none = true := rfl
@[simp] theorem isPl_own {d : D} : isPlain (some (.own d)) = false := rfl
@[simp] theorem isPl_lent {d : D} : isPlain (some (.lent d)) = false := rfl
@[simp] theorem isPl_pv {x : Option D} : isPlain (pv x) = true := by cases x <;> rfl
@[simp] theorem isPl_map {x : Option D} : isPlain (x.map .val) = true := by cases x <;> rfl
section
variable {C : Calls} {w : Nat} {s : S} {d : D} {x : Str} {i j : Nat} {e es a b c o : Ex} {t t1 : Tg} {it ifs it1 ifs1 lo hi : Ex} {p q : Sx}
@[simp] theorem sem_con : sem C (.con d) = mk (gives d) := rfl
@[simp] theorem sem_glob : sem C (.glob x d) = mk (gives d) := rfl
@[simp] theorem sem_var : sem C (.var i) = mk (rdV i) := rfl
@[simp] theorem sem_pk_a : (sem C (.pk i)).a = slotA (.pl i) := rfl
@[simp] theorem sem_pk_t : (sem C (.pk i)).t s = (match resA s (.pl i) with
      | none => none
      | some d => match truD d with
        | none => none
        | some k => some (k, s)) := rfl
@[simp] theorem sem_lend_a : (sem C (.lend i)).a = slotA (.ln i) := rfl
@[simp] theorem sem_give_a : (sem C (.give e)).a = bnd (sem C e).v fun d => if newObj d then gives (.ow d) else fails := rfl
@[simp] theorem sem_op_v {k : Op} : (sem C (.op k es)).v = opM k (sem C es).as := rfl
@[simp] theorem sem_op_t {k : Op} : (sem C (.op k es)).t = bnd (opM k (sem C es).as) fun d => lift (truD d) := rfl
@[simp] theorem sem_op_a {k : Op} : (sem C (.op k es)).a = bnd (opM k (sem C es).as) fun d => gives (.vl d) := rfl
@[simp] theorem sem_not_v : (sem C (.not a)).v = bnd (sem C a).v fun x => bnd (lift (truD x)) fun k => gives (.bool (!k)) := rfl
@[simp] theorem sem_not_a : (sem C (.not a)).a = bnd (sem C (.not a)).v fun d => gives (.vl d) := rfl
@[simp] theorem sem_not_t : (sem C (.not a)).t = bnd (sem C a).t fun k => gives (!k) := rfl
@[simp] theorem sem_and_v : (sem C (.and a b)).v = bnd (sem C a).v fun x => bnd (lift (truD x)) fun k => if k then (sem C b).v else gives x := rfl
@[simp] theorem sem_and_a : (sem C (.and a b)).a = bnd (sem C (.and a b)).v fun d => gives (.vl d) := rfl
@[simp] theorem sem_and_t : (sem C (.and a b)).t = bnd (sem C a).t fun k => if k then (sem C b).t else gives false := rfl
@[simp] theorem sem_or_v : (sem C (.or a b)).v = bnd (sem C a).v fun x => bnd (lift (truD x)) fun k => if k then gives x else (sem C b).v := rfl
@[simp] theorem sem_or_a : (sem C (.or a b)).a = bnd (sem C (.or a b)).v fun d => gives (.vl d) := rfl
@[simp] theorem sem_or_t : (sem C (.or a b)).t = bnd (sem C a).t fun k => if k then gives true else (sem C b).t := rfl
@[simp] theorem sem_chain {k l : Op} : sem C (.chain k l a b c) = mk (bnd (sem C a).v fun x => bnd (sem C b).v fun y => bnd (lift (opD k [x, y])) fun r => match r with
      | .bool true => bnd (sem C c).v fun z => lift (opD l [y, z])
      | .bool false => gives (.bool false)
      | _ => fails) := rfl
@[simp] theorem sem_ife_v : (sem C (.ife c a b)).v = bnd (sem C c).t fun k => if k then (sem C a).v else (sem C b).v := rfl
@[simp] theorem sem_ife_a : (sem C (.ife c a b)).a = bnd (sem C (.ife c a b)).v fun d => gives (.vl d) := rfl
@[simp] theorem sem_tup : sem C (.tup es) = mk (bnd (sem C es).as fun l => bnd (lift (valsA l)) fun ds => if ds.length ≤ sizeLine then gives (.tuple ds) else fails) := rfl
@[simp] theorem sem_lst : sem C (.lst es) = mk (bnd (sem C es).as fun l => bnd (lift (valsA l)) fun ds => if ds.length ≤ sizeLine then gives (.list ds) else fails) := rfl
@[simp] theorem sem_call {f : Nat} {pm : List Nat} : sem C (.call f pm es) = mk (callM C f pm (sem C es).as) := rfl
@[simp] theorem sem_mu {m : Mu} : sem C (.mu m i es) = mk (muM m i (sem C es).as) := rfl
@[simp] theorem sem_mt {m : Mt} : sem C (.mt m o es) = mk (mtM m (sem C o).a (sem C es).as) := rfl
@[simp] theorem sem_sl2 : sem C (.sl2 a lo hi) = mk (bnd (sem C a).a fun x => bnd (sem C lo).v fun l => bnd (lift (intD l)) fun i => bnd (sem C hi).v fun h => bnd (lift (intD h)) fun j s => match resA s x with
      | none => none
      | some d => match opSl (some i) (some j) d with
        | none => none
        | some r => some (r, s)) := rfl
theorem sem_comp : sem C (.comp e t it ifs) = mk (compM t (sem C it).it (sem C ifs).ts (sem C e).v) := rfl
theorem sem_comp2 : sem C (.comp2 e t it ifs t1 it1 ifs1) = mk (compM2 t (sem C it).it (sem C ifs).ts t1 (sem C it1).it (sem C ifs1).ts (sem C e).v) := rfl
@[simp] theorem sem_comp_a : (sem C (.comp e t it ifs)).a = bnd (sem C (.comp e t it ifs)).v fun d => gives (.vl d) := rfl
@[simp] theorem sem_comp_t : (sem C (.comp e t it ifs)).t = bnd (sem C (.comp e t it ifs)).v fun d => lift (truD d) := rfl
@[simp] theorem sem_comp2_a : (sem C (.comp2 e t it ifs t1 it1 ifs1)).a = bnd (sem C (.comp2 e t it ifs t1 it1 ifs1)).v fun d => gives (.vl d) := rfl
theorem comp_map {s0 : S} {ds : List D} (f : D → D) (h0 : (sem C it).it s = some (ds, s0)) (hp : t.slots.all (plainS s0) = true) (hl : ds.length ≤ sizeLine)
    (h : ∀ d ∈ ds, ∃ s1 s2 s3, bindT t d (wipeS s0 t.slots) = some s1 ∧ (sem C ifs).ts s1 = some (true, s2) ∧ (sem C e).v s2 = some (f d, s3) ∧ wipeS s3 t.slots = wipeS s0 t.slots) :
    (sem C (.comp e t it ifs)).v s = some (.list (ds.map f), s0) := compM_map f h0 hp hl h
@[simp] theorem sem_nil_as : (sem C .nil).as = gives [] := rfl
@[simp] theorem sem_nil_ts : (sem C .nil).ts = gives true := rfl
@[simp] theorem sem_cons_as : (sem C (.cons e es)).as = bnd (sem C e).a fun x => bnd (sem C es).as fun l => gives (x :: l) := rfl
@[simp] theorem sem_cons_ts : (sem C (.cons e es)).ts = bnd (sem C e).t fun k => if k then (sem C es).ts else gives false := rfl
@[simp] theorem sem_itOf : (sem C (.itOf e)).it = bnd (sem C e).v fun d => lift (walkOf d) := rfl
@[simp] theorem sem_itRange : (sem C (.itRange es)).it = bnd (sem C es).as fun l => bnd (lift (valsA l)) fun ds => match ds with
      | [.int n] => if smallI n then gives (rgD n) else fails
      | [.int a, .int b] => if smallI a && smallI b then gives (rgD2 a b) else fails
      | _ => fails := rfl
@[simp] theorem sem_itEnum : (sem C (.itEnum e)).it = bnd (sem C e).v fun d => match d with
      | .list xs => gives (enumD 0 xs)
      | _ => fails := rfl
@[simp] theorem sem_itZip : (sem C (.itZip es)).it = bnd (sem C es).as fun l => bnd (lift (valsA l)) fun ds => match ds with
      | [.list xs, .list ys] => gives (zipD xs ys)
      | [.tuple xs, .tuple ys] => gives (zipD xs ys)
      | _ => fails := rfl
@[simp] theorem opM_run {k : Op} {as : M (List Ar)} : opM k as = bnd as fun l s => match resAs s l with
    | none => none
    | some ds => match opD k ds with
      | none => none
      | some d => some (d, s) := rfl
@[simp] theorem callM_run {f : Nat} {pm : List Nat} {as : M (List Ar)} : callM C f pm as = bnd as fun l s => match permL pm l with
    | none => none
    | some l' => match resAs s l' with
      | none => none
      | some ds => match C f ds with
        | none => none
        | some (r, ls) => match backS l' ls s with
          | none => none
          | some s' => some (r, s') := rfl
@[simp] theorem slotA_run {k : Ar} : slotA k s = (match resA s k with
  | some _ => some (k, s)
  | none => none) := rfl
@[simp] theorem rdV_run : rdV i s = (match s[i]? with
  | some (some (.val d)) => some (d, s)
  | some (some (.own d)) => some (d, s.set i (some (.val d)))
  | _ => none) := rfl
@[simp] theorem permL_nil {α : Type} {l : List α} : permL [] l = some [] := rfl
@[simp] theorem permL_cons {α : Type} {l : List α} {pm : List Nat} : permL (i :: pm) l = (l[i]?).bind fun a => (permL pm l).bind fun r => some (a :: r) := by
  unfold permL
  rw [List.mapM_cons]
  rfl
@[simp] theorem backS_nil : backS [] [] s = some s := rfl
@[simp] theorem backS_ln {r : List Ar} {ds : List D} : backS (.ln i :: r) (d :: ds) s = (match mutS i d s with
    | some s' => backS r ds s'
    | none => none) := rfl
@[simp] theorem backS_ow {r : List Ar} {d' : D} {ds : List D} : backS (.ow d' :: r) (d :: ds) s = backS r ds s := rfl
@[simp] theorem backS_vl {r : List Ar} {ds : List D} : backS (.vl d :: r) ds s = backS r ds s := rfl
@[simp] theorem mutS_run : mutS i d s = (match s[i]? with
  | some (some (.own _)) => some (s.set i (some (.own d)))
  | some (some (.lent _)) => some (s.set i (some (.lent d)))
  | _ => none) := rfl
@[simp] theorem putS_run {bb : B} : putS i bb s = (match s[i]? with
  | some o => if isLent o then none else some (s.set i (some bb))
  | none => none) := by
  unfold putS
  cases h : s[i]? with
  | none => rfl
  | some o => cases o with
    | none => rfl
    | some b => cases b <;> rfl
@[simp] theorem stm_set : stm w C (.set i e) = bnd (sem C e).v fun d s => match putS i (.val d) s with
    | none => none
    | some s' => some (.nx, s') := rfl
@[simp] theorem stm_seto : stm w C (.seto i e) = bnd (sem C e).v fun d s => if newObj d then match putS i (.own d) s with
    | none => none
    | some s' => some (.nx, s') else none := rfl
@[simp] theorem stm_par {is : List Nat} : stm w C (.par is es) = bnd (sem C es).as fun l s => match bsOf l with
    | none => none
    | some bs => if bs.length = is.length then match putAll (is.zip bs) s with
      | none => none
      | some s' => some (.nx, s') else none := rfl
@[simp] theorem stm_unp {is : List Nat} : stm w C (.unp is e) = bnd (sem C e).v fun d s => match bindT (.tp is) d s with
    | none => none
    | some s' => some (.nx, s') := rfl
@[simp] theorem stm_sub : stm w C (.sub i a e) = bnd (sem C e).v fun d => bnd (slotA (.ln i)) fun _ => bnd (sem C a).v fun kd s => match resA s (.ln i) with
    | none => none
    | some x => match subD x kd d with
      | none => none
      | some x' => match mutS i x' s with
        | none => none
        | some s' => some (.nx, s') := rfl
@[simp] theorem stm_aug {k : Op} : stm w C (.aug i k e) = bnd (rdV i) fun x => bnd (sem C e).v fun y => bnd (lift (augD k x y)) fun z s => match putS i (.val z) s with
    | none => none
    | some s' => some (.nx, s') := rfl
@[simp] theorem stm_expr : stm w C (.expr e) = bnd (sem C e).v fun _ => gives .nx := rfl
@[simp] theorem stm_ret : stm w C (.ret e) = bnd (sem C e).v fun d => gives (.rt false d) := rfl
@[simp] theorem stm_reto : stm w C (.reto e) = bnd (sem C e).v fun d => if newObj d then gives (.rt true d) else fails := rfl
@[simp] theorem stm_retv : stm w C (.retv i) s = (match s[i]? with
    | some (some (.own d)) => some (.rt true d, s.set i none)
    | _ => none) := rfl
@[simp] theorem stm_retn : stm w C .retn = gives (.rt false .none) := rfl
@[simp] theorem stm_ife : stm w C (.ife c p q) = bnd (sem C c).t fun k => if k then stm w C p else stm w C q := rfl
theorem stm_for : stm w C (.for_ t it p) = bnd (sem C it).it fun ds => forLoop t (stm w C p) ds := rfl
theorem stm_while : stm w C (.while_ c p) = whileLoop (sem C c).t (stm w C p) w := rfl
@[simp] theorem stm_pass : stm w C .pass = gives .nx := rfl
@[simp] theorem stm_brk : stm w C .brk = gives .bk := rfl
@[simp] theorem stm_cont : stm w C .cont = gives .ct := rfl
@[simp] theorem stm_nil : stm w C .nil = gives .nx := rfl
@[simp] theorem stm_cons : stm w C (.cons p q) = bnd (stm w C p) fun f => match f with
    | .nx => stm w C q
    | f => gives f := rfl
end
def absI (x : Int) : Int := if x < 0 then -x else x
section
variable {a b c : D} {k l : Int} {xs ys : List D} {z z' : Str} {u v : Bool}
@[simp] theorem e_add : op2 .add a b = opAdd a b := rfl
@[simp] theorem e_sub : op2 .sub a b = opSub a b := rfl
@[simp] theorem e_mul : op2 .mul a b = opMul a b := rfl
@[simp] theorem e_fdiv : op2 .fdiv a b = opFdiv a b := rfl
@[simp] theorem e_mod : op2 .mod a b = opMod a b := rfl
@[simp] theorem e_pow : op2 .pow a b = opPow a b := rfl
@[simp] theorem e_lt : op2 .lt a b = opLt a b := rfl
@[simp] theorem e_le : op2 .le a b = opLe a b := rfl
@[simp] theorem e_gt : op2 .gt (.int k) (.int l) = some (.bool (decide (l < k))) := rfl
@[simp] theorem e_ge : op2 .ge (.int k) (.int l) = some (.bool (decide (l ≤ k))) := rfl
@[simp] theorem e_eq : op2 .eq a b = if sh a && sh b then some (.bool (PyData.eqv a b)) else none := rfl
@[simp] theorem e_ne : op2 .ne a b = if sh a && sh b then some (.bool (!PyData.eqv a b)) else none := rfl
@[simp] theorem e_ix : op2 .ix a b = opIx a b := rfl
@[simp] theorem e_sl1 : op2 (.sl true false) a b = opSl1 false a b := rfl
@[simp] theorem e_sl2 : op2 (.sl false true) a b = opSl1 true a b := rfl
@[simp] theorem e_inn : op2 .inn a b = (match opIn a b with
    | some k => some (.bool k)
    | none => none) := rfl
@[simp] theorem e_notin : op2 .notin a b = (match opIn a b with
    | some k => some (.bool (!k))
    | none => none) := rfl
@[simp] theorem e_neg : op1 .neg a = opNeg a := rfl
@[simp] theorem e_isN : op1 .isN a = some (.bool (isNone a)) := rfl
@[simp] theorem e_notN : op1 .notN a = some (.bool (!isNone a)) := rfl
@[simp] theorem e_sl0 : op1 (.sl false false) a = opSl none none a := rfl
@[simp] theorem e_rev : op1 .rev a = opRev a := rfl
@[simp] theorem e_len : op1 .len a = opLen a := rfl
@[simp] theorem e_abs : op1 .abs a = opAbs a := rfl
@[simp] theorem e_int : op1 .int a = opInt a := rfl
@[simp] theorem e_list : op1 .list a = opList a := rfl
@[simp] theorem e_tuple : op1 .tuple a = opTuple a := rfl
@[simp] theorem e_listR : op1 .listR a = opListR a := rfl
@[simp] theorem e_tupleR : op1 .tupleR a = opTupleR a := rfl
@[simp] theorem e_sorted : op1 .sorted a = opSorted a := rfl
@[simp] theorem e_sum : op1 .sum a = opSum a := rfl
@[simp] theorem e_max1 : op1 .max1 a = opMax1 a := rfl
@[simp] theorem e_min1 : op1 .min1 a = opMin1 a := rfl
@[simp] theorem e_all : op1 .all a = opAll a := rfl
@[simp] theorem e_any : op1 .any a = opAny a := rfl
@[simp] theorem e_isi {t : Ty} : op1 (.isi t) a = some (.bool (isTy t a)) := rfl
@[simp] theorem e_isis {ts : List Ty} : op1 (.isis ts) a = some (.bool (ts.any fun t => isTy t a)) := rfl
@[simp] theorem f_add : opAdd (.int k) (.int l) = some (.int (k + l)) := rfl
@[simp] theorem f_sub : opSub (.int k) (.int l) = some (.int (k - l)) := rfl
@[simp] theorem f_mul : opMul (.int k) (.int l) = if mulOk k l then some (.int (k * l)) else none := rfl
@[simp] theorem f_fdiv : opFdiv (.int k) (.int l) = if decide (0 < l) && decide (l.natAbs.log2 < 9000) then some (.int (k / l)) else none := rfl
@[simp] theorem f_mod : opMod (.int k) (.int l) = if decide (0 < l) then some (.int (k % l)) else none := rfl
@[simp] theorem f_lt : opLt (.int k) (.int l) = some (.bool (decide (k < l))) := rfl
@[simp] theorem f_le : opLe (.int k) (.int l) = some (.bool (decide (k ≤ l))) := rfl
@[simp] theorem f_neg : opNeg (.int k) = some (.int (-k)) := rfl
@[simp] theorem f_ixL : opIx (.list xs) (.int k) = L2.atI xs k := rfl
@[simp] theorem f_ixT : opIx (.tuple xs) (.int k) = L2.atI xs k := rfl
@[simp] theorem f_abs : opAbs (.int k) = some (.int (absI k)) := rfl
@[simp] theorem f_int : opInt (.int k) = some (.int k) := rfl
@[simp] theorem f_intB : opInt (.bool u) = some (.int (if u then 1 else 0)) := rfl
@[simp] theorem f_listL : opList (.list xs) = some (.list xs) := rfl
@[simp] theorem f_listT : opList (.tuple xs) = some (.list xs) := rfl
@[simp] theorem f_tupL : opTuple (.list xs) = some (.tuple xs) := rfl
@[simp] theorem f_tupT : opTuple (.tuple xs) = some (.tuple xs) := rfl
@[simp] theorem f_lenL : opLen (.list xs) = some (.int xs.length) := rfl
@[simp] theorem f_lenT : opLen (.tuple xs) = some (.int xs.length) := rfl
@[simp] theorem f_revL : opRev (.list xs) = some (.list xs.reverse) := rfl
@[simp] theorem f_revT : opRev (.tuple xs) = some (.tuple xs.reverse) := rfl
@[simp] theorem f_sl1a : opSl1 false a (.int k) = opSl (some k) none a := rfl
@[simp] theorem f_sl1b : opSl1 true a (.int k) = opSl none (some k) a := rfl
@[simp] theorem f_slL {lo hi : Option Int} : opSl lo hi (.list xs) = some (.list (cutD xs lo hi)) := rfl
@[simp] theorem f_slT {lo hi : Option Int} : opSl lo hi (.tuple xs) = some (.tuple (cutD xs lo hi)) := rfl
@[simp] theorem t_none : truD .none = some false := rfl
@[simp] theorem t_bool : truD (.bool u) = some u := rfl
@[simp] theorem t_int : truD (.int k) = some (k != 0) := rfl
@[simp] theorem t_list : truD (.list xs) = some (!xs.isEmpty) := rfl
@[simp] theorem t_tuple : truD (.tuple xs) = some (!xs.isEmpty) := rfl
@[simp] theorem n_list : newObj (.list xs) = true := rfl
@[simp] theorem w_list : walkOf (.list xs) = some xs := rfl
@[simp] theorem w_tuple : walkOf (.tuple xs) = some xs := rfl
@[simp] theorem i_int : intD (.int k) = some k := rfl
@[simp] theorem bindT_nm {i : Nat} {s : S} : bindT (.nm i) a s = putS i (.val a) s := rfl
@[simp] theorem slots_nm {i : Nat} : (Tg.nm i).slots = [i] := rfl
@[simp] theorem slots_tp {is : List Nat} : (Tg.tp is).slots = is := rfl
@[simp] theorem wipe_nil {s : S} : wipeS s [] = s := rfl
@[simp] theorem wipe_cons {s : S} {i : Nat} {is : List Nat} : wipeS s (i :: is) = (wipeS s is).set i none := rfl
@[simp] theorem plain_run {s : S} {i : Nat} : plainS s i = (match s[i]? with
  | some o => isPlain o
  | none => false) := by
  unfold plainS
  cases h : s[i]? with
  | none => rfl
  | some o => cases o with
    | none => rfl
    | some b => cases b <;> rfl
@[simp] theorem ix0 {x : D} : L2.atI (x :: xs) 0 = some x := by
  unfold L2.atI L2.ixN
  simp
end
end FC

/-! neighbours that undo one another, taken out -/
namespace FC
section
variable {α : Type} [DecidableEq α] (inv : α → α)
/-- a letter upon a stack -/
def push (st : List α) (x : α) : List α :=
  match st with
  | [] => [x]
  | y :: r => if y = inv x then r else x :: y :: r
def red (st : List α) : List α → List α
  | [] => st
  | x :: r => red (push inv st x) r
/-- no two neighbours of a stack undo one another -/
def Rd : List α → Prop
  | [] => True
  | [_] => True
  | x :: y :: r => y ≠ inv x ∧ Rd (y :: r)
theorem Rd_tail {x : α} {r : List α} (h : Rd inv (x :: r)) : Rd inv r := by
  cases r with
  | nil => trivial
  | cons y r => exact h.2
theorem push_rd {st : List α} {x : α} (h : Rd inv st) : Rd inv (push inv st x) := by
  cases st with
  | nil => trivial
  | cons y r =>
    show Rd inv (if y = inv x then r else x :: y :: r)
    split
    · exact Rd_tail inv h
    · rename_i hn; exact ⟨hn, h⟩
variable (hi : ∀ x, inv (inv x) = x)
include hi in
theorem push_push {st : List α} {x : α} (h : Rd inv st) : push inv (push inv st x) (inv x) = st := by
  cases st with
  | nil =>
    show (if x = inv (inv x) then [] else _) = _
    rw [hi, if_pos rfl]
  | cons y r =>
    show push inv (if y = inv x then r else x :: y :: r) (inv x) = y :: r
    by_cases hy : y = inv x
    · rw [if_pos hy]
      cases r with
      | nil => show [inv x] = _; rw [hy]
      | cons z q =>
        have hz : z ≠ inv (inv x) := by rw [← hy]; exact h.1
        show (if z = inv (inv x) then q else inv x :: z :: q) = _
        rw [if_neg hz, hy]
    · rw [if_neg hy]
      show (if x = inv (inv x) then y :: r else _) = _
      rw [hi, if_pos rfl]
theorem red_append (u v : List α) : ∀ st : List α, red inv st (u ++ v) = red inv (red inv st u) v := by
  induction u with
  | nil => intro st; rfl
  | cons x u ih => intro st; exact ih _
theorem red_rd (u : List α) : ∀ st : List α, Rd inv st → Rd inv (red inv st u) := by
  induction u with
  | nil => intro st h; exact h
  | cons x u ih => intro st h; exact ih _ (push_rd inv h)
include hi in
theorem red_out (u v : List α) (x : α) : red inv [] (u ++ x :: inv x :: v) = red inv [] (u ++ v) := by
  rw [red_append, red_append]
  show red inv (push inv (push inv _ x) (inv x)) v = _
  rw [push_push inv hi (red_rd inv u [] trivial)]
/-- no two neighbours of a word undo one another -/
def Fr : List α → Prop
  | [] => True
  | [_] => True
  | x :: y :: r => inv x ≠ y ∧ Fr (y :: r)
include hi in
theorem red_fr (w : List α) : ∀ (x : α) (st : List α), Fr inv (x :: w) → red inv (x :: st) w = w.reverse ++ (x :: st) := by
  induction w with
  | nil => intro x st _; rfl
  | cons y w ih =>
    intro x st h
    have hy : x ≠ inv y := fun e => h.1 (by rw [e, hi])
    show red inv (if x = inv y then st else y :: x :: st) w = _
    rw [if_neg hy, ih y (x :: st) h.2]
    simp
include hi in
theorem red_free (w : List α) (h : Fr inv w) : red inv [] w = w.reverse := by
  cases w with
  | nil => rfl
  | cons x w =>
    show red inv [x] w = _
    rw [red_fr inv hi w x [] h]
    simp
/-- the tidy word -/
def tidyW (w : List α) : List α := (red inv [] w).reverse
include hi in
theorem tidy_out (u v : List α) (x : α) : tidyW inv (u ++ x :: inv x :: v) = tidyW inv (u ++ v) := by
  unfold tidyW
  rw [red_out inv hi]
include hi in
theorem tidy_free (w : List α) (h : Fr inv w) : tidyW inv w = w := by
  unfold tidyW
  rw [red_free inv hi w h, List.reverse_reverse]
theorem fr_of_spots (w : List α) : (∀ k (h : k + 1 < w.length), inv w[k] ≠ w[k + 1]) → Fr inv w := by
  induction w with
  | nil => intro _; trivial
  | cons x w ih =>
    intro h
    cases w with
    | nil => trivial
    | cons y w =>
      refine ⟨h 0 (by simp), ih fun k hk => ?_⟩
      have := h (k + 1) (by simp at hk ⊢; omega)
      simpa using this
end
end FC

/-! Part 27: data that recur. -/
namespace FC
open PySem
theorem run_at' {T : List FnI} {w n f : Nat} {fi : FnI} {ds : List D} (h : T[f]? = some fi) (hn : 1 ≤ n) (hl : ds.length = fi.modes.length) : run T w n f ds = endD fi (stm w (run T w (n - 1)) fi.body (startS fi ds)) := by
  obtain ⟨m, rfl⟩ : ∃ m, n = m + 1 := ⟨n - 1, by omega⟩
  exact run_at h hl
theorem compM_inv {t : Tg} {it : M (List D)} {ifs : M Bool} {e : M D} {s s0 : S} {ds : List D} (P : List D → S → Prop) (h0 : it s = some (ds, s0)) (hp : t.slots.all (plainS s0) = true) (hl : ds.length ≤ sizeLine) (p0 : P [] s0)
    (h : ∀ d ∈ ds, ∀ acc s, P acc s → ∃ s1 b s2, bindT t d (wipeS s t.slots) = some s1 ∧ ifs s1 = some (b, s2) ∧ (if b then ∃ y s3, e s2 = some (y, s3) ∧ P (acc ++ [y]) s3 else P acc s2)) :
    ∃ ys s', compM t it ifs e s = some (.list ys, restS s0 s' t.slots) ∧ P ys s' := by
  obtain ⟨ys, s', h1, h2⟩ := compLoop_inv P ds [] s0 p0 (by simpa using hl) h
  refine ⟨ys, s', ?_, h2⟩
  simp only [compM, h0, hp, if_true, h1]
theorem comp_inv {C : Calls} {e it ifs : Ex} {t : Tg} {s s0 : S} {ds : List D} (P : List D → S → Prop) (h0 : (sem C it).it s = some (ds, s0)) (hp : t.slots.all (plainS s0) = true) (hl : ds.length ≤ sizeLine) (p0 : P [] s0)
    (h : ∀ d ∈ ds, ∀ acc s, P acc s → ∃ s1 b s2, bindT t d (wipeS s t.slots) = some s1 ∧ (sem C ifs).ts s1 = some (b, s2) ∧ (if b then ∃ y s3, (sem C e).v s2 = some (y, s3) ∧ P (acc ++ [y]) s3 else P acc s2)) :
    ∃ ys s', (sem C (.comp e t it ifs)).v s = some (.list ys, restS s0 s' t.slots) ∧ P ys s' := compM_inv P h0 hp hl p0 h
@[simp] theorem rest_nil {s0 s : S} : restS s0 s [] = s := rfl
@[simp] theorem rest_cons {s0 s : S} {i : Nat} {is : List Nat} : restS s0 s (i :: is) = (restS s0 s is).set i ((s0[i]?).getD none) := rfl
/-- an urn: what is left of a great number, a seed, how often it was asked -/
def urn (a b c : Int) : D := .list [.int a, .int b, .int c]
theorem ixN_nat {n k : Nat} (h : k < n) : L2.ixN n (k : Int) = some k := by
  unfold L2.ixN
  simp [h]
theorem atI_nat {α : Type} {xs : List α} (k : Nat) : L2.atI xs (k : Int) = xs[k]? := by
  by_cases h : k < xs.length
  · unfold L2.atI
    rw [ixN_nat h]
    rfl
  · unfold L2.atI L2.ixN
    rw [List.getElem?_eq_none (by omega)]
    simp
    omega
@[simp] theorem atI1 {x y : D} {r : List D} : L2.atI (x :: y :: r) 1 = some y := atI_nat 1
@[simp] theorem atI2 {x y z : D} {r : List D} : L2.atI (x :: y :: z :: r) 2 = some z := atI_nat 2
theorem atI_last {α : Type} {xs : List α} {x : α} : L2.atI (xs ++ [x]) (-1) = some x := by
  unfold L2.atI L2.ixN
  simp
  have : ((-1 : Int) + ((xs.length : Int) + 1)).toNat = xs.length := by omega
  rw [if_pos (by omega)]
  show (xs ++ [x])[((-1 : Int) + ((xs.length : Int) + 1)).toNat]? = some x
  rw [this]
  simp
theorem sub_nat {xs : List D} {k : Nat} {d : D} (h : k < xs.length) : subD (.list xs) (.int (k : Int)) d = some (.list (xs.set k d)) := by
  simp only [subD, ixN_nat h]
@[simp] theorem sub0 {x d : D} {r : List D} : subD (.list (x :: r)) (.int 0) d = some (.list (d :: r)) := sub_nat (k := 0) (by simp)
@[simp] theorem sub2 {x y z d : D} {r : List D} : subD (.list (x :: y :: z :: r)) (.int 2) d = some (.list (x :: y :: d :: r)) := sub_nat (k := 2) (by simp)
theorem mul_ok {i j : Int} (h : -(2 ^ 64) < j ∧ j < 2 ^ 64) : mulOk i j = true := by
  unfold mulOk
  simp only [Bool.or_eq_true, Bool.and_eq_true, decide_eq_true_eq]
  exact .inl (.inr h)
theorem mul_ok' {i j : Int} (h : -(2 ^ 64) < i ∧ i < 2 ^ 64) : mulOk i j = true := by
  unfold mulOk
  simp only [Bool.or_eq_true, Bool.and_eq_true, decide_eq_true_eq]
  exact .inl (.inl h)
def once (b c : Int) : Int := (b + 48271 * c) * (39373 + c) % 2147483647
def twice (b c : Int) : Int := (once b c + c + b / 1000003) * (once b c % 40009 + 7) % 2147483629
def drawn (b c m : Int) : Int := (twice b c * 48271 + once b c) % 2147483587 / 64 % m
/-- an urn that was asked at most so often -/
def Urn (N : Nat) (u : D) : Prop := ∃ a b c : Int, u = urn a b c ∧ 0 ≤ a ∧ 0 ≤ c ∧ c ≤ N
theorem Urn.mono {N M : Nat} {u : D} (h : Urn N u) (hn : N ≤ M) : Urn M u := by
  obtain ⟨a, b, c, e, h1, h2, h3⟩ := h
  exact ⟨a, b, c, e, h1, h2, by omega⟩
theorem log_lt {m : Int} (h : m.natAbs < 2 ^ 8999) : m.natAbs.log2 < 9000 := by
  by_cases h0 : m.natAbs = 0
  · rw [h0]
    decide +kernel
  · exact Nat.lt_of_lt_of_le ((Nat.log2_lt h0).mpr h) (by omega)
theorem log_lt' {m : Int} (h0 : 0 ≤ m) (h : m < 2 ^ 200) : m.natAbs.log2 < 9000 := log_lt (by
  have h1 : (m.natAbs : Int) < 2 ^ 200 := by omega
  have h2 : m.natAbs < 2 ^ 200 := by exact_mod_cast h1
  exact Nat.lt_of_lt_of_le h2 (Nat.pow_le_pow_right (by decide) (by decide)))
theorem mul_b {y : Int} {p : Prop} [Decidable p] : mulOk y (if p then 1 else 0) = true := mul_ok (by split <;> decide)
theorem abs_nn (x : Int) : 0 ≤ absI x := by unfold absI; split <;> omega
theorem ite_nn {p : Prop} [Decidable p] : (0 : Int) ≤ (if p then 1 else 0) := by split <;> omega
theorem sIx_nat {n d k : Nat} : HT.sIx n d (some (k : Int)) = min k n := by
  unfold HT.sIx
  simp
  omega
theorem cut_take {α : Type} {xs : List α} {k : Nat} : cutD xs none (some (k : Int)) = xs.take k := by
  unfold cutD
  rw [sIx_nat]
  show (xs.drop 0).take (min k xs.length - 0) = xs.take k
  rw [List.drop_zero, Nat.sub_zero]
  by_cases h : k ≤ xs.length
  · rw [Nat.min_eq_left h]
  · rw [Nat.min_eq_right (by omega), List.take_of_length_le (Nat.le_refl _), List.take_of_length_le (by omega)]
theorem cut_mid {α : Type} {xs : List α} {k l : Nat} : cutD xs (some (k : Int)) (some (l : Int)) = (xs.drop k).take (l - k) := by
  unfold cutD
  rw [sIx_nat, sIx_nat]
  by_cases h : k ≤ xs.length
  · rw [Nat.min_eq_left h]
    by_cases h2 : l ≤ xs.length
    · rw [Nat.min_eq_left h2]
    · rw [Nat.min_eq_right (by omega), List.take_of_length_le (by rw [List.length_drop]; omega), List.take_of_length_le (by rw [List.length_drop]; omega)]
  · have e : min k xs.length = xs.length := by omega
    rw [e, List.drop_eq_nil_of_le (Nat.le_refl _), List.drop_eq_nil_of_le (by omega), List.take_nil, List.take_nil]
theorem cut_drop {α : Type} {xs : List α} {k : Nat} : cutD xs (some (k : Int)) none = xs.drop k := by
  unfold cutD
  rw [sIx_nat]
  show (xs.drop (min k xs.length)).take (xs.length - min k xs.length) = xs.drop k
  by_cases h : k ≤ xs.length
  · rw [Nat.min_eq_left h, List.take_of_length_le (by rw [List.length_drop]; omega)]
  · rw [Nat.min_eq_right (by omega), List.drop_eq_nil_of_le (Nat.le_refl _), List.drop_eq_nil_of_le (by omega), List.take_nil]
/-! ### data of a bounded depth, without dicts -/
def flat : Nat → D → Prop
  | 0, .list _ => False
  | 0, .tuple _ => False
  | n + 1, .list xs => xs.length ≤ sizeLine ∧ ∀ x ∈ xs, flat n x
  | n + 1, .tuple xs => xs.length ≤ sizeLine ∧ ∀ x ∈ xs, flat n x
  | _, .dict _ => False
  | _, .str z => PyData.strOk z = true
  | _, _ => True
def plainD : Nat → D → D
  | n + 1, .list xs => .tuple (xs.map (plainD n))
  | n + 1, .tuple xs => .tuple (xs.map (plainD n))
  | _, d => d
def listsD : Nat → D → D
  | n + 1, .list xs => .list (xs.map (listsD n))
  | n + 1, .tuple xs => .list (xs.map (listsD n))
  | _, d => d
theorem flat_mono : ∀ {n : Nat} {d : D}, flat n d → flat (n + 1) d := by
  intro n
  induction n with
  | zero => intro d h; cases d <;> first | exact h | exact h.elim
  | succ n ih =>
    intro d h
    cases d with
    | list xs => exact ⟨h.1, fun x hx => ih (h.2 x hx)⟩
    | tuple xs => exact ⟨h.1, fun x hx => ih (h.2 x hx)⟩
    | _ => exact h
theorem flat_le {n m : Nat} {d : D} (h : flat n d) (hm : n ≤ m) : flat m d := by
  induction hm with
  | refl => exact h
  | step _ ih => exact flat_mono ih
theorem depthAll_le {k : Nat} : ∀ xs : List D, (∀ x ∈ xs, PyData.depth x ≤ k) → PyData.depthAll xs ≤ k
  | [], _ => Nat.zero_le _
  | x :: xs, h => by
    unfold PyData.depthAll
    exact Nat.max_le.mpr ⟨h x List.mem_cons_self, depthAll_le xs fun y hy => h y (List.mem_cons_of_mem _ hy)⟩
theorem layAll {p : D → Prop} : ∀ xs : List D, (∀ x ∈ xs, PyData.canLay0 x = true) → PyData.canLayAll0 xs = true
  | [], _ => rfl
  | x :: xs, h => by
    unfold PyData.canLayAll0
    rw [h x List.mem_cons_self, layAll (p := p) xs fun y hy => h y (List.mem_cons_of_mem _ hy)]
    rfl
theorem flat_depth : ∀ {n : Nat} {d : D}, flat n d → PyData.depth d ≤ n ∧ PyData.canLay0 d = true := by
  intro n
  induction n with
  | zero => intro d h; cases d <;> first | exact h.elim | exact ⟨Nat.le_refl _, by first | rfl | exact h⟩
  | succ n ih =>
    intro d h
    cases d with
    | list xs =>
      refine ⟨?_, ?_⟩
      · unfold PyData.depth; exact Nat.succ_le_succ (depthAll_le xs fun x hx => (ih (h.2 x hx)).1)
      · unfold PyData.canLay0; exact layAll (p := fun _ => True) xs fun x hx => (ih (h.2 x hx)).2
    | tuple xs =>
      refine ⟨?_, ?_⟩
      · unfold PyData.depth; exact Nat.succ_le_succ (depthAll_le xs fun x hx => (ih (h.2 x hx)).1)
      · unfold PyData.canLay0; exact layAll (p := fun _ => True) xs fun x hx => (ih (h.2 x hx)).2
    | dict _ => exact h.elim
    | str z => exact ⟨Nat.zero_le _, h⟩
    | _ => exact ⟨Nat.zero_le _, rfl⟩
theorem flat_sh {n : Nat} {d : D} (h : flat n d) (hn : n ≤ 64) : sh d = true := by
  have h2 := flat_depth h
  unfold sh SeqAt.shaped
  rw [h2.2]
  simp
  omega
theorem eqvAll_self : ∀ xs : List D, (∀ x ∈ xs, PyData.eqv x x = true) → PyData.eqvAll xs xs = true
  | [], _ => rfl
  | x :: xs, h => by
    unfold PyData.eqvAll
    rw [h x List.mem_cons_self, eqvAll_self xs fun y hy => h y (List.mem_cons_of_mem _ hy)]
    rfl
theorem flat_eqv : ∀ {n : Nat} {d : D}, flat n d → PyData.eqv d d = true := by
  intro n
  induction n with
  | zero => intro d h; cases d <;> first | exact h.elim | simp [PyData.eqv]
  | succ n ih =>
    intro d h
    cases d with
    | list xs => unfold PyData.eqv; exact eqvAll_self xs fun x hx => ih (h.2 x hx)
    | tuple xs => unfold PyData.eqv; exact eqvAll_self xs fun x hx => ih (h.2 x hx)
    | dict _ => exact h.elim
    | _ => simp [PyData.eqv]
@[simp] theorem sh_bool (b : Bool) : sh (.bool b) = true := by cases b <;> rfl
@[simp] theorem sh_int (i : Int) : sh (.int i) = true := rfl
@[simp] theorem sh_none : sh .none = true := rfl
@[simp] theorem sh_nil : sh (.list []) = true := rfl
@[simp] theorem eqv_bool (a b : Bool) : PyData.eqv (.bool a) (.bool b) = (a == b) := by unfold PyData.eqv; rfl
@[simp] theorem eqv_int (a b : Int) : PyData.eqv (.int a) (.int b) = (a == b) := by unfold PyData.eqv; rfl
@[simp] theorem eqv_str (a b : Str) : PyData.eqv (.str a) (.str b) = (a == b) := by unfold PyData.eqv; rfl
/-! ### DEEDs -/
abbrev Dd := Str × Bool
def dash : Str := "-"
def dS (p : Dd) : Str := if p.2 then p.1 ++ dash else p.1
def dD (p : Dd) : D := .str (dS p)
def dInv (p : Dd) : Dd := (p.1, !p.2)
theorem dInv2 (p : Dd) : dInv (dInv p) = p := by unfold dInv; simp
/-- a NOTE: signs, the last one no dash -/
def okN (z : Str) : Prop := (∃ l c, z.cps.toList = l ++ [c] ∧ c ≠ 45) ∧ z.length ≤ 1000 ∧ PyData.strOk z = true
theorem dash_list : dash.cps.toList = [45] := by decide +kernel
theorem str_ext {a b : Str} (h : a.cps.toList = b.cps.toList) : a = b := by
  cases a; cases b
  simp at h
  rw [h]
theorem app_list (a b : Str) : (a ++ b).cps.toList = a.cps.toList ++ b.cps.toList := by
  show (a.cps ++ b.cps).toList = _
  simp
theorem len_list (a : Str) : a.length = a.cps.toList.length := by simp [Str.length]
theorem subAt_end (z y : Str) (hl : y.length ≤ z.length) : Builtin.Str.subAt z y (z.length - y.length) = decide (z.cps.toList.drop (z.length - y.length) = y.cps.toList) := by
  unfold Builtin.Str.subAt
  have e : z.length - y.length + y.length = z.length := by omega
  rw [e, Bool.eq_iff_iff]
  simp only [beq_iff_eq, decide_eq_true_eq]
  constructor
  · intro h
    rw [← h, Array.toList_extract]
    rw [List.extract_eq_take_drop]
    rw [List.take_of_length_le (by simp [Str.length])]
  · intro h
    apply Array.ext'
    rw [← h, Array.toList_extract, List.extract_eq_take_drop, List.take_of_length_le (by simp [Str.length])]
theorem ends_dash (p : Dd) (h : okN p.1) : Txt.endswith (dS p) dash = p.2 := by
  obtain ⟨⟨l, c, e, hc⟩, _, _⟩ := h
  have dl : dash.length = 1 := by rw [len_list, dash_list]; rfl
  have key : ∀ (l : List Nat) (c : Nat) (z : Str), z.cps.toList = l ++ [c] → Txt.endswith z dash = decide (c = 45) := by
    intro l c z e
    have hz : z.length = l.length + 1 := by rw [len_list, e]; simp
    unfold Txt.endswith
    rw [subAt_end z dash (by omega), dl, hz, e, dash_list]
    simp
  unfold dS
  cases hb : p.2 with
  | false =>
    simp only [Bool.false_eq_true, if_false]
    rw [key l c _ e]
    simp [hc]
  | true =>
    simp only [if_true]
    rw [key p.1.cps.toList 45 _ (by rw [app_list, dash_list])]
    rfl
theorem cut_dash (z : Str) : L2.cutS (z ++ dash) none (some (-1)) = z := by
  apply str_ext
  unfold L2.cutS
  have hz : (z ++ dash).length = z.length + 1 := by rw [len_list, app_list, dash_list, len_list]; simp
  rw [hz]
  show ((List.drop 0 (z ++ dash).cps.toList).take (HT.sIx (z.length + 1) (z.length + 1) (some (-1)) - 0)) = z.cps.toList
  have : HT.sIx (z.length + 1) (z.length + 1) (some (-1)) = z.length := by
    unfold HT.sIx
    simp
    omega
  rw [this, app_list, dash_list, len_list]
  simp
theorem last_dS (p : Dd) (h : okN p.1) : ∃ c, L2.atI (dS p).cps.toList (-1) = some c ∧ (decide (c = 45)) = p.2 := by
  obtain ⟨⟨l, c, e, hc⟩, _, _⟩ := h
  unfold dS
  cases hb : p.2 with
  | false =>
    simp only [Bool.false_eq_true, if_false]
    exact ⟨c, by rw [e, atI_last], by simp [hc]⟩
  | true =>
    simp only [if_true]
    exact ⟨45, by rw [app_list, dash_list, atI_last], by simp⟩
theorem dS_len (p : Dd) (h : okN p.1) : (dS p).length ≤ 1001 := by
  have := h.2.1
  unfold dS
  split
  · rw [len_list, app_list, dash_list]
    rw [len_list] at this
    simp at this ⊢
    omega
  · omega
theorem dS_ok (p : Dd) (h : okN p.1) : PyData.strOk (dS p) = true := by
  have := h.2.2
  unfold dS
  split
  · unfold PyData.strOk at this ⊢
    show (p.1.cps ++ dash.cps).all _ = true
    rw [Array.all_append, this]
    decide +kernel
  · exact this
theorem dS_inj (p q : Dd) (hp : okN p.1) (hq : okN q.1) (h : dS p = dS q) : p = q := by
  have e : p.2 = q.2 := by rw [← ends_dash p hp, ← ends_dash q hq, h]
  obtain ⟨a, b⟩ := p
  obtain ⟨c, d⟩ := q
  simp only at e
  subst e
  unfold dS at h
  cases b with
  | false => simp at h; rw [h]
  | true =>
    simp at h
    have : a = c := by rw [← cut_dash a, h, cut_dash]
    rw [this]
def okW (w : List Dd) : Prop := ∀ p ∈ w, okN p.1
def eW (w : List Dd) : D := .tuple (w.map dD)
def lW (w : List Dd) : D := .list (w.map dD)
def eP (p : List (List Dd × Int)) : D := .tuple (p.map fun x => .tuple [eW x.1, .int x.2])
def lP (p : List (List Dd × Int)) : D := .list (p.map fun x => .list [lW x.1, .int x.2])
theorem dD_flat {p : Dd} (h : okN p.1) (k : Nat) : flat k (dD p) := by
  cases k <;> exact dS_ok p h
theorem eW_flat {w : List Dd} (h : okW w) (hl : w.length ≤ sizeLine) (k : Nat) : flat (k + 1) (eW w) := by
  refine ⟨by simpa using hl, fun x hx => ?_⟩
  obtain ⟨p, hp, rfl⟩ := List.mem_map.mp hx
  exact dD_flat (h p hp) k
theorem lW_flat {w : List Dd} (h : okW w) (hl : w.length ≤ sizeLine) (k : Nat) : flat (k + 1) (lW w) := by
  refine ⟨by simpa using hl, fun x hx => ?_⟩
  obtain ⟨p, hp, rfl⟩ := List.mem_map.mp hx
  exact dD_flat (h p hp) k
def okP (p : List (List Dd × Int)) : Prop := ∀ x ∈ p, okW x.1 ∧ x.1.length ≤ sizeLine
theorem eP_flat {p : List (List Dd × Int)} (h : okP p) (hl : p.length ≤ sizeLine) (k : Nat) : flat (k + 3) (eP p) := by
  refine ⟨by simpa using hl, fun x hx => ?_⟩
  obtain ⟨q, hq, rfl⟩ := List.mem_map.mp hx
  refine ⟨by show 2 ≤ sizeLine; decide, fun y hy => ?_⟩
  simp only [List.mem_cons, List.not_mem_nil, or_false] at hy
  rcases hy with rfl | rfl
  · exact eW_flat (h q hq).1 (h q hq).2 k
  · trivial
theorem lP_flat {p : List (List Dd × Int)} (h : okP p) (hl : p.length ≤ sizeLine) (k : Nat) : flat (k + 3) (lP p) := by
  refine ⟨by simpa using hl, fun x hx => ?_⟩
  obtain ⟨q, hq, rfl⟩ := List.mem_map.mp hx
  refine ⟨by show 2 ≤ sizeLine; decide, fun y hy => ?_⟩
  simp only [List.mem_cons, List.not_mem_nil, or_false] at hy
  rcases hy with rfl | rfl
  · exact lW_flat (h q hq).1 (h q hq).2 k
  · trivial
@[simp] theorem plain_dD (k : Nat) (p : Dd) : plainD k (dD p) = dD p := by cases k <;> rfl
@[simp] theorem lists_dD (k : Nat) (p : Dd) : listsD k (dD p) = dD p := by cases k <;> rfl
@[simp] theorem plain_int (k : Nat) (i : Int) : plainD k (.int i) = .int i := by cases k <;> rfl
@[simp] theorem lists_int (k : Nat) (i : Int) : listsD k (.int i) = .int i := by cases k <;> rfl
@[simp] theorem plain_eW (k : Nat) (w : List Dd) : plainD (k + 1) (eW w) = eW w := by simp [eW, plainD, Function.comp_def]
@[simp] theorem plain_lW (k : Nat) (w : List Dd) : plainD (k + 1) (lW w) = eW w := by simp [eW, lW, plainD, Function.comp_def]
@[simp] theorem lists_eW (k : Nat) (w : List Dd) : listsD (k + 1) (eW w) = lW w := by simp [eW, lW, listsD, Function.comp_def]
@[simp] theorem plain_eP (k : Nat) (p : List (List Dd × Int)) : plainD (k + 3) (eP p) = eP p := by
  have h : ∀ w, plainD (k + 1) (eW w) = eW w := plain_eW k
  simp [eP, plainD, Function.comp_def, h]
@[simp] theorem plain_lP (k : Nat) (p : List (List Dd × Int)) : plainD (k + 3) (lP p) = eP p := by
  have h : ∀ w, plainD (k + 1) (lW w) = eW w := plain_lW k
  simp [eP, lP, plainD, Function.comp_def, h]
@[simp] theorem lists_eP (k : Nat) (p : List (List Dd × Int)) : listsD (k + 3) (eP p) = lP p := by
  have h : ∀ w, listsD (k + 1) (eW w) = lW w := lists_eW k
  simp [eP, lP, listsD, Function.comp_def, h]
end FC
namespace FC
open PySem
@[simp] theorem dash_eq : Str.ofString "-" = dash := rfl
theorem z1001 {z : Str} (h : z.length ≤ 1001) : z.length ≤ sizeLine := Nat.le_trans h (by decide)
/-- the length of a DEED fits -/
theorem dS_size (p : Dd) (h : okN p.1) : (dS p).length ≤ sizeLine := z1001 (dS_len p h)
theorem add_dash (z : Str) (h : z.length ≤ 1000) : opAdd (.str z) (.str dash) = some (.str (z ++ dash)) := by
  have dl : dash.length = 1 := by rw [len_list, dash_list]; rfl
  have : (1001 : Nat) ≤ sizeLine := by decide
  simp only [opAdd, dl]
  rw [if_pos (by omega)]
/-- a WORD the other way about -/
def bw (w : List Dd) : List Dd := w.reverse.map dInv
theorem bw_ok {w : List Dd} (h : okW w) : okW (bw w) := by
  intro p hp
  obtain ⟨q, hq, rfl⟩ := List.mem_map.mp hp
  exact h q (List.mem_reverse.mp hq)
@[simp] theorem bw_len (w : List Dd) : (bw w).length = w.length := by simp [bw]
def pback (p : List (List Dd × Int)) : List (List Dd × Int) := p.reverse.map fun x => (x.1, -x.2)
theorem absI_nn (x : Int) : 0 ≤ absI x := abs_nn x
def sizeP (p : List (List Dd × Int)) : Int := (p.map fun x => (x.1.length : Int) * absI x.2).sum
def smallW (p : List (List Dd × Int)) : List Dd := p.flatMap fun x => (List.replicate (absI x.2).toNat (if 0 < x.2 then x.1 else bw x.1)).flatten
theorem intsOf_map (l : List Int) : intsOf (l.map PyData.int) = some l := by
  induction l with
  | nil => rfl
  | cons x l ih => simp [intsOf, ih]
theorem take_succ_get {α : Type} {l : List α} {i : Nat} {x : α} (h : l[i]? = some x) : l.take (i + 1) = l.take i ++ [x] := by
  obtain ⟨hi, rfl⟩ := List.getElem?_eq_some_iff.mp h
  exact List.take_succ_eq_append_getElem hi
theorem take_all {α : Type} {l : List α} : l.take l.length = l := List.take_length
theorem map_get {α β : Type} {f : α → β} {l : List α} {i : Nat} {y : β} (h : (l.map f)[i]? = some y) : ∃ x, l[i]? = some x ∧ f x = y := by
  rw [List.getElem?_map] at h
  cases e : l[i]? with
  | none => rw [e] at h; cases h
  | some x => rw [e] at h; exact ⟨x, rfl, by cases h; rfl⟩
theorem red_len {α : Type} [DecidableEq α] (inv : α → α) (w : List α) : ∀ st : List α, (red inv st w).length ≤ st.length + w.length := by
  induction w with
  | nil => intro st; exact Nat.le_refl _
  | cons x w ih =>
    intro st
    have h := ih (push inv st x)
    have hp : (push inv st x).length ≤ st.length + 1 := by
      cases st with
      | nil => exact Nat.le_refl _
      | cons y r =>
        show (if y = inv x then r else x :: y :: r).length ≤ _
        split <;> simp <;> omega
    show (red inv (push inv st x) w).length ≤ _
    simp only [List.length_cons]
    omega
theorem red_mem {α : Type} [DecidableEq α] (inv : α → α) (P : α → Prop) (w : List α) : ∀ st : List α, (∀ x ∈ st, P x) → (∀ x ∈ w, P x) → ∀ x ∈ red inv st w, P x := by
  induction w with
  | nil => intro st h _; exact h
  | cons x w ih =>
    intro st h hw
    refine ih _ ?_ fun y hy => hw y (List.mem_cons_of_mem _ hy)
    cases st with
    | nil => intro y hy; rw [List.mem_singleton.mp hy]; exact hw x List.mem_cons_self
    | cons z r =>
      intro y hy
      change y ∈ (if z = inv x then r else x :: z :: r) at hy
      split at hy
      · exact h y (List.mem_cons_of_mem _ hy)
      · rcases List.mem_cons.mp hy with rfl | hy
        · exact hw y List.mem_cons_self
        · exact h y hy
abbrev tW (w : List Dd) : List Dd := tidyW dInv w
theorem tW_ok {w : List Dd} (h : okW w) : okW (tW w) := fun p hp => red_mem dInv (fun p => okN p.1) w [] (fun _ h => nomatch h) h p (List.mem_reverse.mp hp)
theorem tW_len (w : List Dd) : (tW w).length ≤ w.length := by
  have := red_len dInv w []
  simp [tidyW] at this ⊢
  exact this
theorem dD_eqv {p q : Dd} (hp : okN p.1) (hq : okN q.1) : PyData.eqv (dD p) (dD q) = decide (p = q) := by
  unfold dD
  rw [eqv_str, Bool.eq_iff_iff]
  simp only [beq_iff_eq, decide_eq_true_eq]
  exact ⟨dS_inj p q hp hq, fun e => by rw [e]⟩
theorem dD_sh {p : Dd} (hp : okN p.1) : sh (dD p) = true := flat_sh (dD_flat hp 0) (by decide)
end FC
namespace FC
open PySem
/-- two generators, the slots stay -/
theorem compLoop2_map {vs : List Nat} {t t1 : Tg} {ifs ifs1 : M Bool} {it1 : M (List D)} {e : M D} {s0 : S} (g : D → List D) (M0 : Nat) : ∀ (ds acc : List D) (s : S), wipeS s vs = wipeS s0 vs →
    (∀ d ∈ ds, ∀ acc : List D, acc.length + (g d).length ≤ M0 → ∃ s1 s2 s3 ds1 s4, bindT t d (wipeS s0 vs) = some s1 ∧ ifs s1 = some (true, s2) ∧ it1 s2 = some (ds1, s3) ∧ compLoop t1 ifs1 e ds1 acc s3 = some (acc ++ g d, s4) ∧ wipeS s4 vs = wipeS s0 vs) →
    acc.length + (ds.flatMap g).length ≤ M0 →
    ∃ s', compLoop2 vs t ifs t1 it1 ifs1 e ds acc s = some (acc ++ ds.flatMap g, s') ∧ wipeS s' vs = wipeS s0 vs
  | [], acc, s, p, _, _ => ⟨s, by simp [compLoop2], p⟩
  | d :: ds, acc, s, p, h, hl => by
    simp only [List.flatMap_cons, List.length_append] at hl
    obtain ⟨s1, s2, s3, ds1, s4, e1, e2, e3, e4, e5⟩ := h d List.mem_cons_self acc (by omega)
    simp only [compLoop2, p, e1, e2, e3, e4]
    obtain ⟨s', h1, h2⟩ := compLoop2_map g M0 ds (acc ++ g d) s4 e5 (fun d hd => h d (List.mem_cons_of_mem _ hd)) (by rw [List.length_append]; omega)
    exact ⟨s', by rw [h1]; simp, h2⟩
theorem comp2_map {C : Calls} {e it ifs it1 ifs1 : Ex} {t t1 : Tg} {s s0 : S} {ds : List D} (g : D → List D) (h0 : (sem C it).it s = some (ds, s0)) (hp : (t.slots ++ t1.slots).all (plainS s0) = true) (hl : (ds.flatMap g).length ≤ sizeLine)
    (h : ∀ d ∈ ds, ∀ acc : List D, acc.length + (g d).length ≤ sizeLine → ∃ s1 s2 s3 ds1 s4, bindT t d (wipeS s0 (t.slots ++ t1.slots)) = some s1 ∧ (sem C ifs).ts s1 = some (true, s2) ∧ (sem C it1).it s2 = some (ds1, s3) ∧ compLoop t1 (sem C ifs1).ts (sem C e).v ds1 acc s3 = some (acc ++ g d, s4) ∧ wipeS s4 (t.slots ++ t1.slots) = wipeS s0 (t.slots ++ t1.slots)) :
    (sem C (.comp2 e t it ifs t1 it1 ifs1)).v s = some (.list (ds.flatMap g), s0) := by
  obtain ⟨s', h1, h2⟩ := compLoop2_map (ifs := (sem C ifs).ts) (ifs1 := (sem C ifs1).ts) (it1 := (sem C it1).it) (e := (sem C e).v) (s0 := s0) g sizeLine ds [] s0 rfl h (by simpa using hl)
  show compM2 _ _ _ _ _ _ _ s = _
  simp only [compM2, h0, hp, if_true, h1, List.nil_append]
  rw [restS_wipe h2 rfl fun _ _ => rfl]
theorem flatten_rep {w : List Dd} {k : Nat} : (List.replicate k (w.map dD)).flatten = ((List.replicate k w).flatten).map dD := by
  induction k with
  | zero => rfl
  | succ k ih => rw [List.replicate_succ, List.replicate_succ, List.flatten_cons, List.flatten_cons, List.map_append, ih]
theorem mul_eW {w : List Dd} {k : Int} (h0 : 0 ≤ k) (h1 : k ≤ 1000) (hl : w.length ≤ 1000) : opMul (eW w) (.int k) = some (eW (List.replicate k.toNat w).flatten) := by
  have e : ∀ (xs : List D), opMul (.tuple xs) (.int k) = if decide (-(2 ^ 62) ≤ k) && decide (k ≤ 1000) && decide (xs.length ≤ 1000) then some (.tuple (List.replicate k.toNat xs).flatten) else none := fun _ => rfl
  have h2 : decide (-(2 ^ 62) ≤ k) = true := decide_eq_true (by omega)
  have h3 : decide (k ≤ 1000) = true := decide_eq_true h1
  have h4 : decide ((w.map dD).length ≤ 1000) = true := decide_eq_true (by rw [List.length_map]; exact hl)
  unfold eW
  rw [e, h2, h3, h4, Bool.and_self, Bool.and_self, if_pos rfl, flatten_rep]
theorem add_eW {w v : List Dd} (h : w.length + v.length ≤ sizeLine) : opAdd (eW w) (eW v) = some (eW (w ++ v)) := by
  unfold eW
  simp only [opAdd, List.length_map]
  rw [if_pos h, List.map_append]
theorem smallW_append (p q : List (List Dd × Int)) : smallW (p ++ q) = smallW p ++ smallW q := by simp [smallW]
theorem smallW_one (x : List Dd × Int) : smallW [x] = (List.replicate (absI x.2).toNat (if 0 < x.2 then x.1 else bw x.1)).flatten := by simp [smallW]
theorem flat_rep_len {α : Type} (k : Nat) (w : List α) : (List.replicate k w).flatten.length = k * w.length := by
  induction k with
  | zero => simp
  | succ k ih => simp [List.replicate_succ, ih, Nat.add_mul, Nat.add_comm]
theorem smallW_len (p : List (List Dd × Int)) : ((smallW p).length : Int) = sizeP p := by
  induction p with
  | nil => rfl
  | cons x p ih =>
    have e : smallW (x :: p) = smallW [x] ++ smallW p := smallW_append [x] p
    rw [e, List.length_append, smallW_one, flat_rep_len]
    have h1 : (if 0 < x.2 then x.1 else bw x.1).length = x.1.length := by split <;> simp
    have h2 : (((absI x.2).toNat : Nat) : Int) = absI x.2 := Int.toNat_of_nonneg (absI_nn _)
    rw [h1]
    show _ = (x.1.length : Int) * absI x.2 + sizeP p
    rw [← ih]
    simp only [Int.natCast_add, Int.natCast_mul, h2]
    rw [Int.mul_comm]
theorem smallW_take (p : List (List Dd × Int)) (i : Nat) : (smallW (p.take i)).length ≤ (smallW p).length := by
  have e : p = p.take i ++ p.drop i := (List.take_append_drop i p).symm
  have e2 : (smallW p).length = (smallW (p.take i)).length + (smallW (p.drop i)).length := by
    conv => lhs; rw [e, smallW_append, List.length_append]
  omega
theorem smallW_ok {p : List (List Dd × Int)} (h : okP p) : okW (smallW p) := by
  intro d hd
  obtain ⟨x, hx, hd⟩ := List.mem_flatMap.mp hd
  obtain ⟨l, hl, hd⟩ := List.mem_flatten.mp hd
  rw [(List.mem_replicate.mp hl).2] at hd
  split at hd
  · exact (h x hx).1 d hd
  · exact bw_ok (h x hx).1 d hd
theorem neg1_last {xs : List D} {x : D} : L2.atI (xs ++ [x]) (-1) = some x := atI_last
end FC
namespace FC
open PySem
theorem opSum_ints (l : List Int) : opSum (.list (l.map .int)) = some (.int l.sum) := by
  simp only [opSum, intsOf_map]
theorem len64 {k : Nat} (h : k ≤ sizeLine) : -(2 ^ 64) < (k : Int) ∧ (k : Int) < 2 ^ 64 := by
  have : sizeLine = 16777216 := rfl
  rw [this] at h
  omega
end FC
namespace FC
open PySem
/-- a comprehension that leaves some out; the slots stay -/
theorem compLoop_filt {t : Tg} {ifs : M Bool} {e : M D} {s0 : S} (q : D → Bool) (f : D → D) : ∀ (ds acc : List D) (s : S), wipeS s t.slots = wipeS s0 t.slots → acc.length + ds.length ≤ sizeLine →
    (∀ d ∈ ds, ∃ s1 s2, bindT t d (wipeS s0 t.slots) = some s1 ∧ ifs s1 = some (q d, s2) ∧ (q d = true → ∃ s3, e s2 = some (f d, s3) ∧ wipeS s3 t.slots = wipeS s0 t.slots) ∧ (q d = false → wipeS s2 t.slots = wipeS s0 t.slots)) →
    ∃ s', compLoop t ifs e ds acc s = some (acc ++ (ds.filter q).map f, s') ∧ wipeS s' t.slots = wipeS s0 t.slots
  | [], acc, s, p, _, _ => ⟨s, by simp [compLoop], p⟩
  | d :: ds, acc, s, p, hl, h => by
    obtain ⟨s1, s2, e1, e2, e3, e4⟩ := h d List.mem_cons_self
    rw [List.length_cons] at hl
    cases hq : q d with
    | false =>
      rw [hq] at e2
      simp only [compLoop, p, e1, e2]
      obtain ⟨s', h1, h2⟩ := compLoop_filt q f ds acc s2 (e4 hq) (by omega) fun d hd => h d (List.mem_cons_of_mem _ hd)
      exact ⟨s', by rw [h1, List.filter_cons, hq]; simp, h2⟩
    | true =>
      rw [hq] at e2
      obtain ⟨s3, e5, e6⟩ := e3 hq
      simp only [compLoop, p, e1, e2, e5]
      rw [if_pos (by omega)]
      obtain ⟨s', h1, h2⟩ := compLoop_filt q f ds (acc ++ [f d]) s3 e6 (by rw [List.length_append, List.length_singleton]; omega) fun d hd => h d (List.mem_cons_of_mem _ hd)
      exact ⟨s', by rw [h1, List.filter_cons, hq]; simp, h2⟩
theorem comp_filt {C : Calls} {e it ifs : Ex} {t : Tg} {s s0 : S} {ds : List D} (q : D → Bool) (f : D → D) (h0 : (sem C it).it s = some (ds, s0)) (hp : t.slots.all (plainS s0) = true) (hl : ds.length ≤ sizeLine)
    (h : ∀ d ∈ ds, ∃ s1 s2, bindT t d (wipeS s0 t.slots) = some s1 ∧ (sem C ifs).ts s1 = some (q d, s2) ∧ (q d = true → ∃ s3, (sem C e).v s2 = some (f d, s3) ∧ wipeS s3 t.slots = wipeS s0 t.slots) ∧ (q d = false → wipeS s2 t.slots = wipeS s0 t.slots)) :
    (sem C (.comp e t it ifs)).v s = some (.list ((ds.filter q).map f), s0) := by
  obtain ⟨s', h1, h2⟩ := compLoop_filt (e := (sem C e).v) (ifs := (sem C ifs).ts) (s0 := s0) q f ds [] s0 rfl (by simpa using hl) h
  show compM _ _ _ _ s = _
  simp only [compM, h0, hp, if_true, h1, List.nil_append]
  rw [restS_wipe h2 rfl fun _ _ => rfl]
/-- a while with a measure -/
theorem while_down {c : M Bool} {b : M Fl} (P : Nat → S → Prop) (Q : S → Prop) (h : ∀ m s, P m s → ∃ k s1, c s = some (k, s1) ∧ (if k then ∃ s2 m', (b s1 = some (.nx, s2) ∨ b s1 = some (.ct, s2)) ∧ P m' s2 ∧ m' < m else Q s1)) :
    ∀ (fuel m : Nat) (s : S), m < fuel → P m s → ∃ s', whileLoop c b fuel s = some (.nx, s') ∧ Q s' := by
  intro fuel
  induction fuel with
  | zero => intro m s hm; omega
  | succ fuel ih =>
    intro m s hm p
    obtain ⟨k, s1, e1, e2⟩ := h m s p
    cases k with
    | false => exact ⟨s1, by simp only [whileLoop, e1], e2⟩
    | true =>
      obtain ⟨s2, m', e3, p', hm'⟩ := e2
      obtain ⟨s', e4, q⟩ := ih m' s2 (by omega) p'
      refine ⟨s', ?_, q⟩
      rcases e3 with e3 | e3 <;> simp only [whileLoop, e1, e3, e4]
theorem stm_while' {C : Calls} {w : Nat} {c : Ex} {p : Sx} {s : S} : stm w C (.while_ c p) s = whileLoop (sem C c).t (stm w C p) w s := rfl
theorem ints_sh (l : List Int) : sh (.list (l.map .int)) = true := by
  have h1 : PyData.depthAll (l.map PyData.int) = 0 := by
    induction l with
    | nil => rfl
    | cons x l ih => simp [PyData.depthAll, PyData.depth, ih]
  have h2 : PyData.canLayAll0 (l.map PyData.int) = true := by
    clear h1
    induction l with
    | nil => rfl
    | cons x l ih => simp [PyData.canLayAll0, PyData.canLay0, ih]
  show (PyData.canLay0 _ && decide (PyData.depth _ ≤ 64)) = true
  simp [PyData.canLay0, PyData.depth, h1, h2]
theorem eqv_nil (xs : List D) : PyData.eqv (.list xs) (.list []) = xs.isEmpty := by
  cases xs <;> simp [PyData.eqv, PyData.eqvAll]
end FC
namespace FC
open PySem
theorem compLoop_len {t : Tg} {ifs : M Bool} {e : M D} : ∀ (ds acc : List D) (s : S) (ys : List D) (s' : S), compLoop t ifs e ds acc s = some (ys, s') → ys.length ≤ acc.length + ds.length
  | [], acc, s, ys, s', h => by
    simp only [compLoop, gives, Option.some.injEq, Prod.mk.injEq] at h
    rw [← h.1]; simp
  | d :: ds, acc, s, ys, s', h => by
    simp only [compLoop] at h
    rw [List.length_cons]
    split at h
    · cases h
    · split at h
      · cases h
      · have := compLoop_len ds acc _ ys s' h; omega
      · split at h
        · cases h
        · split at h
          · have := compLoop_len ds _ _ ys s' h
            rw [List.length_append, List.length_singleton] at this
            omega
          · cases h
/-- a comprehension with a law, and how many it finds -/
theorem comp_invL {C : Calls} {e it ifs : Ex} {t : Tg} {s s0 : S} {ds : List D} (P : List D → S → Prop) (h0 : (sem C it).it s = some (ds, s0)) (hp : t.slots.all (plainS s0) = true) (hl : ds.length ≤ sizeLine) (p0 : P [] s0)
    (h : ∀ d ∈ ds, ∀ acc s, P acc s → ∃ s1 b s2, bindT t d (wipeS s t.slots) = some s1 ∧ (sem C ifs).ts s1 = some (b, s2) ∧ (if b then ∃ y s3, (sem C e).v s2 = some (y, s3) ∧ P (acc ++ [y]) s3 else P acc s2)) :
    ∃ ys s', (sem C (.comp e t it ifs)).v s = some (.list ys, restS s0 s' t.slots) ∧ P ys s' ∧ ys.length ≤ ds.length := by
  obtain ⟨ys, s', h1, h2⟩ := compLoop_inv P ds [] s0 p0 (by simpa using hl) h
  have h3 := compLoop_len _ _ _ _ _ h1
  refine ⟨ys, s', ?_, h2, by simpa using h3⟩
  show compM _ _ _ _ s = _
  simp only [compM, h0, hp, if_true, h1]
theorem pv_some (d : D) : pv (some d) = some (.val d) := rfl
theorem pv_none : pv none = none := rfl
theorem mul2 (x : D) : opMul (.list [x]) (.int 2) = some (.list [x, x]) := rfl
theorem add22 (a b c d : D) : opAdd (.list [a, b]) (.list [c, d]) = some (.list [a, b, c, d]) := rfl
theorem rgD_len (n : Int) : (rgD n).length = n.toNat := by simp [rgD]
end FC
namespace FC
open PySem
theorem compLoop_ix {t : Tg} {ifs : M Bool} {e : M D} (P : Nat → List D → S → Prop) : ∀ (ds acc : List D) (i : Nat) (s : S), P i acc s → acc.length + ds.length ≤ sizeLine →
    (∀ j d, ds[j]? = some d → ∀ acc s, P (i + j) acc s → ∃ s1 b s2, bindT t d (wipeS s t.slots) = some s1 ∧ ifs s1 = some (b, s2) ∧ (if b then ∃ y s3, e s2 = some (y, s3) ∧ P (i + j + 1) (acc ++ [y]) s3 else P (i + j + 1) acc s2)) →
    ∃ ys s', compLoop t ifs e ds acc s = some (ys, s') ∧ P (i + ds.length) ys s'
  | [], acc, i, s, p, _, _ => ⟨acc, s, rfl, p⟩
  | d :: ds, acc, i, s, p, hl, h => by
    obtain ⟨s1, b, s2, e1, e2, e3⟩ := h 0 d rfl acc s p
    rw [List.length_cons] at hl
    have h' : ∀ j d', ds[j]? = some d' → ∀ acc s, P (i + 1 + j) acc s → ∃ s1 b s2, bindT t d' (wipeS s t.slots) = some s1 ∧ ifs s1 = some (b, s2) ∧ (if b then ∃ y s3, e s2 = some (y, s3) ∧ P (i + 1 + j + 1) (acc ++ [y]) s3 else P (i + 1 + j + 1) acc s2) := by
      intro j d' hd acc s p
      rw [show i + 1 + j = i + (j + 1) by omega] at p ⊢
      exact h (j + 1) d' (by simpa using hd) acc s p
    have hlen : i + (d :: ds).length = i + 1 + ds.length := by rw [List.length_cons]; omega
    rw [hlen]
    simp only [compLoop, e1, e2]
    cases b with
    | false => exact compLoop_ix P ds acc (i + 1) s2 e3 (by omega) h'
    | true =>
      obtain ⟨y, s3, e4, e5⟩ := e3
      simp only [e4]
      rw [if_pos (by omega)]
      exact compLoop_ix P ds (acc ++ [y]) (i + 1) s3 e5 (by rw [List.length_append, List.length_singleton]; omega) h'
/-- a comprehension with a law by the turn -/
theorem comp_ix {C : Calls} {e it ifs : Ex} {t : Tg} {s s0 : S} {ds : List D} (P : Nat → List D → S → Prop) (h0 : (sem C it).it s = some (ds, s0)) (hp : t.slots.all (plainS s0) = true) (hl : ds.length ≤ sizeLine) (p0 : P 0 [] s0)
    (h : ∀ j d, ds[j]? = some d → ∀ acc s, P j acc s → ∃ s1 b s2, bindT t d (wipeS s t.slots) = some s1 ∧ (sem C ifs).ts s1 = some (b, s2) ∧ (if b then ∃ y s3, (sem C e).v s2 = some (y, s3) ∧ P (j + 1) (acc ++ [y]) s3 else P (j + 1) acc s2)) :
    ∃ ys s', (sem C (.comp e t it ifs)).v s = some (.list ys, restS s0 s' t.slots) ∧ P ds.length ys s' := by
  obtain ⟨ys, s', h1, h2⟩ := compLoop_ix (t := t) (ifs := (sem C ifs).ts) (e := (sem C e).v) P ds [] 0 s0 p0 (by simpa using hl) (by
    intro j d hd acc s p
    rw [Nat.zero_add] at p ⊢
    exact h j d hd acc s p)
  rw [Nat.zero_add] at h2
  refine ⟨ys, s', ?_, h2⟩
  show compM _ _ _ _ s = _
  simp only [compM, h0, hp, if_true, h1]
end FC
namespace FC
open PySem
theorem comp_ix' {C : Calls} {E e it ifs : Ex} {t : Tg} (hE : E = .comp e t it ifs) {s s0 : S} {ds : List D} (P : Nat → List D → S → Prop) (h0 : (sem C it).it s = some (ds, s0)) (hp : t.slots.all (plainS s0) = true) (hl : ds.length ≤ sizeLine) (p0 : P 0 [] s0)
    (h : ∀ j d, ds[j]? = some d → ∀ acc s, P j acc s → ∃ s1 b s2, bindT t d (wipeS s t.slots) = some s1 ∧ (sem C ifs).ts s1 = some (b, s2) ∧ (if b then ∃ y s3, (sem C e).v s2 = some (y, s3) ∧ P (j + 1) (acc ++ [y]) s3 else P (j + 1) acc s2)) :
    ∃ ys s', (sem C E).v s = some (.list ys, restS s0 s' t.slots) ∧ P ds.length ys s' := by
  subst hE
  exact comp_ix P h0 hp hl p0 h
theorem comp_map' {C : Calls} {E e it ifs : Ex} {t : Tg} (hE : E = .comp e t it ifs) {s s0 : S} {ds : List D} (f : D → D) (h0 : (sem C it).it s = some (ds, s0)) (hp : t.slots.all (plainS s0) = true) (hl : ds.length ≤ sizeLine)
    (h : ∀ d ∈ ds, ∃ s1 s2 s3, bindT t d (wipeS s0 t.slots) = some s1 ∧ (sem C ifs).ts s1 = some (true, s2) ∧ (sem C e).v s2 = some (f d, s3) ∧ wipeS s3 t.slots = wipeS s0 t.slots) :
    (sem C E).v s = some (.list (ds.map f), s0) := by
  subst hE
  exact comp_map f h0 hp hl h
theorem comp_filt' {C : Calls} {E e it ifs : Ex} {t : Tg} (hE : E = .comp e t it ifs) {s s0 : S} {ds : List D} (q : D → Bool) (f : D → D) (h0 : (sem C it).it s = some (ds, s0)) (hp : t.slots.all (plainS s0) = true) (hl : ds.length ≤ sizeLine)
    (h : ∀ d ∈ ds, ∃ s1 s2, bindT t d (wipeS s0 t.slots) = some s1 ∧ (sem C ifs).ts s1 = some (q d, s2) ∧ (q d = true → ∃ s3, (sem C e).v s2 = some (f d, s3) ∧ wipeS s3 t.slots = wipeS s0 t.slots) ∧ (q d = false → wipeS s2 t.slots = wipeS s0 t.slots)) :
    (sem C E).v s = some (.list ((ds.filter q).map f), s0) := by
  subst hE
  exact comp_filt q f h0 hp hl h
/-- a comprehension over values that are worked out one by one -/
theorem comp_mapA {α : Type} {C : Calls} {E e it ifs : Ex} {t : Tg} (hE : E = .comp e t it ifs) {s s0 : S} {xs : List α} (g f : α → D) (h0 : (sem C it).it s = some (xs.map g, s0)) (hp : t.slots.all (plainS s0) = true) (hl : xs.length ≤ sizeLine)
    (h : ∀ x ∈ xs, ∃ s1 s2 s3, bindT t (g x) (wipeS s0 t.slots) = some s1 ∧ (sem C ifs).ts s1 = some (true, s2) ∧ (sem C e).v s2 = some (f x, s3) ∧ wipeS s3 t.slots = wipeS s0 t.slots) :
    (sem C E).v s = some (.list (xs.map f), s0) := by
  subst hE
  have key : ∀ (xs : List α) (acc : List D) (s : S), wipeS s t.slots = wipeS s0 t.slots → acc.length + xs.length ≤ sizeLine → (∀ x ∈ xs, ∃ s1 s2 s3, bindT t (g x) (wipeS s0 t.slots) = some s1 ∧ (sem C ifs).ts s1 = some (true, s2) ∧ (sem C e).v s2 = some (f x, s3) ∧ wipeS s3 t.slots = wipeS s0 t.slots) →
      ∃ s', compLoop t (sem C ifs).ts (sem C e).v (xs.map g) acc s = some (acc ++ xs.map f, s') ∧ wipeS s' t.slots = wipeS s0 t.slots := by
    intro xs
    induction xs with
    | nil => intro acc s p _ _; exact ⟨s, by simp [compLoop], p⟩
    | cons x xs ih =>
      intro acc s p hl h
      obtain ⟨s1, s2, s3, e1, e2, e3, e4⟩ := h x List.mem_cons_self
      rw [List.length_cons] at hl
      simp only [List.map_cons, compLoop, p, e1, e2, e3]
      rw [if_pos (by omega)]
      obtain ⟨s', h1, h2⟩ := ih (acc ++ [f x]) s3 e4 (by rw [List.length_append, List.length_singleton]; omega) fun y hy => h y (List.mem_cons_of_mem _ hy)
      exact ⟨s', by rw [h1]; simp, h2⟩
  obtain ⟨s', h1, h2⟩ := key xs [] s0 rfl (by simpa using hl) h
  show compM _ _ _ _ s = _
  simp only [compM, h0, hp, if_true, h1, List.nil_append]
  rw [restS_wipe h2 rfl fun _ _ => rfl]
end FC

namespace L25
open PySem FC
def x_plain : Nat := 0
def x_note_of : Nat := 1
def x_backward : Nat := 2
def x_tidied : Nat := 3
def x_tidy : Nat := 4
def x_word_back : Nat := 5
def x_program_back : Nat := 6
def x_together : Nat := 7
def x_size_of : Nat := 8
def x_as_word : Nat := 9
def x_about : Nat := 10
def x__law_box : Nat := 11
def x__law_take : Nat := 12
def x__law_cells : Nat := 13
def x__law_of : Nat := 14
def x__law_lists : Nat := 15
def x__law_same : Nat := 16
def x__law_back : Nat := 17
def x__law_small_word : Nat := 18
def x__law_out : Nat := 19
def x__law_any_word : Nat := 20
def x__law_by_hand_right : Nat := 21
def x__law_right : Nat := 22
def x_law : Nat := 23
def kk_box : Int := 662
def E_plain_0 : Ex := (.comp (.call x_plain [0] (.cons (.var 1) .nil)) (.nm 1) (.itOf (.var 0)) .nil)
@[simp] theorem E_plain_0_a {C : Calls} : (sem C E_plain_0).a = bnd (sem C E_plain_0).v fun d => gives (.vl d) := rfl
@[simp] theorem E_plain_0_t {C : Calls} : (sem C E_plain_0).t = bnd (sem C E_plain_0).v fun d => lift (truD d) := rfl
def B_plain : Sx := (.cons (.ret (.ife (.op (.isis [.list, .tuple]) (.cons (.var 0) .nil)) (.op .tuple (.cons E_plain_0 .nil)) (.var 0)))
  .nil)
def I_plain : FnI := { modes := [false], own := false, n := 2, body := B_plain }
def B_note_of : Sx := (.cons (.ret (.ife (.mt .endswith (.var 0) (.cons (.glob "NONE" (.str "-")) .nil)) (.op (.sl false true) (.cons (.var 0) (.cons (.op .neg (.cons (.con (.int 1)) .nil)) .nil))) (.var 0)))
  .nil)
def I_note_of : FnI := { modes := [false], own := false, n := 1, body := B_note_of }
def E_backward_0 : Ex := (.comp (.ife (.mt .endswith (.var 1) (.cons (.glob "NONE" (.str "-")) .nil)) (.call x_note_of [0] (.cons (.var 1) .nil)) (.op .add (.cons (.var 1) (.cons (.glob "NONE" (.str "-")) .nil)))) (.nm 1) (.itOf (.op .rev (.cons (.var 0) .nil))) .nil)
@[simp] theorem E_backward_0_a {C : Calls} : (sem C E_backward_0).a = bnd (sem C E_backward_0).v fun d => gives (.vl d) := rfl
@[simp] theorem E_backward_0_t {C : Calls} : (sem C E_backward_0).t = bnd (sem C E_backward_0).v fun d => lift (truD d) := rfl
def B_backward : Sx := (.cons (.ret (.op .tuple (.cons E_backward_0 .nil)))
  .nil)
def I_backward : FnI := { modes := [false], own := false, n := 2, body := B_backward }
def S_tidied_0 : Sx := (.cons (.ife (.and (.op .gt (.cons (.op .len (.cons (.pk 1) .nil)) (.cons (.con (.int 0)) .nil))) (.op .eq (.cons (.op .ix (.cons (.pk 1) (.cons (.op .neg (.cons (.con (.int 1)) .nil)) .nil))) (.cons (.op .ix (.cons (.call x_backward [0] (.cons (.tup (.cons (.var 2) .nil)) .nil)) (.cons (.con (.int 0)) .nil))) .nil))))
  (.cons (.expr (.mu .pop0 1 .nil))
  .nil)
  (.cons (.expr (.mu .append 1 (.cons (.var 2) .nil)))
  .nil))
  .nil)
def B_tidied : Sx := (.cons (.seto 1 (.lst .nil))
  (.cons (.for_ (.nm 2) (.itOf (.var 0))
  S_tidied_0)
  (.cons (.ret (.op .tuple (.cons (.pk 1) .nil)))
  .nil)))
def I_tidied : FnI := { modes := [false], own := false, n := 3, body := B_tidied }
def B_tidy : Sx := (.cons (.ret (.call x_tidied [0] (.cons (.call x_plain [0] (.cons (.var 0) .nil)) .nil)))
  .nil)
def I_tidy : FnI := { modes := [false], own := false, n := 1, body := B_tidy }
def B_word_back : Sx := (.cons (.ret (.call x_backward [0] (.cons (.call x_plain [0] (.cons (.var 0) .nil)) .nil)))
  .nil)
def I_word_back : FnI := { modes := [false], own := false, n := 1, body := B_word_back }
def E_program_back_0 : Ex := (.comp (.tup (.cons (.var 1) (.cons (.op .neg (.cons (.var 2) .nil)) .nil))) (.tp [1, 2]) (.itOf (.op .rev (.cons (.call x_plain [0] (.cons (.var 0) .nil)) .nil))) .nil)
@[simp] theorem E_program_back_0_a {C : Calls} : (sem C E_program_back_0).a = bnd (sem C E_program_back_0).v fun d => gives (.vl d) := rfl
@[simp] theorem E_program_back_0_t {C : Calls} : (sem C E_program_back_0).t = bnd (sem C E_program_back_0).v fun d => lift (truD d) := rfl
def B_program_back : Sx := (.cons (.ret (.op .tuple (.cons E_program_back_0 .nil)))
  .nil)
def I_program_back : FnI := { modes := [false], own := false, n := 3, body := B_program_back }
def E_together_0 : Ex := (.comp2 (.var 2) (.nm 1) (.itOf (.call x_plain [0] (.cons (.var 0) .nil))) .nil (.nm 2) (.itOf (.var 1)) .nil)
@[simp] theorem E_together_0_a {C : Calls} : (sem C E_together_0).a = bnd (sem C E_together_0).v fun d => gives (.vl d) := rfl
@[simp] theorem E_together_0_t {C : Calls} : (sem C E_together_0).t = bnd (sem C E_together_0).v fun d => lift (truD d) := rfl
def B_together : Sx := (.cons (.ret (.op .tuple (.cons E_together_0 .nil)))
  .nil)
def I_together : FnI := { modes := [false], own := false, n := 3, body := B_together }
def E_size_of_0 : Ex := (.comp (.op .mul (.cons (.op .len (.cons (.var 1) .nil)) (.cons (.op .abs (.cons (.var 2) .nil)) .nil))) (.tp [1, 2]) (.itOf (.var 0)) .nil)
@[simp] theorem E_size_of_0_a {C : Calls} : (sem C E_size_of_0).a = bnd (sem C E_size_of_0).v fun d => gives (.vl d) := rfl
@[simp] theorem E_size_of_0_t {C : Calls} : (sem C E_size_of_0).t = bnd (sem C E_size_of_0).v fun d => lift (truD d) := rfl
def B_size_of : Sx := (.cons (.ret (.op .sum (.cons E_size_of_0 .nil)))
  .nil)
def I_size_of : FnI := { modes := [false], own := false, n := 3, body := B_size_of }
def S_as_word_0 : Sx := (.cons (.ife (.op .gt (.cons (.op .len (.cons (.var 2) .nil)) (.cons (.con (.int 0)) .nil)))
  (.cons (.set 1 (.op .add (.cons (.var 1) (.cons (.op .mul (.cons (.ife (.op .gt (.cons (.var 3) (.cons (.con (.int 0)) .nil))) (.var 2) (.call x_backward [0] (.cons (.var 2) .nil))) (.cons (.op .abs (.cons (.var 3) .nil)) .nil))) .nil))))
  .nil)
  .nil)
  .nil)
def B_as_word : Sx := (.cons (.ife (.op .gt (.cons (.call x_size_of [0] (.cons (.var 0) .nil)) (.cons (.glob "MOST_DEEDS" (.int 64)) .nil)))
  (.cons .nev
  .nil)
  .nil)
  (.cons (.set 1 (.tup .nil))
  (.cons (.for_ (.tp [2, 3]) (.itOf (.call x_plain [0] (.cons (.var 0) .nil)))
  S_as_word_0)
  (.cons (.ret (.call x_tidied [0] (.cons (.var 1) .nil)))
  .nil))))
def I_as_word : FnI := { modes := [false], own := false, n := 4, body := B_as_word }
def B_about : Sx := (.cons (.ret (.call x_together [0] (.cons (.tup (.cons (.call x_program_back [0] (.cons (.var 1) .nil)) (.cons (.var 0) (.cons (.var 1) .nil)))) .nil)))
  .nil)
def I_about : FnI := { modes := [false, false], own := false, n := 2, body := B_about }
def B__law_box : Sx := (.cons (.set 2 (.ife (.op .lt (.cons (.var 1) (.cons (.op .len (.cons (.var 0) .nil)) .nil))) (.op .ix (.cons (.var 0) (.cons (.var 1) .nil))) (.con (.int 0))))
  (.cons (.reto (.lst (.cons (.op .mul (.cons (.op .abs (.cons (.var 2) .nil)) (.cons (.op .int (.cons (.op .ge (.cons (.op .abs (.cons (.var 2) .nil)) (.cons (.op .pow (.cons (.con (.int 10)) (.cons (.con (.int 18)) .nil))) .nil))) .nil)) .nil))) (.cons (.op .add (.cons (.op .add (.cons (.op .mod (.cons (.op .int (.cons (.var 2) .nil)) (.cons (.con (.int 2305843009213693951)) .nil))) (.cons (.op .mul (.cons (.con (.int 39373)) (.cons (.var 1) .nil))) .nil))) (.cons (.con (.int kk_box)) .nil))) (.cons (.con (.int 0)) .nil)))))
  .nil))
def I__law_box : FnI := { modes := [false, false], own := true, n := 3, body := B__law_box }
def B__law_take : Sx := (.cons (.ife (.op .gt (.cons (.op .ix (.cons (.pk 0) (.cons (.con (.int 0)) .nil))) (.cons (.con (.int 0)) .nil)))
  (.cons (.set 5 (.op .mod (.cons (.op .int (.cons (.op .ix (.cons (.pk 0) (.cons (.con (.int 0)) .nil))) .nil)) (.cons (.var 1) .nil))))
  (.cons (.sub 0 (.con (.int 0)) (.op .fdiv (.cons (.op .ix (.cons (.pk 0) (.cons (.con (.int 0)) .nil))) (.cons (.var 1) .nil))))
  (.cons (.ret (.var 5))
  .nil)))
  .nil)
  (.cons (.sub 0 (.con (.int 2)) (.op .add (.cons (.op .ix (.cons (.pk 0) (.cons (.con (.int 2)) .nil))) (.cons (.con (.int 1)) .nil))))
  (.cons (.set 2 (.op .mod (.cons (.op .int (.cons (.op .mul (.cons (.op .add (.cons (.op .ix (.cons (.pk 0) (.cons (.con (.int 1)) .nil))) (.cons (.op .mul (.cons (.con (.int 48271)) (.cons (.op .ix (.cons (.pk 0) (.cons (.con (.int 2)) .nil))) .nil))) .nil))) (.cons (.op .add (.cons (.con (.int 39373)) (.cons (.op .ix (.cons (.pk 0) (.cons (.con (.int 2)) .nil))) .nil))) .nil))) .nil)) (.cons (.con (.int 2147483647)) .nil))))
  (.cons (.set 3 (.op .add (.cons (.op .mod (.cons (.op .int (.cons (.var 2) .nil)) (.cons (.con (.int 40009)) .nil))) (.cons (.con (.int 7)) .nil))))
  (.cons (.set 4 (.op .mod (.cons (.op .int (.cons (.op .mul (.cons (.op .add (.cons (.op .add (.cons (.var 2) (.cons (.op .ix (.cons (.pk 0) (.cons (.con (.int 2)) .nil))) .nil))) (.cons (.op .fdiv (.cons (.op .ix (.cons (.pk 0) (.cons (.con (.int 1)) .nil))) (.cons (.con (.int 1000003)) .nil))) .nil))) (.cons (.var 3) .nil))) .nil)) (.cons (.con (.int 2147483629)) .nil))))
  (.cons (.ret (.op .mod (.cons (.op .int (.cons (.op .fdiv (.cons (.op .mod (.cons (.op .int (.cons (.op .add (.cons (.op .mul (.cons (.var 4) (.cons (.con (.int 48271)) .nil))) (.cons (.var 2) .nil))) .nil)) (.cons (.con (.int 2147483587)) .nil))) (.cons (.con (.int 64)) .nil))) .nil)) (.cons (.var 1) .nil))))
  .nil))))))
def I__law_take : FnI := { modes := [true, false], own := false, n := 6, body := B__law_take }
def S__law_cells_0 : Sx := (.cons (.set 5 (.op .mod (.cons (.op .int (.cons (.var 3) .nil)) (.cons (.var 1) .nil))))
  (.cons (.sub 2 (.var 5) (.op .add (.cons (.op .ix (.cons (.pk 2) (.cons (.var 5) .nil))) (.cons (.op .mul (.cons (.var 4) (.cons (.op .add (.cons (.var 3) (.cons (.con (.int 2)) .nil))) .nil))) .nil))))
  .nil))
def B__law_cells : Sx := (.cons (.seto 2 (.or (.op .list (.cons (.op (.sl false true) (.cons (.var 0) (.cons (.var 1) .nil))) .nil)) (.lst (.cons (.con (.int 0)) .nil))))
  (.cons (.for_ (.tp [3, 4]) (.itEnum (.sl2 (.var 0) (.var 1) (.con (.int 63))))
  S__law_cells_0)
  (.cons (.ret (.var 2))
  .nil)))
def I__law_cells : FnI := { modes := [false, false], own := false, n := 6, body := B__law_cells }
def B__law_of : Sx := (.cons (.ret (.op .ix (.cons (.var 1) (.cons (.call x__law_take [0, 1] (.cons (.lend 0) (.cons (.op .len (.cons (.var 1) .nil)) .nil))) .nil))))
  .nil)
def I__law_of : FnI := { modes := [true, false], own := false, n := 2, body := B__law_of }
def E__law_lists_0 : Ex := (.comp (.call x__law_lists [0] (.cons (.var 1) .nil)) (.nm 1) (.itOf (.var 0)) .nil)
@[simp] theorem E__law_lists_0_a {C : Calls} : (sem C E__law_lists_0).a = bnd (sem C E__law_lists_0).v fun d => gives (.vl d) := rfl
@[simp] theorem E__law_lists_0_t {C : Calls} : (sem C E__law_lists_0).t = bnd (sem C E__law_lists_0).v fun d => lift (truD d) := rfl
def B__law_lists : Sx := (.cons (.ret (.ife (.op (.isis [.list, .tuple]) (.cons (.var 0) .nil)) E__law_lists_0 (.var 0)))
  .nil)
def I__law_lists : FnI := { modes := [false], own := false, n := 2, body := B__law_lists }
def E__law_same_0 : Ex := (.comp (.call x__law_same [0, 1] (.cons (.var 3) (.cons (.var 4) .nil))) (.tp [3, 4]) (.itZip (.cons (.var 0) (.cons (.var 1) .nil))) .nil)
@[simp] theorem E__law_same_0_a {C : Calls} : (sem C E__law_same_0).a = bnd (sem C E__law_same_0).v fun d => gives (.vl d) := rfl
@[simp] theorem E__law_same_0_t {C : Calls} : (sem C E__law_same_0).t = bnd (sem C E__law_same_0).v fun d => lift (truD d) := rfl
def E__law_same_1 : Ex := (.comp (.call x__law_same [0, 1] (.cons (.op .ix (.cons (.var 0) (.cons (.var 2) .nil))) (.cons (.op .ix (.cons (.var 1) (.cons (.var 2) .nil))) .nil))) (.nm 2) (.itOf (.var 1)) .nil)
@[simp] theorem E__law_same_1_a {C : Calls} : (sem C E__law_same_1).a = bnd (sem C E__law_same_1).v fun d => gives (.vl d) := rfl
@[simp] theorem E__law_same_1_t {C : Calls} : (sem C E__law_same_1).t = bnd (sem C E__law_same_1).v fun d => lift (truD d) := rfl
def B__law_same : Sx := (.cons (.ife (.op (.isis [.list, .tuple]) (.cons (.var 1) .nil))
  (.cons (.ife (.or (.op .ne (.cons (.op (.isi .list) (.cons (.var 0) .nil)) (.cons (.op (.isi .list) (.cons (.var 1) .nil)) .nil))) (.op .ne (.cons (.op (.isi .tuple) (.cons (.var 0) .nil)) (.cons (.op (.isi .tuple) (.cons (.var 1) .nil)) .nil))))
  (.cons (.ret (.con (.bool false)))
  .nil)
  .nil)
  (.cons (.ret (.and (.op .eq (.cons (.op .len (.cons (.var 0) .nil)) (.cons (.op .len (.cons (.var 1) .nil)) .nil))) (.op .all (.cons E__law_same_0 .nil))))
  .nil))
  .nil)
  (.cons (.ife (.op (.isi .dict) (.cons (.var 1) .nil))
  (.cons (.ife (.or (.not (.op (.isi .dict) (.cons (.var 0) .nil))) (.op .ne (.cons (.op .sorted (.cons (.var 0) .nil)) (.cons (.op .sorted (.cons (.var 1) .nil)) .nil))))
  (.cons (.ret (.con (.bool false)))
  .nil)
  .nil)
  (.cons (.ret (.op .all (.cons E__law_same_1 .nil)))
  .nil))
  .nil)
  (.cons (.ife (.or (.op .isN (.cons (.var 1) .nil)) (.op (.isis [.bool, .str]) (.cons (.var 1) .nil)))
  (.cons (.ret (.and (.op .eq (.cons (.var 0) (.cons (.var 1) .nil))) (.and (.op .eq (.cons (.op (.isi .bool) (.cons (.var 0) .nil)) (.cons (.op (.isi .bool) (.cons (.var 1) .nil)) .nil))) (.op .eq (.cons (.op .isN (.cons (.var 0) .nil)) (.cons (.op .isN (.cons (.var 1) .nil)) .nil))))))
  .nil)
  .nil)
  (.cons (.ret (.and (.op (.isi .int) (.cons (.var 0) .nil)) (.and (.not (.op (.isi .bool) (.cons (.var 0) .nil))) (.op .eq (.cons (.var 0) (.cons (.var 1) .nil))))))
  .nil))))
def I__law_same : FnI := { modes := [false, false], own := false, n := 5, body := B__law_same }
def E__law_back_0 : Ex := (.comp (.ife (.op .eq (.cons (.op .ix (.cons (.var 1) (.cons (.op .neg (.cons (.con (.int 1)) .nil)) .nil))) (.cons (.con (.str "-")) .nil))) (.op (.sl false true) (.cons (.var 1) (.cons (.op .neg (.cons (.con (.int 1)) .nil)) .nil))) (.op .add (.cons (.var 1) (.cons (.con (.str "-")) .nil)))) (.nm 1) (.itOf (.op .rev (.cons (.var 0) .nil))) .nil)
@[simp] theorem E__law_back_0_a {C : Calls} : (sem C E__law_back_0).a = bnd (sem C E__law_back_0).v fun d => gives (.vl d) := rfl
@[simp] theorem E__law_back_0_t {C : Calls} : (sem C E__law_back_0).t = bnd (sem C E__law_back_0).v fun d => lift (truD d) := rfl
def B__law_back : Sx := (.cons (.ret (.op .tuple (.cons E__law_back_0 .nil)))
  .nil)
def I__law_back : FnI := { modes := [false], own := false, n := 2, body := B__law_back }
def S__law_small_word_0 : Sx := (.cons (.set 1 (.op .add (.cons (.var 1) (.cons (.op .mul (.cons (.ife (.op .gt (.cons (.var 3) (.cons (.con (.int 0)) .nil))) (.var 2) (.call x__law_back [0] (.cons (.var 2) .nil))) (.cons (.op .abs (.cons (.var 3) .nil)) .nil))) .nil))))
  .nil)
def B__law_small_word : Sx := (.cons (.set 1 (.tup .nil))
  (.cons (.for_ (.tp [2, 3]) (.itOf (.var 0))
  S__law_small_word_0)
  (.cons (.ret (.var 1))
  .nil)))
def I__law_small_word : FnI := { modes := [false], own := false, n := 4, body := B__law_small_word }
def E__law_out_0 : Ex := (.comp (.var 4) (.nm 4) (.itRange (.cons (.op .sub (.cons (.op .len (.cons (.var 2) .nil)) (.cons (.con (.int 1)) .nil))) .nil)) (.cons (.op .eq (.cons (.call x__law_back [0] (.cons (.tup (.cons (.op .ix (.cons (.var 2) (.cons (.var 4) .nil))) .nil)) .nil)) (.cons (.tup (.cons (.op .ix (.cons (.var 2) (.cons (.op .add (.cons (.var 4) (.cons (.con (.int 1)) .nil))) .nil))) .nil)) .nil))) .nil))
@[simp] theorem E__law_out_0_a {C : Calls} : (sem C E__law_out_0).a = bnd (sem C E__law_out_0).v fun d => gives (.vl d) := rfl
@[simp] theorem E__law_out_0_t {C : Calls} : (sem C E__law_out_0).t = bnd (sem C E__law_out_0).v fun d => lift (truD d) := rfl
def E__law_out_1 : Ex := (.comp (.var 5) (.nm 5) (.itRange (.cons (.op .sub (.cons (.op .len (.cons (.var 2) .nil)) (.cons (.con (.int 1)) .nil))) .nil)) (.cons (.op .eq (.cons (.call x__law_back [0] (.cons (.tup (.cons (.op .ix (.cons (.var 2) (.cons (.var 5) .nil))) .nil)) .nil)) (.cons (.tup (.cons (.op .ix (.cons (.var 2) (.cons (.op .add (.cons (.var 5) (.cons (.con (.int 1)) .nil))) .nil))) .nil)) .nil))) .nil))
@[simp] theorem E__law_out_1_a {C : Calls} : (sem C E__law_out_1).a = bnd (sem C E__law_out_1).v fun d => gives (.vl d) := rfl
@[simp] theorem E__law_out_1_t {C : Calls} : (sem C E__law_out_1).t = bnd (sem C E__law_out_1).v fun d => lift (truD d) := rfl
def S__law_out_2 : Sx := (.cons (.set 4 (.call x__law_of [0, 1] (.cons (.lend 0) (.cons (.var 3) .nil))))
  (.cons (.set 2 (.op .add (.cons (.op (.sl false true) (.cons (.var 2) (.cons (.var 4) .nil))) (.cons (.op (.sl true false) (.cons (.var 2) (.cons (.op .add (.cons (.var 4) (.cons (.con (.int 2)) .nil))) .nil))) .nil))))
  (.cons (.set 3 E__law_out_1)
  .nil)))
def B__law_out : Sx := (.cons (.set 2 (.op .list (.cons (.var 1) .nil)))
  (.cons (.set 3 E__law_out_0)
  (.cons (.while_ (.op .ne (.cons (.var 3) (.cons (.lst .nil) .nil)))
  S__law_out_2)
  (.cons (.ret (.op .tuple (.cons (.var 2) .nil)))
  .nil))))
def I__law_out : FnI := { modes := [true, false], own := false, n := 6, body := B__law_out }
def E__law_any_word_0 : Ex := (.comp (.call x__law_of [0, 1] (.cons (.lend 0) (.cons (.lst (.cons (.con (.str "a")) (.cons (.con (.str "a-")) (.cons (.con (.str "b")) (.cons (.con (.str "b-")) (.cons (.con (.str "b.1")) (.cons (.con (.str "b.1-")) .nil))))))) .nil))) (.nm 2) (.itRange (.cons (.call x__law_take [0, 1] (.cons (.lend 0) (.cons (.op .add (.cons (.var 1) (.cons (.con (.int 1)) .nil))) .nil))) .nil)) .nil)
@[simp] theorem E__law_any_word_0_a {C : Calls} : (sem C E__law_any_word_0).a = bnd (sem C E__law_any_word_0).v fun d => gives (.vl d) := rfl
@[simp] theorem E__law_any_word_0_t {C : Calls} : (sem C E__law_any_word_0).t = bnd (sem C E__law_any_word_0).v fun d => lift (truD d) := rfl
def B__law_any_word : Sx := (.cons (.ret (.op .tuple (.cons E__law_any_word_0 .nil)))
  .nil)
def I__law_any_word : FnI := { modes := [true, false], own := false, n := 3, body := B__law_any_word }
def B__law_by_hand_right : Sx := (.cons (.seto 0 (.lst (.cons (.call x_tidy [0] (.cons (.tup (.cons (.con (.str "a")) (.cons (.con (.str "b")) (.cons (.con (.str "b-")) (.cons (.con (.str "a-")) (.cons (.con (.str "c")) .nil)))))) .nil)) (.cons (.call x_tidy [0] (.cons (.tup (.cons (.con (.str "a")) (.cons (.con (.str "a")) .nil))) .nil)) (.cons (.call x_tidy [0] (.cons (.tup (.cons (.con (.str "a-")) (.cons (.con (.str "a")) (.cons (.con (.str "a-")) .nil)))) .nil)) (.cons (.call x_tidy [0] (.cons (.tup .nil) .nil)) (.cons (.call x_tidy [0] (.cons (.lst (.cons (.con (.str "b")) (.cons (.con (.str "b.b-")) .nil))) .nil)) .nil)))))))
  (.cons (.seto 1 (.lst (.cons (.tup (.cons (.con (.str "c")) .nil)) (.cons (.tup (.cons (.con (.str "a")) (.cons (.con (.str "a")) .nil))) (.cons (.tup (.cons (.con (.str "a-")) .nil)) (.cons (.tup .nil) (.cons (.tup (.cons (.con (.str "b")) (.cons (.con (.str "b.b-")) .nil))) .nil)))))))
  (.cons (.seto 0 (.op .add (.cons (.pk 0) (.cons (.lst (.cons (.call x_word_back [0] (.cons (.tup (.cons (.con (.str "a")) (.cons (.con (.str "b-")) .nil))) .nil)) (.cons (.call x_word_back [0] (.cons (.tup .nil) .nil)) (.cons (.call x_word_back [0] (.cons (.lst (.cons (.con (.str "c")) (.cons (.con (.str "c-")) (.cons (.con (.str "d")) .nil)))) .nil)) .nil)))) .nil))))
  (.cons (.seto 1 (.op .add (.cons (.pk 1) (.cons (.lst (.cons (.tup (.cons (.con (.str "b")) (.cons (.con (.str "a-")) .nil))) (.cons (.tup .nil) (.cons (.tup (.cons (.con (.str "d-")) (.cons (.con (.str "c")) (.cons (.con (.str "c-")) .nil)))) .nil)))) .nil))))
  (.cons (.seto 0 (.op .add (.cons (.pk 0) (.cons (.lst (.cons (.call x_program_back [0] (.cons (.tup (.cons (.tup (.cons (.tup (.cons (.con (.str "a")) (.cons (.con (.str "b")) .nil))) (.cons (.con (.int 3)) .nil))) (.cons (.tup (.cons (.tup (.cons (.con (.str "c")) .nil)) (.cons (.op .neg (.cons (.con (.int 1)) .nil)) .nil))) (.cons (.tup (.cons (.tup .nil) (.cons (.con (.int 0)) .nil))) .nil)))) .nil)) (.cons (.call x_program_back [0] (.cons (.tup .nil) .nil)) .nil))) .nil))))
  (.cons (.seto 1 (.op .add (.cons (.pk 1) (.cons (.lst (.cons (.tup (.cons (.tup (.cons (.tup .nil) (.cons (.con (.int 0)) .nil))) (.cons (.tup (.cons (.tup (.cons (.con (.str "c")) .nil)) (.cons (.con (.int 1)) .nil))) (.cons (.tup (.cons (.tup (.cons (.con (.str "a")) (.cons (.con (.str "b")) .nil))) (.cons (.op .neg (.cons (.con (.int 3)) .nil)) .nil))) .nil)))) (.cons (.tup .nil) .nil))) .nil))))
  (.cons (.seto 0 (.op .add (.cons (.pk 0) (.cons (.lst (.cons (.call x_together [0] (.cons (.tup (.cons (.tup (.cons (.tup (.cons (.tup (.cons (.con (.str "a")) .nil)) (.cons (.con (.int 1)) .nil))) .nil)) (.cons (.tup .nil) (.cons (.tup (.cons (.tup (.cons (.tup (.cons (.con (.str "b")) .nil)) (.cons (.con (.int 2)) .nil))) (.cons (.tup (.cons (.tup (.cons (.con (.str "a")) .nil)) (.cons (.con (.int 0)) .nil))) .nil))) .nil)))) .nil)) (.cons (.call x_together [0] (.cons (.tup .nil) .nil)) .nil))) .nil))))
  (.cons (.seto 1 (.op .add (.cons (.pk 1) (.cons (.lst (.cons (.tup (.cons (.tup (.cons (.tup (.cons (.con (.str "a")) .nil)) (.cons (.con (.int 1)) .nil))) (.cons (.tup (.cons (.tup (.cons (.con (.str "b")) .nil)) (.cons (.con (.int 2)) .nil))) (.cons (.tup (.cons (.tup (.cons (.con (.str "a")) .nil)) (.cons (.con (.int 0)) .nil))) .nil)))) (.cons (.tup .nil) .nil))) .nil))))
  (.cons (.seto 0 (.op .add (.cons (.pk 0) (.cons (.lst (.cons (.call x_size_of [0] (.cons (.tup (.cons (.tup (.cons (.tup (.cons (.con (.str "a")) (.cons (.con (.str "b")) .nil))) (.cons (.op .neg (.cons (.op .pow (.cons (.con (.int 10)) (.cons (.con (.int 30)) .nil))) .nil)) .nil))) (.cons (.tup (.cons (.tup .nil) (.cons (.con (.int 5)) .nil))) (.cons (.tup (.cons (.tup (.cons (.con (.str "c")) .nil)) (.cons (.con (.int 3)) .nil))) .nil)))) .nil)) (.cons (.call x_size_of [0] (.cons (.tup .nil) .nil)) .nil))) .nil))))
  (.cons (.seto 1 (.op .add (.cons (.pk 1) (.cons (.lst (.cons (.op .add (.cons (.op .mul (.cons (.con (.int 2)) (.cons (.op .pow (.cons (.con (.int 10)) (.cons (.con (.int 30)) .nil))) .nil))) (.cons (.con (.int 3)) .nil))) (.cons (.con (.int 0)) .nil))) .nil))))
  (.cons (.seto 0 (.op .add (.cons (.pk 0) (.cons (.lst (.cons (.call x_as_word [0] (.cons (.tup (.cons (.tup (.cons (.tup (.cons (.con (.str "a")) (.cons (.con (.str "b")) .nil))) (.cons (.op .neg (.cons (.con (.int 2)) .nil)) .nil))) (.cons (.tup (.cons (.tup (.cons (.con (.str "a")) .nil)) (.cons (.con (.int 1)) .nil))) .nil))) .nil)) (.cons (.call x_as_word [0] (.cons (.tup (.cons (.tup (.cons (.tup (.cons (.con (.str "a")) .nil)) (.cons (.con (.int 40)) .nil))) (.cons (.tup (.cons (.tup (.cons (.con (.str "a")) .nil)) (.cons (.op .neg (.cons (.con (.int 24)) .nil)) .nil))) .nil))) .nil)) (.cons (.call x_as_word [0] (.cons (.tup (.cons (.tup (.cons (.tup .nil) (.cons (.op .pow (.cons (.con (.int 10)) (.cons (.con (.int 30)) .nil))) .nil))) .nil)) .nil)) .nil)))) .nil))))
  (.cons (.seto 1 (.op .add (.cons (.pk 1) (.cons (.lst (.cons (.tup (.cons (.con (.str "b-")) (.cons (.con (.str "a-")) (.cons (.con (.str "b-")) .nil)))) (.cons (.op .mul (.cons (.tup (.cons (.con (.str "a")) .nil)) (.cons (.con (.int 16)) .nil))) (.cons (.tup .nil) .nil)))) .nil))))
  (.cons (.expr (.mu .append 0 (.cons (.call x_about [0, 1] (.cons (.tup (.cons (.tup (.cons (.tup (.cons (.con (.str "b")) .nil)) (.cons (.con (.int 1)) .nil))) .nil)) (.cons (.tup (.cons (.tup (.cons (.tup (.cons (.con (.str "a")) .nil)) (.cons (.con (.int 2)) .nil))) (.cons (.tup (.cons (.tup (.cons (.con (.str "c")) .nil)) (.cons (.op .neg (.cons (.con (.int 1)) .nil)) .nil))) .nil))) .nil))) .nil)))
  (.cons (.expr (.mu .append 1 (.cons (.tup (.cons (.tup (.cons (.tup (.cons (.con (.str "c")) .nil)) (.cons (.con (.int 1)) .nil))) (.cons (.tup (.cons (.tup (.cons (.con (.str "a")) .nil)) (.cons (.op .neg (.cons (.con (.int 2)) .nil)) .nil))) (.cons (.tup (.cons (.tup (.cons (.con (.str "b")) .nil)) (.cons (.con (.int 1)) .nil))) (.cons (.tup (.cons (.tup (.cons (.con (.str "a")) .nil)) (.cons (.con (.int 2)) .nil))) (.cons (.tup (.cons (.tup (.cons (.con (.str "c")) .nil)) (.cons (.op .neg (.cons (.con (.int 1)) .nil)) .nil))) .nil)))))) .nil)))
  (.cons (.ret (.call x__law_same [0, 1] (.cons (.var 0) (.cons (.var 1) .nil))))
  .nil)))))))))))))))
def I__law_by_hand_right : FnI := { modes := [], own := false, n := 2, body := B__law_by_hand_right }
def E__law_right_0 : Ex := (.comp (.tup (.cons (.call x__law_any_word [0, 1] (.cons (.lend 0) (.cons (.con (.int 3)) .nil))) (.cons (.call x__law_of [0, 1] (.cons (.lend 0) (.cons (.lst (.cons (.con (.int 0)) (.cons (.con (.int 1)) (.cons (.con (.int 2)) (.cons (.op .neg (.cons (.con (.int 1)) .nil)) (.cons (.op .neg (.cons (.con (.int 3)) .nil)) .nil)))))) .nil))) .nil))) (.nm 11) (.itRange (.cons (.call x__law_take [0, 1] (.cons (.lend 0) (.cons (.con (.int 5)) .nil))) .nil)) .nil)
@[simp] theorem E__law_right_0_a {C : Calls} : (sem C E__law_right_0).a = bnd (sem C E__law_right_0).v fun d => gives (.vl d) := rfl
@[simp] theorem E__law_right_0_t {C : Calls} : (sem C E__law_right_0).t = bnd (sem C E__law_right_0).v fun d => lift (truD d) := rfl
def E__law_right_1 : Ex := (.comp (.tup (.cons (.call x__law_any_word [0, 1] (.cons (.lend 0) (.cons (.con (.int 4)) .nil))) (.cons (.op .sub (.cons (.call x__law_take [0, 1] (.cons (.lend 0) (.cons (.op .pow (.cons (.con (.int 10)) (.cons (.con (.int 30)) .nil))) .nil))) (.cons (.op .pow (.cons (.con (.int 10)) (.cons (.con (.int 29)) .nil))) .nil))) .nil))) (.nm 11) (.itRange (.cons (.call x__law_take [0, 1] (.cons (.lend 0) (.cons (.con (.int 4)) .nil))) .nil)) .nil)
@[simp] theorem E__law_right_1_a {C : Calls} : (sem C E__law_right_1).a = bnd (sem C E__law_right_1).v fun d => gives (.vl d) := rfl
@[simp] theorem E__law_right_1_t {C : Calls} : (sem C E__law_right_1).t = bnd (sem C E__law_right_1).v fun d => lift (truD d) := rfl
def E__law_right_2 : Ex := (.comp (.tup (.cons (.var 12) (.cons (.op .neg (.cons (.var 13) .nil)) .nil))) (.tp [12, 13]) (.itOf (.op .rev (.cons (.var 4) .nil))) .nil)
@[simp] theorem E__law_right_2_a {C : Calls} : (sem C E__law_right_2).a = bnd (sem C E__law_right_2).v fun d => gives (.vl d) := rfl
@[simp] theorem E__law_right_2_t {C : Calls} : (sem C E__law_right_2).t = bnd (sem C E__law_right_2).v fun d => lift (truD d) := rfl
def E__law_right_3 : Ex := (.comp (.op .mul (.cons (.op .len (.cons (.var 12) .nil)) (.cons (.op .abs (.cons (.var 13) .nil)) .nil))) (.tp [12, 13]) (.itOf (.var 4)) .nil)
@[simp] theorem E__law_right_3_a {C : Calls} : (sem C E__law_right_3).a = bnd (sem C E__law_right_3).v fun d => gives (.vl d) := rfl
@[simp] theorem E__law_right_3_t {C : Calls} : (sem C E__law_right_3).t = bnd (sem C E__law_right_3).v fun d => lift (truD d) := rfl
def S__law_right_4 : Sx := (.cons (.set 2 (.call x__law_any_word [0, 1] (.cons (.lend 0) (.cons (.con (.int 8)) .nil))))
  (.cons (.par [10, 9] (.cons (.call x__law_lists [0] (.cons (.var 2) .nil)) (.cons (.call x__law_out [0, 1] (.cons (.lend 0) (.cons (.var 2) .nil))) .nil)))
  (.cons (.ife (.not (.call x__law_same [0, 1] (.cons (.lst (.cons (.call x_tidy [0] (.cons (.var 2) .nil)) (.cons (.call x_tidy [0] (.cons (.var 10) .nil)) (.cons (.call x_word_back [0] (.cons (.var 2) .nil)) (.cons (.call x_word_back [0] (.cons (.var 10) .nil)) .nil))))) (.cons (.op .add (.cons (.lst (.cons (.var 9) (.cons (.var 9) .nil))) (.cons (.op .mul (.cons (.lst (.cons (.call x__law_back [0] (.cons (.var 2) .nil)) .nil)) (.cons (.con (.int 2)) .nil))) .nil))) .nil))))
  (.cons (.ret (.con (.bool false)))
  .nil)
  .nil)
  (.cons (.set 3 (.op .tuple (.cons E__law_right_0 .nil)))
  (.cons (.set 4 (.op .tuple (.cons E__law_right_1 .nil)))
  (.cons (.set 5 (.lst (.cons (.call x__law_lists [0] (.cons (.var 3) .nil)) (.cons (.call x__law_lists [0] (.cons (.var 4) .nil)) .nil))))
  (.cons (.set 6 (.op .tuple (.cons E__law_right_2 .nil)))
  (.cons (.set 7 (.lst (.cons (.call x_program_back [0] (.cons (.var 4) .nil)) (.cons (.call x_program_back [0] (.cons (.op .ix (.cons (.var 5) (.cons (.con (.int 1)) .nil))) .nil)) (.cons (.call x_together [0] (.cons (.tup (.cons (.var 3) (.cons (.var 4) .nil))) .nil)) (.cons (.call x_together [0] (.cons (.lst (.cons (.op .ix (.cons (.var 5) (.cons (.con (.int 0)) .nil))) (.cons (.var 4) .nil))) .nil)) .nil))))))
  (.cons (.ife (.not (.call x__law_same [0, 1] (.cons (.var 7) (.cons (.op .add (.cons (.op .mul (.cons (.lst (.cons (.var 6) .nil)) (.cons (.con (.int 2)) .nil))) (.cons (.op .mul (.cons (.lst (.cons (.op .add (.cons (.var 3) (.cons (.var 4) .nil))) .nil)) (.cons (.con (.int 2)) .nil))) .nil))) .nil))))
  (.cons (.ret (.con (.bool false)))
  .nil)
  .nil)
  (.cons (.set 8 (.op .sum (.cons E__law_right_3 .nil)))
  (.cons (.set 7 (.lst (.cons (.call x_size_of [0] (.cons (.var 4) .nil)) (.cons (.call x_size_of [0] (.cons (.op .ix (.cons (.var 5) (.cons (.con (.int 1)) .nil))) .nil)) (.cons (.call x_about [0, 1] (.cons (.var 3) (.cons (.var 4) .nil))) (.cons (.call x_about [1, 0] (.cons (.op .ix (.cons (.var 5) (.cons (.con (.int 1)) .nil))) (.cons (.op .ix (.cons (.var 5) (.cons (.con (.int 0)) .nil))) .nil))) .nil))))))
  (.cons (.ife (.not (.call x__law_same [0, 1] (.cons (.var 7) (.cons (.op .add (.cons (.op .mul (.cons (.lst (.cons (.var 8) .nil)) (.cons (.con (.int 2)) .nil))) (.cons (.op .mul (.cons (.lst (.cons (.op .add (.cons (.op .add (.cons (.var 6) (.cons (.var 3) .nil))) (.cons (.var 4) .nil))) .nil)) (.cons (.con (.int 2)) .nil))) .nil))) .nil))))
  (.cons (.ret (.con (.bool false)))
  .nil)
  .nil)
  (.cons (.set 9 (.call x__law_out [0, 1] (.cons (.lend 0) (.cons (.call x__law_small_word [0] (.cons (.var 3) .nil)) .nil))))
  (.cons (.ife (.not (.call x__law_same [0, 1] (.cons (.lst (.cons (.call x_as_word [0] (.cons (.var 3) .nil)) (.cons (.call x_as_word [0] (.cons (.op .ix (.cons (.var 5) (.cons (.con (.int 0)) .nil))) .nil)) .nil))) (.cons (.lst (.cons (.var 9) (.cons (.var 9) .nil))) .nil))))
  (.cons (.ret (.con (.bool false)))
  .nil)
  .nil)
  (.cons (.ife (.or (.op .ne (.cons (.var 5) (.cons (.lst (.cons (.call x__law_lists [0] (.cons (.var 3) .nil)) (.cons (.call x__law_lists [0] (.cons (.var 4) .nil)) .nil))) .nil))) (.op .ne (.cons (.var 10) (.cons (.call x__law_lists [0] (.cons (.var 2) .nil)) .nil))))
  (.cons (.ret (.con (.bool false)))
  .nil)
  .nil)
  .nil)))))))))))))))
def B__law_right : Sx := (.cons (.for_ (.nm 1) (.itRange (.cons (.con (.int 6)) .nil))
  S__law_right_4)
  (.cons (.ret (.con (.bool true)))
  .nil))
def I__law_right : FnI := { modes := [true], own := false, n := 14, body := B__law_right }
def E_law_0 : Ex := (.comp (.call x__law_right [0] (.cons (.give (.call x__law_box [0, 1] (.cons (.var 1) (.cons (.var 2) .nil)))) .nil)) (.nm 2) (.itRange (.cons (.op .len (.cons (.var 1) .nil)) .nil)) .nil)
@[simp] theorem E_law_0_a {C : Calls} : (sem C E_law_0).a = bnd (sem C E_law_0).v fun d => gives (.vl d) := rfl
@[simp] theorem E_law_0_t {C : Calls} : (sem C E_law_0).t = bnd (sem C E_law_0).v fun d => lift (truD d) := rfl
def B_law : Sx := (.cons (.set 1 (.call x__law_cells [0, 1] (.cons (.var 0) (.cons (.con (.int 3)) .nil))))
  (.cons (.ife (.not (.call x__law_by_hand_right [] .nil))
  (.cons (.ret (.con (.bool false)))
  .nil)
  .nil)
  (.cons (.ret (.op .all (.cons E_law_0 .nil)))
  .nil)))
def I_law : FnI := { modes := [false], own := false, n := 3, body := B_law }
def tf : List FnI := [I_plain, I_note_of, I_backward, I_tidied, I_tidy, I_word_back, I_program_back, I_together, I_size_of, I_as_word, I_about, I__law_box, I__law_take, I__law_cells, I__law_of, I__law_lists, I__law_same, I__law_back, I__law_small_word, I__law_out, I__law_any_word, I__law_by_hand_right, I__law_right, I_law]
theorem at_plain : tf[x_plain]? = some I_plain := rfl
theorem at_note_of : tf[x_note_of]? = some I_note_of := rfl
theorem at_backward : tf[x_backward]? = some I_backward := rfl
theorem at_tidied : tf[x_tidied]? = some I_tidied := rfl
theorem at_tidy : tf[x_tidy]? = some I_tidy := rfl
theorem at_word_back : tf[x_word_back]? = some I_word_back := rfl
theorem at_program_back : tf[x_program_back]? = some I_program_back := rfl
theorem at_together : tf[x_together]? = some I_together := rfl
theorem at_size_of : tf[x_size_of]? = some I_size_of := rfl
theorem at_as_word : tf[x_as_word]? = some I_as_word := rfl
theorem at_about : tf[x_about]? = some I_about := rfl
theorem at__law_box : tf[x__law_box]? = some I__law_box := rfl
theorem at__law_take : tf[x__law_take]? = some I__law_take := rfl
theorem at__law_cells : tf[x__law_cells]? = some I__law_cells := rfl
theorem at__law_of : tf[x__law_of]? = some I__law_of := rfl
theorem at__law_lists : tf[x__law_lists]? = some I__law_lists := rfl
theorem at__law_same : tf[x__law_same]? = some I__law_same := rfl
theorem at__law_back : tf[x__law_back]? = some I__law_back := rfl
theorem at__law_small_word : tf[x__law_small_word]? = some I__law_small_word := rfl
theorem at__law_out : tf[x__law_out]? = some I__law_out := rfl
theorem at__law_any_word : tf[x__law_any_word]? = some I__law_any_word := rfl
theorem at__law_by_hand_right : tf[x__law_by_hand_right]? = some I__law_by_hand_right := rfl
theorem at__law_right : tf[x__law_right]? = some I__law_right := rfl
theorem at_law : tf[x_law]? = some I_law := rfl
end L25

namespace L25
open PySem FC
def wf : Nat := 100000
section
variable {n : Nat}
theorem s_take_a (hn : 1 ≤ n) {a b c m : Int} (ha : 0 < a) (hm : 0 < m) (hm2 : m < 2 ^ 200) : run tf wf n x__law_take [urn a b c, .int m] = some (.int (a % m), [urn (a / m) b c]) := by
  rw [run_at' at__law_take hn rfl]
  simp [I__law_take, B__law_take, startS, inB, urn, ha, hm, log_lt' (Int.le_of_lt hm) hm2, endD, lentsOf]
theorem s_take_b (hn : 1 ≤ n) {a b c m : Int} (ha : a ≤ 0) (hc : 0 ≤ c) (hc2 : c < 2 ^ 62) (hm : 0 < m) : run tf wf n x__law_take [urn a b c, .int m] = some (.int (drawn b (c + 1) m), [urn a b (c + 1)]) := by
  rw [run_at' at__law_take hn rfl]
  have e1 : mulOk 48271 (c + 1) = true := mul_ok' (by decide)
  have e2 : mulOk (b + 48271 * (c + 1)) (39373 + (c + 1)) = true := mul_ok (by omega)
  have e3 : mulOk (once b (c + 1) + (c + 1) + b / 1000003) (once b (c + 1) % 40009 + 7) = true := mul_ok (by omega)
  have e4 : mulOk (twice b (c + 1)) 48271 = true := mul_ok (by decide)
  have na : ¬ 0 < a := by omega
  have l1 : Nat.log2 1000003 < 9000 := by decide +kernel
  have l2 : Nat.log2 64 < 9000 := by decide +kernel
  unfold twice at e4
  unfold once at e3 e4
  simp [I__law_take, B__law_take, startS, inB, urn, na, hm, endD, lentsOf, e1, e2, e3, e4, l1, l2, drawn, twice, once]
theorem s_take (hn : 1 ≤ n) {u : D} {N : Nat} {m : Int} (hu : Urn N u) (hN : N < 2 ^ 62) (hm : 0 < m) (hm2 : m < 2 ^ 200) :
    ∃ r u', run tf wf n x__law_take [u, .int m] = some (.int r, [u']) ∧ Urn (N + 1) u' ∧ 0 ≤ r ∧ r < m := by
  obtain ⟨a, b, c, rfl, h1, h2, h3⟩ := hu
  by_cases ha : 0 < a
  · exact ⟨_, _, s_take_a hn ha hm hm2, ⟨_, _, _, rfl, Int.ediv_nonneg h1 (by omega), h2, by omega⟩, Int.emod_nonneg _ (by omega), Int.emod_lt_of_pos _ hm⟩
  · exact ⟨_, _, s_take_b hn (by omega) h2 (by omega) hm, ⟨_, _, _, rfl, h1, by omega, by omega⟩, Int.emod_nonneg _ (by omega), Int.emod_lt_of_pos _ hm⟩
theorem s_of (hn : 2 ≤ n) {u : D} {N : Nat} {xs : List D} (hu : Urn N u) (hN : N < 2 ^ 62) (hx : xs ≠ []) (hx2 : xs.length < 2 ^ 62) :
    ∃ (k : Nat) (x : D) (u' : D), xs[k]? = some x ∧ run tf wf n x__law_of [u, .list xs] = some (x, [u']) ∧ Urn (N + 1) u' := by
  have hpos : 0 < xs.length := List.length_pos_iff.mpr hx
  obtain ⟨r, u', e, hu', h0, h1⟩ := s_take (n := n - 1) (m := (xs.length : Int)) (by omega) hu hN (by omega) (by omega)
  obtain ⟨k, rfl⟩ := Int.eq_ofNat_of_zero_le h0
  have hk : k < xs.length := by omega
  refine ⟨k, xs[k], u', List.getElem?_eq_getElem hk, ?_, hu'⟩
  rw [run_at' at__law_of (by omega) rfl]
  have ix : L2.atI xs (k : Int) = some xs[k] := by rw [atI_nat, List.getElem?_eq_getElem hk]
  simp [I__law_of, B__law_of, startS, inB, endD, lentsOf, e, ix]
theorem s_box (hn : 1 ≤ n) {ns : List Int} {k : Nat} :
    ∃ u, run tf wf n x__law_box [.list (ns.map .int), .int k] = some (u, []) ∧ Urn 0 u := by
  have e2 : mulOk 39373 (k : Int) = true := mul_ok' (by decide)
  have e3 : opPow (.int 10) (.int 18) = some (.int (10 ^ 18)) := rfl
  have ez : (3 : Nat) ≤ sizeLine := by decide
  by_cases hlt : k < ns.length
  · have ix : L2.atI (ns.map PyData.int) (k : Int) = some (.int ns[k]) := by
      rw [atI_nat, List.getElem?_map, List.getElem?_eq_getElem hlt]; rfl
    have hlt' : (k : Int) < (ns.length : Int) := by omega
    refine ⟨urn (absI ns[k] * (if (10 ^ 18 : Int) ≤ absI ns[k] then 1 else 0)) (ns[k] % 2305843009213693951 + 39373 * k + kk_box) 0, ?_, _, _, _, rfl, Int.mul_nonneg (abs_nn _) ite_nn, by omega, by omega⟩
    rw [run_at' at__law_box hn rfl]
    simp [I__law_box, B__law_box, startS, inB, endD, lentsOf, ix, hlt', hlt, e2, e3, mul_b, ez, urn]
  · have hlt' : ¬ (k : Int) < (ns.length : Int) := by omega
    refine ⟨urn 0 (0 % 2305843009213693951 + 39373 * k + kk_box) 0, ?_, _, _, _, rfl, by omega, by omega, by omega⟩
    rw [run_at' at__law_box hn rfl]
    have a0 : absI 0 = 0 := rfl
    have m00 : mulOk 0 0 = true := by decide +kernel
    simp [I__law_box, B__law_box, startS, inB, endD, lentsOf, hlt', hlt, e2, e3, mul_b, ez, urn, a0, m00]
end
end L25

namespace L25
open PySem FC
section
variable {n : Nat}
theorem s_cells (hn : 1 ≤ n) {ns : List Int} {m : Nat} (hm : 0 < m) (hm2 : m < 64) :
    ∃ ms : List Int, run tf wf n x__law_cells [.list (ns.map .int), .int m] = some (.list (ms.map .int), []) ∧ 0 < ms.length ∧ ms.length ≤ m := by
  let st (cs : List Int) (a b c : Option D) : S := [some (.val (.list (ns.map .int))), some (.val (.int m)), some (.own (.list (cs.map .int))), a.map .val, b.map .val, c.map .val]
  have hloop : ∀ cs : List Int, (m < ns.length → cs.length = m) → ∃ cs' a b c, stm wf (run tf wf (n - 1)) (.for_ (.tp [3, 4]) (.itEnum (.sl2 (.var 0) (.var 1) (.con (.int 63)))) S__law_cells_0) (st cs none none none) = some (.nx, st cs' a b c) ∧ cs'.length = cs.length := by
    intro cs hcs
    rw [stm_for]
    have hit : (sem (run tf wf (n - 1)) (.itEnum (.sl2 (.var 0) (.var 1) (.con (.int 63))))).it (st cs none none none) = some (enumD 0 (((ns.map PyData.int).drop m).take (63 - m)), st cs none none none) := by
      have e63 : cutD (ns.map PyData.int) (some (m : Int)) (some 63) = ((ns.map PyData.int).drop m).take (63 - m) := cut_mid (l := 63)
      simp [st, e63]
    rw [bnd_run, hit]
    obtain ⟨s', e, p⟩ := forLoop_inv (b := stm wf (run tf wf (n - 1)) S__law_cells_0) (t := .tp [3, 4]) (fun _ s => ∃ cs' a b c, s = st cs' a b c ∧ cs'.length = cs.length) (enumD 0 (((ns.map PyData.int).drop m).take (63 - m))) (by
      rintro i d s hd ⟨cs', a, b, c, rfl, hl⟩
      obtain ⟨y, hy, rfl⟩ := enumD_get hd
      have hi : i < 63 - m ∧ m + i < ns.length := by
        have := (List.getElem?_eq_some_iff.mp hy).1
        simp only [List.length_take, List.length_drop, List.length_map] at this
        omega
      rw [List.getElem?_take_of_lt hi.1, List.getElem?_drop, List.getElem?_map, List.getElem?_eq_getElem hi.2] at hy
      cases hy
      have hlen : cs'.length = m := by rw [hl]; exact hcs (by omega)
      have hk : ((i : Int) % (m : Int)) = ((i % m : Nat) : Int) := by omega
      have hk2 : i % m < cs'.length := by rw [hlen]; exact Nat.mod_lt _ hm
      have ix : L2.atI (cs'.map PyData.int) ((i : Int) % (m : Int)) = some (.int cs'[i % m]) := by
        rw [hk, atI_nat, List.getElem?_map, List.getElem?_eq_getElem hk2]; rfl
      have sb : ∀ x : Int, subD (.list (cs'.map PyData.int)) (.int ((i : Int) % (m : Int))) (.int x) = some (.list ((cs'.set (i % m) x).map PyData.int)) := fun x => by
        rw [hk, sub_nat (by simpa using hk2), List.map_set]
      have mo : mulOk ns[m + i] ((i : Int) + 2) = true := mul_ok (by omega)
      have hm' : (0 : Int) < m := by omega
      refine ⟨st cs' (some (.int i)) (some (.int ns[m + i])) c, st (cs'.set (i % m) (cs'[i % m] + ns[m + i] * ((i : Int) + 2))) (some (.int i)) (some (.int ns[m + i])) (some (.int ((i : Int) % (m : Int)))), ?_, .inl ?_, _, _, _, _, rfl, by simp [hl]⟩
      · cases a <;> cases b <;> simp [st, bindT, itemsOf, putAll]
      · cases c <;> simp [S__law_cells_0, st, hm, ix, sb, mo]) (st cs none none none) ⟨cs, none, none, none, rfl, rfl⟩
    obtain ⟨cs', a, b, c, rfl, hl⟩ := p
    exact ⟨cs', a, b, c, e, hl⟩
  have ct : cutD (ns.map PyData.int) none (some (m : Int)) = (ns.take m).map PyData.int := by rw [cut_take, List.map_take]
  have e1 : (1 : Nat) ≤ sizeLine := by decide
  by_cases h0 : ns = []
  · subst h0
    obtain ⟨cs', a, b, c, e, hl⟩ := hloop [0] (by simp)
    refine ⟨cs', ?_, by rw [hl]; simp, by rw [hl]; show 1 ≤ m; omega⟩
    rw [run_at' at__law_cells hn rfl]
    simp only [st] at e
    simp [List.map_nil, Option.map] at e
    simp [I__law_cells, B__law_cells, startS, inB, endD, lentsOf, cut_take, e1, e]
  · have hne : ns.take m ≠ [] := by
      intro z
      have h1 := congrArg List.length z
      rw [List.length_take, List.length_nil] at h1
      have h2 : 0 < ns.length := List.length_pos_iff.mpr h0
      omega
    obtain ⟨cs', a, b, c, e, hl⟩ := hloop (ns.take m) (fun hlt => by rw [List.length_take]; omega)
    have hp : 0 < (ns.take m).length := List.length_pos_iff.mpr hne
    refine ⟨cs', ?_, by rw [hl]; exact hp, by rw [hl, List.length_take]; omega⟩
    rw [run_at' at__law_cells hn rfl]
    have hb : ((ns.take m).map PyData.int).isEmpty = false := by
      cases q : ns.take m with
      | nil => exact absurd q hne
      | cons _ _ => rfl
    simp only [st] at e
    simp only [Option.map_none] at e
    have hmz : (m = 0 ∨ ns = []) = False := by simp [h0]; omega
    simp [I__law_cells, B__law_cells, startS, inB, endD, lentsOf, ct, e1, hb, hmz]
    rw [List.map_take] at e
    simp [e]
theorem s_plain : ∀ (k : Nat) (v : D) (n : Nat), k + 1 ≤ n → flat k v → run tf wf n x_plain [v] = some (plainD k v, []) := by
  intro k
  induction k with
  | zero =>
    intro v n hn hv
    rw [run_at' at_plain hn rfl]
    cases v <;> first | exact hv.elim | simp [I_plain, B_plain, startS, inB, endD, lentsOf, isTy, plainD]
  | succ k ih =>
    intro v n hn hv
    rw [run_at' at_plain (by omega) rfl]
    have hc : ∀ xs, walkOf v = some xs → xs.length ≤ sizeLine → (∀ x ∈ xs, flat k x) → (sem (run tf wf (n - 1)) E_plain_0).v [some (.val v), none] = some (.list (xs.map (plainD k)), [some (.val v), none]) := by
      intro xs hw hl hx
      refine comp_map (plainD k) (by simp [hw]) (by simp) hl fun d hd => ⟨[some (.val v), some (.val d)], [some (.val v), some (.val d)], [some (.val v), some (.val d)], by simp, by simp, ?_, by simp⟩
      simp [ih d (n - 1) (by omega) (hx d hd)]
    cases v with
    | list xs => simp [I_plain, B_plain, startS, inB, endD, lentsOf, isTy, plainD, hc xs rfl hv.1 hv.2]
    | tuple xs => simp [I_plain, B_plain, startS, inB, endD, lentsOf, isTy, plainD, hc xs rfl hv.1 hv.2]
    | dict _ => exact hv.elim
    | _ => simp [I_plain, B_plain, startS, inB, endD, lentsOf, isTy, plainD]
theorem s_lists : ∀ (k : Nat) (v : D) (n : Nat), k + 1 ≤ n → flat k v → run tf wf n x__law_lists [v] = some (listsD k v, []) := by
  intro k
  induction k with
  | zero =>
    intro v n hn hv
    rw [run_at' at__law_lists hn rfl]
    cases v <;> first | exact hv.elim | simp [I__law_lists, B__law_lists, startS, inB, endD, lentsOf, isTy, listsD]
  | succ k ih =>
    intro v n hn hv
    rw [run_at' at__law_lists (by omega) rfl]
    have hc : ∀ xs, walkOf v = some xs → xs.length ≤ sizeLine → (∀ x ∈ xs, flat k x) → (sem (run tf wf (n - 1)) E__law_lists_0).v [some (.val v), none] = some (.list (xs.map (listsD k)), [some (.val v), none]) := by
      intro xs hw hl hx
      refine comp_map (listsD k) (by simp [hw]) (by simp) hl fun d hd => ⟨[some (.val v), some (.val d)], [some (.val v), some (.val d)], [some (.val v), some (.val d)], by simp, by simp, ?_, by simp⟩
      simp [ih d (n - 1) (by omega) (hx d hd)]
    cases v with
    | list xs => simp [I__law_lists, B__law_lists, startS, inB, endD, lentsOf, isTy, listsD, hc xs rfl hv.1 hv.2]
    | tuple xs => simp [I__law_lists, B__law_lists, startS, inB, endD, lentsOf, isTy, listsD, hc xs rfl hv.1 hv.2]
    | dict _ => exact hv.elim
    | _ => simp [I__law_lists, B__law_lists, startS, inB, endD, lentsOf, isTy, listsD]
theorem s_same : ∀ (k : Nat) (v : D) (n : Nat), k + 1 ≤ n → flat k v → k ≤ 64 → run tf wf n x__law_same [v, v] = some (.bool true, []) := by
  intro k
  induction k with
  | zero =>
    intro v n hn hv hk
    rw [run_at' at__law_same hn rfl]
    have h1 := flat_sh hv (by omega)
    have h2 := flat_eqv hv
    cases v <;> first | exact hv.elim | simp [I__law_same, B__law_same, startS, inB, endD, lentsOf, isTy, isNone, h1, h2]
  | succ k ih =>
    intro v n hn hv hk
    rw [run_at' at__law_same (by omega) rfl]
    have h1 := flat_sh hv (by omega)
    have h2 := flat_eqv hv
    have hz : ∀ xs : List D, ∀ d ∈ zipD xs xs, ∃ x ∈ xs, d = .tuple [x, x] := by
      intro xs
      induction xs with
      | nil => intro d hd; cases hd
      | cons x xs ihx =>
        intro d hd
        rcases List.mem_cons.mp hd with rfl | hd
        · exact ⟨x, List.mem_cons_self, rfl⟩
        · obtain ⟨y, hy, e⟩ := ihx d hd
          exact ⟨y, List.mem_cons_of_mem _ hy, e⟩
    have hzl : ∀ xs : List D, (zipD xs xs).length = xs.length := by
      intro xs
      induction xs with
      | nil => rfl
      | cons x xs ihx => show (zipD xs xs).length + 1 = xs.length + 1; rw [ihx]
    have hzm : ∀ xs : List D, (zipD xs xs).map (fun _ => PyData.bool true) = List.replicate xs.length (PyData.bool true) := by
      intro xs
      rw [List.map_const', hzl]
    have hb : ∀ m : Nat, boolsOf (List.replicate m (PyData.bool true)) = some (List.replicate m true) := by
      intro m
      induction m with
      | zero => rfl
      | succ m ihm => simp [List.replicate_succ, boolsOf, ihm]
    have ha : ∀ m : Nat, opAll (.list (List.replicate m (PyData.bool true))) = some (.bool true) := by
      intro m
      simp [opAll, hb]
    have hc : ∀ xs, (v = .list xs ∨ v = .tuple xs) → xs.length ≤ sizeLine → (∀ x ∈ xs, flat k x) → (sem (run tf wf (n - 1)) E__law_same_0).v [some (.val v), some (.val v), none, none, none] = some (.list (List.replicate xs.length (.bool true)), [some (.val v), some (.val v), none, none, none]) := by
      intro xs hw hl hx
      rw [← hzm xs]
      refine comp_map (fun _ => PyData.bool true) (by rcases hw with rfl | rfl <;> simp) (by simp) (by rw [hzl]; exact hl) fun d hd => ?_
      obtain ⟨x, hx', rfl⟩ := hz xs d hd
      refine ⟨[some (.val v), some (.val v), none, some (.val x), some (.val x)], [some (.val v), some (.val v), none, some (.val x), some (.val x)], [some (.val v), some (.val v), none, some (.val x), some (.val x)], by simp [bindT, itemsOf, putAll], by simp, ?_, by simp⟩
      simp [ih x (n - 1) (by omega) (hx x hx') (by omega)]
    cases v with
    | list xs => simp [I__law_same, B__law_same, startS, inB, endD, lentsOf, isTy, hc xs (.inl rfl) hv.1 hv.2, ha]
    | tuple xs => simp [I__law_same, B__law_same, startS, inB, endD, lentsOf, isTy, hc xs (.inr rfl) hv.1 hv.2, ha]
    | dict _ => exact hv.elim
    | _ => simp [I__law_same, B__law_same, startS, inB, endD, lentsOf, isTy, isNone, h1, h2]
end
end L25

namespace L25
open PySem FC
section
variable {n : Nat}
theorem s_note_of (hn : 1 ≤ n) {p : Dd} (h : okN p.1) : run tf wf n x_note_of [dD p] = some (.str p.1, []) := by
  rw [run_at' at_note_of hn rfl]
  have e1 := ends_dash p h
  have e2 := dS_size p h
  have e3 := cut_dash p.1
  cases hb : p.2 with
  | false => simp [I_note_of, B_note_of, startS, inB, endD, lentsOf, mtM, isListA, isTy, Mt.ty, mtD, opEndswith, dD, e1, hb]; simp [dS, hb]
  | true =>
    have e4 : dS p = p.1 ++ dash := by simp [dS, hb]
    rw [e4] at e1 e2
    simp [I_note_of, B_note_of, startS, inB, endD, lentsOf, mtM, isListA, isTy, Mt.ty, mtD, opEndswith, dD, e1, hb, e4, opSl, e2, e3]
theorem dInv_val {p : Dd} (h : okN p.1) : (if p.2 then some (.str p.1) else opAdd (dD p) (.str dash)) = some (dD (dInv p)) := by
  cases hb : p.2 with
  | false =>
    have : dD p = .str p.1 := by simp [dD, dS, hb]
    rw [this]
    simp [add_dash p.1 h.2.1, dInv, dD, dS, hb]
  | true => simp [dInv, dD, dS, hb]
theorem s_backward (hn : 2 ≤ n) {w : List Dd} (h : okW w) (hl : w.length ≤ sizeLine) : run tf wf n x_backward [eW w] = some (eW (bw w), []) := by
  rw [run_at' at_backward (by omega) rfl]
  have hc : (sem (run tf wf (n - 1)) E_backward_0).v [some (.val (eW w)), none] = some (.list ((bw w).map dD), [some (.val (eW w)), none]) := by
    have := comp_map (C := run tf wf (n - 1)) (e := (.ife (.mt .endswith (.var 1) (.cons (.glob "NONE" (.str "-")) .nil)) (.call x_note_of [0] (.cons (.var 1) .nil)) (.op .add (.cons (.var 1) (.cons (.glob "NONE" (.str "-")) .nil))))) (t := .nm 1) (it := .itOf (.op .rev (.cons (.var 0) .nil))) (ifs := .nil) (s := [some (.val (eW w)), none]) (s0 := [some (.val (eW w)), none]) (ds := w.reverse.map dD)
      (fun d => match d with | .str z => if Txt.endswith z dash then .str (L2.cutS z none (some (-1))) else .str (z ++ dash) | d => d)
      (by simp [eW]) (by simp) (by simpa using hl) (by
        intro d hd
        obtain ⟨p, hp, rfl⟩ := List.mem_map.mp hd
        have ok := h p (List.mem_reverse.mp hp)
        refine ⟨[some (.val (eW w)), some (.val (dD p))], [some (.val (eW w)), some (.val (dD p))], [some (.val (eW w)), some (.val (dD p))], by simp, by simp, ?_, by simp⟩
        have e1 := ends_dash p ok
        have e2 := s_note_of (n := n - 1) (by omega) ok
        have e3 := dInv_val ok
        cases hb : p.2 with
        | false =>
          rw [hb] at e1
          have : dD p = .str p.1 := by simp [dD, dS, hb]
          have e4 : dS p = p.1 := by simp [dS, hb]
          rw [e4] at e1
          simp [mtM, isListA, isTy, Mt.ty, mtD, opEndswith, this, e1, add_dash p.1 ok.2.1]
        | true =>
          rw [hb] at e1
          have e4 : dS p = p.1 ++ dash := by simp [dS, hb]
          have : dD p = .str (p.1 ++ dash) := by rw [← e4]; rfl
          rw [e4] at e1
          rw [this] at e2
          simp [mtM, isListA, isTy, Mt.ty, mtD, opEndswith, this, e1, e2, cut_dash])
    unfold E_backward_0
    rw [this]
    congr 3
    simp only [bw, List.map_map, List.map_inj_left]
    intro p hp
    have ok := h p (List.mem_reverse.mp hp)
    have e1 := ends_dash p ok
    simp only [Function.comp, dD]
    rw [e1]
    cases hb : p.2 with
    | false => simp [dInv, hb, dS]
    | true => simp [dInv, hb, dS, cut_dash]
  simp [I_backward, B_backward, startS, inB, endD, lentsOf, hc]
  rfl
theorem s_back (hn : 1 ≤ n) {w : List Dd} (h : okW w) (hl : w.length ≤ sizeLine) : run tf wf n x__law_back [eW w] = some (eW (bw w), []) := by
  rw [run_at' at__law_back (by omega) rfl]
  have hc : (sem (run tf wf (n - 1)) E__law_back_0).v [some (.val (eW w)), none] = some (.list ((bw w).map dD), [some (.val (eW w)), none]) := by
    have := comp_map (C := run tf wf (n - 1)) (e := (.ife (.op .eq (.cons (.op .ix (.cons (.var 1) (.cons (.op .neg (.cons (.con (.int 1)) .nil)) .nil))) (.cons (.con (.str "-")) .nil))) (.op (.sl false true) (.cons (.var 1) (.cons (.op .neg (.cons (.con (.int 1)) .nil)) .nil))) (.op .add (.cons (.var 1) (.cons (.con (.str "-")) .nil))))) (t := .nm 1) (it := .itOf (.op .rev (.cons (.var 0) .nil))) (ifs := .nil) (s := [some (.val (eW w)), none]) (s0 := [some (.val (eW w)), none]) (ds := w.reverse.map dD)
      (fun d => match d with | .str z => if Txt.endswith z dash then .str (L2.cutS z none (some (-1))) else .str (z ++ dash) | d => d)
      (by simp [eW]) (by simp) (by simpa using hl) (by
        intro d hd
        obtain ⟨p, hp, rfl⟩ := List.mem_map.mp hd
        have ok := h p (List.mem_reverse.mp hp)
        refine ⟨[some (.val (eW w)), some (.val (dD p))], [some (.val (eW w)), some (.val (dD p))], [some (.val (eW w)), some (.val (dD p))], by simp, by simp, ?_, by simp⟩
        have e1 := ends_dash p ok
        have e2 := dS_size p ok
        obtain ⟨c, e3, e5⟩ := last_dS p ok
        have e6 : sh (.str dash) = true := by decide +kernel
        have e7 : (⟨#[c]⟩ == dash) = p.2 := by
          rw [← e5, Bool.eq_iff_iff]
          simp only [beq_iff_eq, decide_eq_true_eq]
          constructor
          · intro h; have := congrArg (fun z => z.cps.toList) h; rw [dash_list] at this; simpa using this
          · intro h; apply str_ext; rw [dash_list, h]
        have e8 : sh (.str ⟨#[c]⟩) = true := by
          have h1 := dS_ok p ok
          unfold L2.atI at e3
          cases hi : L2.ixN (dS p).cps.toList.length (-1) with
          | none => rw [hi] at e3; cases e3
          | some j =>
            rw [hi] at e3
            have h2 : (dS p).cps.toList[j]? = some c := e3
            obtain ⟨h3, h4⟩ := List.getElem?_eq_some_iff.mp h2
            unfold PyData.strOk at h1
            rw [Array.all_eq_true] at h1
            have h5 := h1 j (by simpa using h3)
            have h6 : (dS p).cps[j]'(by simpa using h3) = c := by rw [← h4]; simp
            rw [h6] at h5
            show (PyData.canLay0 _ && _) = true
            simp [PyData.canLay0, PyData.strOk, PyData.depth]
            simpa using h5
        cases hb : p.2 with
        | false =>
          rw [hb] at e1 e7
          have : dD p = .str p.1 := by simp [dD, dS, hb]
          have e4 : dS p = p.1 := by simp [dS, hb]
          rw [e4] at e1 e2 e3
          simp [this, e1, add_dash p.1 ok.2.1, opIx, e2, e3, e6, e7, e8]
        | true =>
          rw [hb] at e1 e7
          have e4 : dS p = p.1 ++ dash := by simp [dS, hb]
          have : dD p = .str (p.1 ++ dash) := by rw [← e4]; rfl
          rw [e4] at e1 e2 e3
          simp [this, e1, opIx, e2, e3, e6, e7, e8, opSl, cut_dash])
    unfold E__law_back_0
    rw [this]
    congr 3
    simp only [bw, List.map_map, List.map_inj_left]
    intro p hp
    have ok := h p (List.mem_reverse.mp hp)
    have e1 := ends_dash p ok
    simp only [Function.comp, dD]
    rw [e1]
    cases hb : p.2 with
    | false => simp [dInv, hb, dS]
    | true => simp [dInv, hb, dS, cut_dash]
  simp [I__law_back, B__law_back, startS, inB, endD, lentsOf, hc]
  rfl
end
end L25

namespace L25
open PySem FC
section
variable {n : Nat}
theorem s_tidied (hn : 3 ≤ n) {w : List Dd} (h : okW w) (hl : w.length < sizeLine) : run tf wf n x_tidied [eW w] = some (eW (tW w), []) := by
  rw [run_at' at_tidied (by omega) rfl]
  have hloop : ∃ s', forLoop (.nm 2) (stm wf (run tf wf (n - 1)) S_tidied_0) (w.map dD) [some (.val (eW w)), some (.own (.list [])), none] = some (.nx, s') ∧ ∃ b : Option D, s' = [some (.val (eW w)), some (.own (.list ((tW (w.take (w.map dD).length)).map dD))), b.map .val] := by
    refine forLoop_inv (fun i s => ∃ b : Option D, s = [some (.val (eW w)), some (.own (.list ((tW (w.take i)).map dD))), b.map .val]) (w.map dD) ?_ _ ⟨none, rfl⟩
    rintro i d s hd ⟨b, rfl⟩
    obtain ⟨p, hp, rfl⟩ := map_get hd
    have hpm : p ∈ w := List.mem_of_getElem? hp
    have okp := h p hpm
    have hi : i < w.length := (List.getElem?_eq_some_iff.mp hp).1
    have e1 := s_backward (n := n - 1) (by omega) (w := [p]) (fun q hq => by rw [List.mem_singleton.mp hq]; exact okp) (by show 1 ≤ sizeLine; decide)
    have e2 : eW [p] = .tuple [dD p] := rfl
    have e3 : eW (bw [p]) = .tuple [dD (dInv p)] := rfl
    rw [e2, e3] at e1
    have hlen : (tW (w.take i)).length ≤ i := Nat.le_trans (tW_len _) (by rw [List.length_take]; omega)
    have et : tW (w.take (i + 1)) = (push dInv (red dInv [] (w.take i)) p).reverse := by
      rw [take_succ_get hp]
      unfold tW tidyW
      rw [red_append]
      rfl
    have es : (1 : Nat) ≤ sizeLine := by decide
    have okr : ∀ q ∈ red dInv [] (w.take i), okN q.1 := red_mem dInv (fun p => okN p.1) (w.take i) [] (fun _ h => nomatch h) fun q hq => h q (List.mem_of_mem_take hq)
    refine ⟨[some (.val (eW w)), some (.own (.list ((tW (w.take i)).map dD))), some (.val (dD p))], [some (.val (eW w)), some (.own (.list ((tW (w.take (i + 1))).map dD))), some (.val (dD p))], by cases b <;> simp, .inl ?_, some (dD p), rfl⟩
    rw [et]
    cases hr : red dInv [] (w.take i) with
    | nil =>
      have e0 : tW (w.take i) = [] := by unfold tW tidyW; rw [hr]; rfl
      have hz : (0 : Nat) < sizeLine := by decide
      simp [S_tidied_0, e0, push, muM, isListA, isTy, muD, hz]
    | cons y r =>
      have e0 : tW (w.take i) = r.reverse ++ [y] := by unfold tW tidyW; rw [hr]; simp
      have oky : okN y.1 := okr y (by rw [hr]; exact List.mem_cons_self)
      have hsz : r.length + 1 < sizeLine := by
        have := hlen
        rw [e0] at this
        simp at this
        omega
      have ix : L2.atI (List.map dD (r.reverse ++ [y])) (-1) = some (dD y) := by rw [List.map_append]; exact atI_last
      have hpos : (0 : Int) < (r.length : Int) + 1 := by omega
      have sh1 := dD_sh oky
      have sh2 : sh (dD (dInv p)) = true := dD_sh (p := dInv p) okp
      have eq := dD_eqv oky (q := dInv p) okp
      by_cases hy : y = dInv p
      · rw [decide_eq_true hy] at eq
        subst hy
        have ix' : L2.atI (List.map dD r.reverse ++ [dD (dInv p)]) (-1) = some (dD (dInv p)) := atI_last
        rw [List.map_reverse] at ix'
        simp [S_tidied_0, e0, e1, es, ix', hpos, sh1, sh2, eq, muM, isListA, isTy, muD, push]
      · rw [decide_eq_false hy] at eq
        have ix' : L2.atI (List.map dD r.reverse ++ [dD y]) (-1) = some (dD y) := atI_last
        rw [List.map_reverse] at ix'
        simp [S_tidied_0, e0, e1, es, ix', hpos, sh1, sh2, eq, muM, isListA, isTy, muD, push, hy, hsz]
  obtain ⟨s', e, b, rfl⟩ := hloop
  have hz : (0 : Nat) ≤ sizeLine := by decide
  rw [List.length_map, List.take_length] at e
  have ew : walkOf (eW w) = some (w.map dD) := rfl
  simp [I_tidied, B_tidied, startS, inB, endD, lentsOf, stm_for, hz, ew, e]
  rfl
theorem s_tidy (hn : 4 ≤ n) {v : D} {w : List Dd} (hv : v = eW w ∨ v = lW w) (h : okW w) (hl : w.length < sizeLine) : run tf wf n x_tidy [v] = some (eW (tW w), []) := by
  rw [run_at' at_tidy (by omega) rfl]
  have e1 : run tf wf (n - 1) x_plain [v] = some (eW w, []) := by
    rcases hv with rfl | rfl
    · rw [s_plain 1 _ (n - 1) (by omega) (eW_flat h (by omega) 0), plain_eW]
    · rw [s_plain 1 _ (n - 1) (by omega) (lW_flat h (by omega) 0), plain_lW]
  simp [I_tidy, B_tidy, startS, inB, endD, lentsOf, e1, s_tidied (n := n - 1) (by omega) h hl]
theorem s_word_back (hn : 3 ≤ n) {v : D} {w : List Dd} (hv : v = eW w ∨ v = lW w) (h : okW w) (hl : w.length ≤ sizeLine) : run tf wf n x_word_back [v] = some (eW (bw w), []) := by
  rw [run_at' at_word_back (by omega) rfl]
  have e1 : run tf wf (n - 1) x_plain [v] = some (eW w, []) := by
    rcases hv with rfl | rfl
    · rw [s_plain 1 _ (n - 1) (by omega) (eW_flat h (by omega) 0), plain_eW]
    · rw [s_plain 1 _ (n - 1) (by omega) (lW_flat h (by omega) 0), plain_lW]
  simp [I_word_back, B_word_back, startS, inB, endD, lentsOf, e1, s_backward (n := n - 1) (by omega) h hl]
theorem s_plainP (hn : 4 ≤ n) {v : D} {p : List (List Dd × Int)} (hv : v = eP p ∨ v = lP p) (h : okP p) (hl : p.length ≤ sizeLine) : run tf wf n x_plain [v] = some (eP p, []) := by
  rcases hv with rfl | rfl
  · rw [s_plain 3 _ n (by omega) (eP_flat h (by omega) 0), plain_eP]
  · rw [s_plain 3 _ n (by omega) (lP_flat h (by omega) 0), plain_lP]
def pr (x : List Dd × Int) : D := .tuple [eW x.1, .int x.2]
theorem eP_pr (p : List (List Dd × Int)) : eP p = .tuple (p.map pr) := rfl
theorem s_program_back (hn : 5 ≤ n) {v : D} {p : List (List Dd × Int)} (hv : v = eP p ∨ v = lP p) (h : okP p) (hl : p.length ≤ sizeLine) : run tf wf n x_program_back [v] = some (eP (pback p), []) := by
  rw [run_at' at_program_back (by omega) rfl]
  have e1 := s_plainP (n := n - 1) (by omega) hv h hl
  have e2 : (2 : Nat) ≤ sizeLine := by decide
  have hc : (sem (run tf wf (n - 1)) E_program_back_0).v [some (.val v), none, none] = some (.list ((pback p).map pr), [some (.val v), none, none]) := by
    unfold E_program_back_0
    refine (comp_map (ds := p.reverse.map pr) (s0 := [some (.val v), none, none]) (fun d => match d with | .tuple [a, .int t] => .tuple [a, .int (-t)] | d => d) (by simp [e1, eP_pr]) (by simp) (by simpa using hl) ?_).trans ?_
    · intro d hd
      obtain ⟨x, hx, rfl⟩ := List.mem_map.mp hd
      refine ⟨[some (.val v), some (.val (eW x.1)), some (.val (.int x.2))], [some (.val v), some (.val (eW x.1)), some (.val (.int x.2))], [some (.val v), some (.val (eW x.1)), some (.val (.int x.2))], by simp [bindT, itemsOf, putAll, pr], by simp, ?_, by simp⟩
      simp [pr, e2]
    · congr 3
      simp only [pback, List.map_map, List.map_inj_left]
      intro x hx
      simp [Function.comp, pr]
  simp [I_program_back, B_program_back, startS, inB, endD, lentsOf, hc, eP_pr]
theorem s_together (hn : 6 ≤ n) {v : D} {ps : List (List (List Dd × Int))} (hv : plainD 4 v = .tuple (ps.map eP)) (hf : flat 4 v) (hl : ps.flatten.length ≤ sizeLine) : run tf wf n x_together [v] = some (eP ps.flatten, []) := by
  rw [run_at' at_together (by omega) rfl]
  have e1 := s_plain 4 v (n - 1) (by omega) hf
  rw [hv] at e1
  have hc : (sem (run tf wf (n - 1)) E_together_0).v [some (.val v), none, none] = some (.list (ps.flatten.map pr), [some (.val v), none, none]) := by
    unfold E_together_0
    have ef : (ps.map eP).flatMap (fun d => match d with | .tuple xs => xs | _ => []) = ps.flatten.map pr := by
      clear hv e1 hl
      induction ps with
      | nil => rfl
      | cons p ps ih => simp [ih, eP_pr]
    refine (comp2_map (ds := ps.map eP) (s0 := [some (.val v), none, none]) (fun d => match d with | .tuple xs => xs | _ => []) (by simp [e1]) (by simp) (by rw [ef, List.length_map]; exact hl) ?_).trans ?_
    · intro d hd acc hacc
      obtain ⟨p, hp, rfl⟩ := List.mem_map.mp hd
      rw [eP_pr] at hacc ⊢
      obtain ⟨s', h1, h2⟩ := compLoop_map (t := .nm 2) (ifs := (sem (run tf wf (n - 1)) .nil).ts) (e := (sem (run tf wf (n - 1)) (.var 2)).v) (s0 := [some (.val v), some (.val (.tuple (p.map pr))), none]) id (p.map pr) acc [some (.val v), some (.val (.tuple (p.map pr))), none] rfl hacc (by
        intro d hd
        exact ⟨[some (.val v), some (.val (.tuple (p.map pr))), some (.val d)], [some (.val v), some (.val (.tuple (p.map pr))), some (.val d)], [some (.val v), some (.val (.tuple (p.map pr))), some (.val d)], by simp, by simp, by simp, by simp⟩)
      refine ⟨[some (.val v), some (.val (.tuple (p.map pr))), none], [some (.val v), some (.val (.tuple (p.map pr))), none], [some (.val v), some (.val (.tuple (p.map pr))), none], p.map pr, s', by simp, by simp, by simp, by rw [h1]; simp, ?_⟩
      have h3 : s'.length = 3 := by
        have := congrArg List.length h2
        simpa using this
      match s', h3 with
      | [a, b, c], _ => simp at h2; simp [h2]
    · rw [ef]
  simp [I_together, B_together, startS, inB, endD, lentsOf, hc, eP_pr]
end
end L25

namespace L25
open PySem FC
section
variable {n : Nat}
theorem mul_step (v y : D) (a l : Int) (C : Calls) (h2 : opLen y = some (.int l)) (mo : mulOk l (absI a) = true) : (sem C (.op .mul (.cons (.op .len (.cons (.var 1) .nil)) (.cons (.op .abs (.cons (.var 2) .nil)) .nil)))).v [some (.val v), some (.val y), some (.val (.int a))] = some (.int (l * absI a), [some (.val v), some (.val y), some (.val (.int a))]) := by
  simp [h2, mo]
def szf (d : D) : D := match itemsOf d with
  | some [a, .int t] => (match opLen a with
    | some (.int l) => .int (l * absI t)
    | _ => .none)
  | _ => .none
theorem szf_eq {d y : D} {t l : Int} (h1 : itemsOf d = some [y, .int t]) (h2 : opLen y = some (.int l)) : szf d = .int (l * absI t) := by
  unfold szf
  rw [h1]
  simp only [h2]
theorem s_size_of (hn : 1 ≤ n) {v : D} {p : List (List Dd × Int)} (hv : v = eP p ∨ v = lP p) (h : okP p) (hl : p.length ≤ sizeLine) : run tf wf n x_size_of [v] = some (.int (sizeP p), []) := by
  rw [run_at' at_size_of (by omega) rfl]
  have key : ∀ (g : List Dd × Int → D) (xs : List D), (∀ x ∈ p, ∃ y, itemsOf (g x) = some [y, .int x.2] ∧ opLen y = some (.int x.1.length)) → walkOf v = some (p.map g) → (sem (run tf wf (n - 1)) E_size_of_0).v [some (.val v), none, none] = some (.list ((p.map fun x => (x.1.length : Int) * absI x.2).map .int), [some (.val v), none, none]) := by
    intro g xs hg hw
    unfold E_size_of_0
    refine (comp_map (ds := p.map g) (s0 := [some (.val v), none, none]) szf (by simp [hw]) (by simp) (by simpa using hl) ?_).trans ?_
    · intro d hd
      obtain ⟨x, hx, rfl⟩ := List.mem_map.mp hd
      obtain ⟨y, h1, h2⟩ := hg x hx
      have h3 := (h x hx).2
      refine ⟨[some (.val v), some (.val y), some (.val (.int x.2))], [some (.val v), some (.val y), some (.val (.int x.2))], [some (.val v), some (.val y), some (.val (.int x.2))], by simp [bindT, h1, putAll], by simp, ?_, by simp⟩
      rw [szf_eq h1 h2]
      exact mul_step v y x.2 _ _ h2 (mul_ok' (len64 h3))
    · congr 3
      simp only [List.map_map, List.map_inj_left]
      intro x hx
      obtain ⟨y, h1, h2⟩ := hg x hx
      exact szf_eq h1 h2
  have hc : (sem (run tf wf (n - 1)) E_size_of_0).v [some (.val v), none, none] = some (.list ((p.map fun x => (x.1.length : Int) * absI x.2).map .int), [some (.val v), none, none]) := by
    rcases hv with rfl | rfl
    · exact key pr [] (fun x hx => ⟨eW x.1, rfl, by simp [eW]⟩) rfl
    · exact key (fun x => .list [lW x.1, .int x.2]) [] (fun x hx => ⟨lW x.1, rfl, by simp [lW]⟩) rfl
  have e2 : opSum (.list ((p.map fun x => (x.1.length : Int) * absI x.2).map .int)) = some (.int (sizeP p)) := by
    exact opSum_ints _
  simp only [List.map_map] at hc e2
  simp [I_size_of, B_size_of, startS, inB, endD, lentsOf, hc, e2]
end
end L25

namespace L25
open PySem FC
section
variable {n : Nat}
/-- what the times of a pair must be -/
def okT (p : List (List Dd × Int)) : Prop := ∀ x ∈ p, absI x.2 ≤ 1000 ∧ x.1.length ≤ 1000
theorem smallW_succ {p : List (List Dd × Int)} {i : Nat} {x : List Dd × Int} (h : p[i]? = some x) : smallW (p.take (i + 1)) = smallW (p.take i) ++ (List.replicate (absI x.2).toNat (if 0 < x.2 then x.1 else bw x.1)).flatten := by
  rw [take_succ_get h, smallW_append, smallW_one]
theorem s_small_word (hn : 2 ≤ n) {p : List (List Dd × Int)} (h : okP p) (ht : okT p) (hl : (smallW p).length ≤ sizeLine) : run tf wf n x__law_small_word [eP p] = some (eW (smallW p), []) := by
  rw [run_at' at__law_small_word (by omega) rfl]
  have hloop : ∃ s', forLoop (.tp [2, 3]) (stm wf (run tf wf (n - 1)) S__law_small_word_0) (p.map pr) [some (.val (eP p)), some (.val (.tuple [])), none, none] = some (.nx, s') ∧ ∃ b c : Option D, s' = [some (.val (eP p)), some (.val (eW (smallW (p.take (p.map pr).length)))), b.map .val, c.map .val] := by
    refine forLoop_inv (fun i s => ∃ b c : Option D, s = [some (.val (eP p)), some (.val (eW (smallW (p.take i)))), b.map .val, c.map .val]) (p.map pr) ?_ _ ⟨none, none, rfl⟩
    rintro i d s hd ⟨b, c, rfl⟩
    obtain ⟨x, hx, rfl⟩ := map_get hd
    have hxm : x ∈ p := List.mem_of_getElem? hx
    have okx := (h x hxm).1
    have tx := ht x hxm
    refine ⟨[some (.val (eP p)), some (.val (eW (smallW (p.take i)))), some (.val (eW x.1)), some (.val (.int x.2))], [some (.val (eP p)), some (.val (eW (smallW (p.take (i + 1))))), some (.val (eW x.1)), some (.val (.int x.2))], by cases b <;> cases c <;> simp [bindT, itemsOf, putAll, pr], .inl ?_, some (eW x.1), some (.int x.2), rfl⟩
    have hsz := smallW_take p (i + 1)
    rw [smallW_succ hx] at hsz ⊢
    rw [List.length_append] at hsz
    have ha := add_eW (w := smallW (p.take i)) (v := (List.replicate (absI x.2).toNat (if 0 < x.2 then x.1 else bw x.1)).flatten) (by omega)
    have hm := mul_eW (w := if 0 < x.2 then x.1 else bw x.1) (absI_nn x.2) tx.1 (by split <;> simp [tx.2])
    by_cases hp : 0 < x.2
    · rw [if_pos hp] at ha hm ⊢
      simp [S__law_small_word_0, hp, hm, ha]
    · rw [if_neg hp] at ha hm ⊢
      have hb := s_back (n := n - 1) (by omega) okx (h x hxm).2
      simp [S__law_small_word_0, hp, hm, ha, hb]
  obtain ⟨s', e, b, c, rfl⟩ := hloop
  have hz : (0 : Nat) ≤ sizeLine := by decide
  rw [List.length_map, List.take_length] at e
  have ew : walkOf (eP p) = some (p.map pr) := rfl
  simp [I__law_small_word, B__law_small_word, startS, inB, endD, lentsOf, stm_for, hz, ew, e]
theorem s_as_word (hn : 5 ≤ n) {v : D} {p : List (List Dd × Int)} (hv : v = eP p ∨ v = lP p) (h : okP p) (ht : okT p) (hl : p.length ≤ sizeLine) (hs : sizeP p ≤ 64) : run tf wf n x_as_word [v] = some (eW (tW (smallW p)), []) := by
  rw [run_at' at_as_word (by omega) rfl]
  have e1 := s_plainP (n := n - 1) (by omega) hv h hl
  have e2 := s_size_of (n := n - 1) (by omega) hv h hl
  have e3 : ¬ (64 : Int) < sizeP p := by omega
  have hsm : (smallW p).length ≤ 64 := by
    have := smallW_len p
    omega
  have h64 : (64 : Nat) < sizeLine := by decide
  have hloop : ∃ s', forLoop (.tp [2, 3]) (stm wf (run tf wf (n - 1)) S_as_word_0) (p.map pr) [some (.val v), some (.val (.tuple [])), none, none] = some (.nx, s') ∧ ∃ b c : Option D, s' = [some (.val v), some (.val (eW (smallW (p.take (p.map pr).length)))), b.map .val, c.map .val] := by
    refine forLoop_inv (fun i s => ∃ b c : Option D, s = [some (.val v), some (.val (eW (smallW (p.take i)))), b.map .val, c.map .val]) (p.map pr) ?_ _ ⟨none, none, rfl⟩
    rintro i d s hd ⟨b, c, rfl⟩
    obtain ⟨x, hx, rfl⟩ := map_get hd
    have hxm : x ∈ p := List.mem_of_getElem? hx
    have okx := (h x hxm).1
    have tx := ht x hxm
    refine ⟨[some (.val v), some (.val (eW (smallW (p.take i)))), some (.val (eW x.1)), some (.val (.int x.2))], [some (.val v), some (.val (eW (smallW (p.take (i + 1))))), some (.val (eW x.1)), some (.val (.int x.2))], by cases b <;> cases c <;> simp [bindT, itemsOf, putAll, pr], .inl ?_, some (eW x.1), some (.int x.2), rfl⟩
    have hsz := smallW_take p (i + 1)
    rw [smallW_succ hx] at hsz ⊢
    rw [List.length_append] at hsz
    have ha := add_eW (w := smallW (p.take i)) (v := (List.replicate (absI x.2).toNat (if 0 < x.2 then x.1 else bw x.1)).flatten) (by omega)
    have hm := mul_eW (w := if 0 < x.2 then x.1 else bw x.1) (absI_nn x.2) tx.1 (by split <;> simp [tx.2])
    have hle : opLen (eW x.1) = some (.int x.1.length) := by simp [eW]
    by_cases h0 : x.1 = []
    · have e0 : (List.replicate (absI x.2).toNat (if 0 < x.2 then x.1 else bw x.1)).flatten = [] := by
        rw [h0]
        apply List.eq_nil_of_length_eq_zero
        rw [flat_rep_len]
        split <;> simp [bw]
      have hle0 : opLen (eW []) = some (.int 0) := rfl
      rw [e0, List.append_nil]
      simp [S_as_word_0, hle0, h0]
    · have hpos : (0 : Int) < (x.1.length : Int) := by
        have := List.length_pos_iff.mpr h0
        omega
      generalize (x.1.length : Int) = l at hle hpos
      by_cases hp : 0 < x.2
      · rw [if_pos hp] at ha hm ⊢
        simp [S_as_word_0, hle, hpos, hp, hm, ha]
      · rw [if_neg hp] at ha hm ⊢
        have hb := s_backward (n := n - 1) (by omega) okx (h x hxm).2
        simp [S_as_word_0, hle, hpos, hp, hm, ha, hb]
  obtain ⟨s', e, b, c, rfl⟩ := hloop
  have hz : (0 : Nat) ≤ sizeLine := by decide
  rw [List.length_map, List.take_length] at e
  have ew : walkOf (eP p) = some (p.map pr) := rfl
  have et := s_tidied (n := n - 1) (by omega) (smallW_ok h) (by omega)
  simp [I_as_word, B_as_word, startS, inB, endD, lentsOf, stm_for, hz, ew, e, e1, e2, e3, et]
theorem eP_append (p q : List (List Dd × Int)) : opAdd (eP p) (eP q) = if p.length + q.length ≤ sizeLine then some (eP (p ++ q)) else none := by
  simp only [eP_pr, opAdd, List.length_map, List.map_append]
theorem pback_ok {p : List (List Dd × Int)} (h : okP p) : okP (pback p) := by
  intro x hx
  obtain ⟨y, hy, rfl⟩ := List.mem_map.mp hx
  exact h y (List.mem_reverse.mp hy)
theorem pback_len (p : List (List Dd × Int)) : (pback p).length = p.length := by simp [pback]
theorem s_about (hn : 7 ≤ n) {v u : D} {p q : List (List Dd × Int)} (hv : v = eP p ∨ v = lP p) (hu : u = eP q ∨ u = lP q) (h : okP p) (h' : okP q) (hl : p.length ≤ 1000) (hl' : q.length ≤ 1000) : run tf wf n x_about [v, u] = some (eP (pback q ++ p ++ q), []) := by
  rw [run_at' at_about (by omega) rfl]
  have z3 : (3000 : Nat) ≤ sizeLine := by decide
  have z4 : (3 : Nat) ≤ sizeLine := by decide
  have e1 := s_program_back (n := n - 1) (by omega) hu h' (by omega)
  have fl : ∀ {v : D} {p : List (List Dd × Int)}, (v = eP p ∨ v = lP p) → okP p → p.length ≤ 1000 → flat 3 v := by
    intro v p hv h hl
    rcases hv with rfl | rfl
    · exact eP_flat h (by omega) 0
    · exact lP_flat h (by omega) 0
  have pl : ∀ {v : D} {p : List (List Dd × Int)}, (v = eP p ∨ v = lP p) → plainD 3 v = eP p := by
    intro v p hv
    rcases hv with rfl | rfl
    · exact plain_eP 0 p
    · exact plain_lP 0 p
  have e2 := s_together (n := n - 1) (by omega) (v := .tuple [eP (pback q), v, u]) (ps := [pback q, p, q]) (by
    show PyData.tuple ([eP (pback q), v, u].map (plainD 3)) = _
    simp only [List.map_cons, List.map_nil, pl hv, pl hu, plain_eP 0]) ⟨z4, by
      intro x hx
      simp only [List.mem_cons, List.not_mem_nil, or_false] at hx
      rcases hx with rfl | rfl | rfl
      · exact eP_flat (pback_ok h') (by rw [pback_len]; omega) 0
      · exact fl hv h hl
      · exact fl hu h' hl'⟩ (by simp [pback_len]; omega)
  have e3 : [pback q, p, q].flatten = pback q ++ p ++ q := by simp
  rw [e3] at e2
  simp [I_about, B_about, startS, inB, endD, lentsOf, e1, e2, z4]
end
end L25

namespace L25
open PySem FC
section
variable {n : Nat}
/-- the places at which neighbours undo one another -/
def isSpot (f : List Dd) (k : Nat) : Bool := match f[k]?, f[k + 1]? with
  | some a, some b => decide (dInv a = b)
  | _, _ => false
def spq (f : List Dd) : D → Bool
  | .int i => isSpot f i.toNat
  | _ => false
def spots (f : List Dd) : List Int := ((List.range (f.length - 1)).filter (isSpot f)).map fun (k : Nat) => (k : Int)
theorem eqv_one {a b : Dd} (ha : okN a.1) (hb : okN b.1) : PyData.eqv (.tuple [dD a]) (.tuple [dD b]) = decide (a = b) := by
  simp [PyData.eqv, PyData.eqvAll, dD_eqv ha hb]
theorem sh_one {a : Dd} (ha : okN a.1) : sh (.tuple [dD a]) = true := flat_sh (eW_flat (w := [a]) (fun p hp => by rw [List.mem_singleton.mp hp]; exact ha) (by show 1 ≤ sizeLine; decide) 0) (by decide)
theorem spot_val (hn : 2 ≤ n) {f : List Dd} (h : okW f) (k : Nat) (hk : k + 1 < f.length) : run tf wf (n - 1) x__law_back [.tuple [dD f[k]]] = some (.tuple [dD (dInv f[k])], []) ∧ isSpot f k = decide (dInv f[k] = f[k + 1]) := by
  refine ⟨?_, ?_⟩
  · exact s_back (n := n - 1) (by omega) (w := [f[k]]) (fun p hp => by rw [List.mem_singleton.mp hp]; exact h _ (List.getElem_mem _)) (by show 1 ≤ sizeLine; decide)
  · unfold isSpot
    rw [List.getElem?_eq_getElem (by omega), List.getElem?_eq_getElem hk]
theorem rg_eq (f : List Dd) : rgD ((f.length : Int) - 1) = (List.range (f.length - 1)).map fun (k : Nat) => PyData.int (k : Int) := by
  unfold rgD
  have : ((f.length : Int) - 1).toNat = f.length - 1 := by omega
  rw [this]
  simp
theorem filt_spots (f : List Dd) : (((List.range (f.length - 1)).map fun (k : Nat) => PyData.int (k : Int)).filter (spq f)).map id = (spots f).map PyData.int := by
  rw [List.filter_map, List.map_map, spots, List.map_map]
  simp only [Function.comp_def, id, spq, Int.toNat_natCast]
theorem s_spots0 (hn : 2 ≤ n) {f : List Dd} (h : okW f) (hl : f.length ≤ 1000) {a b : Option B} : (sem (run tf wf (n - 1)) E__law_out_0).v [a, b, some (.val (.list (f.map dD))), none, none, none] = some (.list ((spots f).map .int), [a, b, some (.val (.list (f.map dD))), none, none, none]) := by
  unfold E__law_out_0
  have sm : smallI ((f.length : Int) - 1) = true := by unfold smallI; simp only [Bool.and_eq_true, decide_eq_true_eq]; omega
  have z : (1000 : Nat) ≤ sizeLine := by decide
  have e1 : (1 : Nat) ≤ sizeLine := by decide
  refine (comp_filt (ds := (List.range (f.length - 1)).map fun (k : Nat) => PyData.int (k : Int)) (s0 := [a, b, some (.val (.list (f.map dD))), none, none, none]) (spq f) id (by simp [sm, rg_eq]) (by simp) (by simp; omega) ?_).trans (by rw [filt_spots])
  intro d hd
  obtain ⟨k, hk, rfl⟩ := List.mem_map.mp hd
  have hk2 : k + 1 < f.length := by have := List.mem_range.mp hk; omega
  obtain ⟨h1, h2⟩ := spot_val hn h k hk2
  have ok1 : okN (dInv f[k]).1 := h f[k] (List.getElem_mem _)
  have ok2 : okN f[k + 1].1 := h _ (List.getElem_mem _)
  have h3 := eqv_one ok1 ok2
  have ix : L2.atI (f.map dD) (k : Int) = some (dD f[k]) := by rw [atI_nat, List.getElem?_map, List.getElem?_eq_getElem (by omega)]; rfl
  have ix2 : L2.atI (f.map dD) ((k : Int) + 1) = some (dD f[k + 1]) := by
    rw [show ((k : Int) + 1) = ((k + 1 : Nat) : Int) by omega, atI_nat, List.getElem?_map, List.getElem?_eq_getElem hk2]; rfl
  refine ⟨[a, b, some (.val (.list (f.map dD))), none, some (.val (.int k)), none], [a, b, some (.val (.list (f.map dD))), none, some (.val (.int k)), none], by simp, ?_, fun _ => ⟨[a, b, some (.val (.list (f.map dD))), none, some (.val (.int k)), none], by simp, by simp⟩, fun _ => by simp⟩
  simp only [spq, Int.toNat_natCast, h2]
  simp [ix, ix2, e1, h1, sh_one ok1, sh_one ok2, h3]
  split <;> rename_i hq <;> simp [hq]
theorem s_spots1 (hn : 2 ≤ n) {f : List Dd} (h : okW f) (hl : f.length ≤ 1000) {a b c e : Option B} : (sem (run tf wf (n - 1)) E__law_out_1).v [a, b, some (.val (.list (f.map dD))), c, e, none] = some (.list ((spots f).map .int), [a, b, some (.val (.list (f.map dD))), c, e, none]) := by
  unfold E__law_out_1
  have sm : smallI ((f.length : Int) - 1) = true := by unfold smallI; simp only [Bool.and_eq_true, decide_eq_true_eq]; omega
  have z : (1000 : Nat) ≤ sizeLine := by decide
  have e1 : (1 : Nat) ≤ sizeLine := by decide
  refine (comp_filt (ds := (List.range (f.length - 1)).map fun (k : Nat) => PyData.int (k : Int)) (s0 := [a, b, some (.val (.list (f.map dD))), c, e, none]) (spq f) id (by simp [sm, rg_eq]) (by simp) (by simp; omega) ?_).trans (by rw [filt_spots])
  intro d hd
  obtain ⟨k, hk, rfl⟩ := List.mem_map.mp hd
  have hk2 : k + 1 < f.length := by have := List.mem_range.mp hk; omega
  obtain ⟨h1, h2⟩ := spot_val hn h k hk2
  have ok1 : okN (dInv f[k]).1 := h f[k] (List.getElem_mem _)
  have ok2 : okN f[k + 1].1 := h _ (List.getElem_mem _)
  have h3 := eqv_one ok1 ok2
  have ix : L2.atI (f.map dD) (k : Int) = some (dD f[k]) := by rw [atI_nat, List.getElem?_map, List.getElem?_eq_getElem (by omega)]; rfl
  have ix2 : L2.atI (f.map dD) ((k : Int) + 1) = some (dD f[k + 1]) := by
    rw [show ((k : Int) + 1) = ((k + 1 : Nat) : Int) by omega, atI_nat, List.getElem?_map, List.getElem?_eq_getElem hk2]; rfl
  refine ⟨[a, b, some (.val (.list (f.map dD))), c, e, some (.val (.int k))], [a, b, some (.val (.list (f.map dD))), c, e, some (.val (.int k))], by simp, ?_, fun _ => ⟨[a, b, some (.val (.list (f.map dD))), c, e, some (.val (.int k))], by simp, by simp⟩, fun _ => by simp⟩
  simp only [spq, Int.toNat_natCast, h2]
  simp [ix, ix2, e1, h1, sh_one ok1, sh_one ok2, h3]
  split <;> rename_i hq <;> simp [hq]
theorem cut_out {f : List Dd} {k : Nat} (hk : k + 1 < f.length) (h : dInv f[k] = f[k + 1]) : tW (f.take k ++ f.drop (k + 2)) = tW f := by
  have e : f = f.take k ++ f[k] :: dInv f[k] :: f.drop (k + 2) := by
    rw [h, ← List.drop_eq_getElem_cons hk, ← List.drop_eq_getElem_cons (by omega), List.take_append_drop]
  conv => rhs; rw [e]
  exact (tidy_out dInv dInv2 _ _ _).symm
theorem s_out (hn : 3 ≤ n) {u : D} {N : Nat} {w : List Dd} (hu : Urn N u) (hN : N + 1000 < 2 ^ 62) (h : okW w) (hl : w.length ≤ 1000) :
    ∃ u', run tf wf n x__law_out [u, eW w] = some (eW (tW w), [u']) ∧ Urn (N + w.length) u' := by
  have z : (1000 : Nat) ≤ sizeLine := by decide
  have z0 : (0 : Nat) ≤ sizeLine := by decide
  obtain ⟨s', e, u', c, rfl, hu'⟩ : ∃ s', stm wf (run tf wf (n - 1)) (.while_ (.op .ne (.cons (.var 3) (.cons (.lst .nil) .nil))) S__law_out_2) [some (.lent u), some (.val (eW w)), some (.val (.list (w.map dD))), some (.val (.list ((spots w).map .int))), none, none] = some (.nx, s') ∧
      ∃ u' c, s' = [some (.lent u'), some (.val (eW w)), some (.val (.list ((tW w).map dD))), some (.val (.list [])), c, none] ∧ Urn (N + w.length) u' := by
    refine while_down (fun m s => ∃ (f : List Dd) (u' : D) (c : Option D), s = [some (.lent u'), some (.val (eW w)), some (.val (.list (f.map dD))), some (.val (.list ((spots f).map .int))), c.map .val, none] ∧ f.length = m ∧ m ≤ w.length ∧ tW f = tW w ∧ okW f ∧ Urn (N + (w.length - m)) u') _ ?_ wf w.length _ (by show w.length < 100000; omega) ⟨w, u, none, rfl, rfl, Nat.le_refl _, rfl, h, hu.mono (by omega)⟩
    rintro m s ⟨f, u1, c, rfl, hm, hmw, ht, hf, hu1⟩
    have s1 := ints_sh (spots f)
    by_cases hs : spots f = []
    · refine ⟨false, [some (.lent u1), some (.val (eW w)), some (.val (.list (f.map dD))), some (.val (.list [])), c.map .val, none], ?_, u1, c.map .val, ?_, hu1.mono (by omega)⟩
      · simp [hs, z0, eqv_nil]
      · have hfree : Fr dInv f := by
          refine fr_of_spots dInv f fun k hk hc => ?_
          have h1 : isSpot f k = true := by rw [(spot_val (n := n) (by omega) hf k hk).2, hc, decide_eq_true rfl]
          have h2 : (k : Int) ∈ spots f := List.mem_map.mpr ⟨k, List.mem_filter.mpr ⟨List.mem_range.mpr (by omega), h1⟩, rfl⟩
          rw [hs] at h2
          cases h2
        have h3 : tW f = f := tidy_free dInv dInv2 f hfree
        rw [← ht, h3]
    · have hlen : (spots f).length ≤ f.length := by
        unfold spots
        rw [List.length_map]
        exact Nat.le_trans (List.length_filter_le _ _) (by rw [List.length_range]; omega)
      obtain ⟨k, x, u2, hk, e1, hu2⟩ := s_of (n := n - 1) (by omega) (xs := (spots f).map .int) hu1 (by omega) (by simpa using hs) (by rw [List.length_map]; omega)
      obtain ⟨i, hi, rfl⟩ := map_get hk
      obtain ⟨j, hj, rfl⟩ := List.mem_map.mp (List.mem_of_getElem? hi)
      obtain ⟨hj1, hj2⟩ := List.mem_filter.mp hj
      have hj3 : j + 1 < f.length := by have := List.mem_range.mp hj1; omega
      rw [(spot_val (n := n) (by omega) hf j hj3).2] at hj2
      have hj4 := of_decide_eq_true hj2
      have hok : okW (f.take j ++ f.drop (j + 2)) := by
        intro p hp
        rcases List.mem_append.mp hp with hp | hp
        · exact hf p (List.mem_of_mem_take hp)
        · exact hf p (List.mem_of_mem_drop hp)
      have hl2 : (f.take j ++ f.drop (j + 2)).length = f.length - 2 := by
        rw [List.length_append, List.length_take, List.length_drop]
        omega
      have c1 : cutD (f.map dD) none (some (j : Int)) = (f.take j).map dD := by rw [cut_take, List.map_take]
      have c2 : cutD (f.map dD) (some ((j : Int) + 2)) none = (f.drop (j + 2)).map dD := by
        rw [show ((j : Int) + 2) = ((j + 2 : Nat) : Int) by omega, cut_drop, List.map_drop]
      have ad : opAdd (.list ((f.take j).map dD)) (.list ((f.drop (j + 2)).map dD)) = some (.list ((f.take j ++ f.drop (j + 2)).map dD)) := by
        simp only [opAdd]
        rw [if_pos (by simp only [List.length_map, List.length_take, List.length_drop]; omega), List.map_append]
      have sp := s_spots1 (n := n) (by omega) hok (by omega) (a := some (.lent u2)) (b := some (.val (eW w))) (c := some (.val (.list ((spots f).map .int)))) (e := some (.val (.int j)))
      have hne : ((spots f).map PyData.int).isEmpty = false := by
        cases q : spots f with
        | nil => exact absurd q hs
        | cons _ _ => rfl
      refine ⟨true, [some (.lent u1), some (.val (eW w)), some (.val (.list (f.map dD))), some (.val (.list ((spots f).map .int))), c.map .val, none], ?_, [some (.lent u2), some (.val (eW w)), some (.val (.list ((f.take j ++ f.drop (j + 2)).map dD))), some (.val (.list ((spots (f.take j ++ f.drop (j + 2))).map .int))), some (.val (.int j)), none], f.length - 2, .inl ?_, ⟨f.take j ++ f.drop (j + 2), u2, some (.int j), rfl, hl2, by omega, by rw [cut_out hj3 hj4, ht], hok, hu2.mono (by omega)⟩, by omega⟩
      · simp [z0, eqv_nil, s1, hne, hs]
      · generalize (f.take j).map dD = A at c1 ad
        generalize (f.drop (j + 2)).map dD = A' at c2 ad
        generalize f.take j ++ f.drop (j + 2) = f' at ad sp ⊢
        cases c <;> simp [S__law_out_2, e1, c1, c2, ad, sp]
  have sp := s_spots0 (n := n) (by omega) h hl (a := some (.lent u)) (b := some (.val (eW w)))
  refine ⟨u', ?_, hu'⟩
  rw [run_at' at__law_out (by omega) rfl]
  have el : opList (eW w) = some (.list (w.map dD)) := rfl
  simp [I__law_out, B__law_out, startS, inB, endD, lentsOf, el, sp, e]
  rfl
end
end L25

namespace L25
open PySem FC
section
variable {n : Nat}
def six : List Dd := [("a", false), ("a", true), ("b", false), ("b", true), ("b.1", false), ("b.1", true)]
theorem six_eq : [PyData.str "a", .str "a-", .str "b", .str "b-", .str "b.1", .str "b.1-"] = six.map dD := by
  have e1 : dS ("a", true) = "a-" := by decide +kernel
  have e2 : dS ("b", true) = "b-" := by decide +kernel
  have e3 : dS ("b.1", true) = "b.1-" := by decide +kernel
  simp only [six, List.map_cons, List.map_nil, dD, e1, e2, e3]
  rfl
theorem six_ok : okW six := by
  have k : ∀ z : Str, z = "a" ∨ z = "b" ∨ z = "b.1" → okN z := by
    rintro z (rfl | rfl | rfl)
    · exact ⟨⟨[], 97, by decide +kernel, by decide⟩, by decide +kernel, by decide +kernel⟩
    · exact ⟨⟨[], 98, by decide +kernel, by decide⟩, by decide +kernel, by decide +kernel⟩
    · exact ⟨⟨[98, 46], 49, by decide +kernel, by decide⟩, by decide +kernel, by decide +kernel⟩
  intro p hp
  simp only [six, List.mem_cons, List.not_mem_nil, or_false] at hp
  rcases hp with rfl | rfl | rfl | rfl | rfl | rfl <;> exact k _ (by simp)
theorem s_any_word (hn : 3 ≤ n) {u : D} {N m : Nat} (hu : Urn N u) (hN : N + 1000 < 2 ^ 62) (hm : m ≤ 100) :
    ∃ w u', run tf wf n x__law_any_word [u, .int m] = some (eW w, [u']) ∧ okW w ∧ w.length ≤ m ∧ Urn (N + m + 1) u' := by
  obtain ⟨r, u1, e1, hu1, h0, h1⟩ := s_take (n := n - 1) (by omega) (m := (m : Int) + 1) hu (by omega) (by omega) (by omega)
  have sm : smallI r = true := by unfold smallI; simp only [Bool.and_eq_true, decide_eq_true_eq]; omega
  have z : (1000 : Nat) ≤ sizeLine := by decide
  have z6 : (6 : Nat) ≤ sizeLine := by decide
  have hc : ∃ w u2, (sem (run tf wf (n - 1)) E__law_any_word_0).v [some (.lent u), some (.val (.int m)), none] = some (.list (w.map dD), [some (.lent u2), some (.val (.int m)), none]) ∧ okW w ∧ w.length ≤ m ∧ Urn (N + m + 1) u2 := by
    obtain ⟨ys, s', e2, w, u2, x, rfl, rfl, hl, hw, hu2⟩ := comp_ix' (E := E__law_any_word_0) rfl (C := run tf wf (n - 1)) (s0 := [some (.lent u1), some (.val (.int m)), none]) (s := [some (.lent u), some (.val (.int m)), none]) (ds := rgD r) (fun i acc s => ∃ w u2 x, s = [some (.lent u2), some (.val (.int m)), pv x] ∧ acc = w.map dD ∧ w.length = i ∧ okW w ∧ Urn (N + 1 + i) u2)
      (by simp [e1, sm]) (by simp) (by rw [rgD_len]; omega) ⟨[], u1, none, rfl, rfl, rfl, (fun _ h => nomatch h), hu1⟩ (by
        rintro j d hd acc s ⟨w, u2, x, rfl, rfl, hl, hw, hu2⟩
        have hj : j < (rgD r).length := (List.getElem?_eq_some_iff.mp hd).1
        rw [rgD_len] at hj
        obtain ⟨k, y, u3, hk, e3, hu3⟩ := s_of (n := n - 1) (by omega) (xs := six.map dD) hu2 (by omega) (by simp [six]) (by simp [six])
        obtain ⟨p, hp, rfl⟩ := map_get hk
        rw [← six_eq] at e3
        refine ⟨[some (.lent u2), some (.val (.int m)), some (.val d)], true, [some (.lent u2), some (.val (.int m)), some (.val d)], by simp, by simp, dD p, [some (.lent u3), some (.val (.int m)), some (.val d)], ?_, w ++ [p], u3, some d, rfl, by simp, by simp [hl], ?_, hu3⟩
        · simp [z6, e3]
        · intro q hq
          rcases List.mem_append.mp hq with hq | hq
          · exact hw q hq
          · rw [List.mem_singleton.mp hq]; exact six_ok p (List.mem_of_getElem? hp))
    rw [rgD_len] at hl hu2
    exact ⟨w, u2, by rw [e2]; simp, hw, by omega, hu2.mono (by omega)⟩
  obtain ⟨w, u2, e2, hw, hl, hu2⟩ := hc
  refine ⟨w, u2, ?_, hw, hl, hu2⟩
  rw [run_at' at__law_any_word (by omega) rfl]
  simp [I__law_any_word, B__law_any_word, startS, inB, endD, lentsOf, e2]
  rfl
end
end L25

namespace L25
open PySem FC
section
variable {n : Nat}
theorem s_play (hn : 4 ≤ n) {u : D} {N : Nat} (hu : Urn N u) (hN : N + 2000 < 2 ^ 62) {a1 a2 a3 a4 a5 a6 a7 a8 a9 a10 : Option B} :
    ∃ (p : List (List Dd × Int)) (u' : D), (sem (run tf wf (n - 1)) E__law_right_0).v [some (.lent u), a1, a2, a3, a4, a5, a6, a7, a8, a9, a10, none, none, none] = some (.list (p.map pr), [some (.lent u'), a1, a2, a3, a4, a5, a6, a7, a8, a9, a10, none, none, none])
      ∧ p.length ≤ 4 ∧ (∀ x ∈ p, okW x.1 ∧ x.1.length ≤ 3 ∧ absI x.2 ≤ 3) ∧ Urn (N + 30) u' := by
  obtain ⟨r, u1, e1, hu1, h0, h1⟩ := s_take (n := n - 1) (by omega) (m := 5) hu (by omega) (by omega) (by omega)
  have sm : smallI r = true := by unfold smallI; simp only [Bool.and_eq_true, decide_eq_true_eq]; omega
  have z : (1000 : Nat) ≤ sizeLine := by decide
  have z5 : (5 : Nat) ≤ sizeLine := by decide
  have z2 : (2 : Nat) ≤ sizeLine := by decide
  obtain ⟨ys, s', e2, p, u2, x, rfl, rfl, hl, hw, hu2⟩ := comp_ix' (E := E__law_right_0) rfl (C := run tf wf (n - 1)) (s0 := [some (.lent u1), a1, a2, a3, a4, a5, a6, a7, a8, a9, a10, none, none, none]) (s := [some (.lent u), a1, a2, a3, a4, a5, a6, a7, a8, a9, a10, none, none, none]) (ds := rgD r)
    (fun i acc s => ∃ p u2 x, s = [some (.lent u2), a1, a2, a3, a4, a5, a6, a7, a8, a9, a10, pv x, none, none] ∧ acc = p.map pr ∧ p.length = i ∧ (∀ x ∈ p, okW x.1 ∧ x.1.length ≤ 3 ∧ absI x.2 ≤ 3) ∧ Urn (N + 1 + 5 * i) u2)
    (by simp [e1, sm]) (by simp) (by rw [rgD_len]; omega) ⟨[], u1, none, rfl, rfl, rfl, (fun _ h => nomatch h), hu1⟩ (by
      rintro j d hd acc s ⟨p, u2, x, rfl, rfl, hl, hw, hu2⟩
      have hj : j < (rgD r).length := (List.getElem?_eq_some_iff.mp hd).1
      rw [rgD_len] at hj
      obtain ⟨w, u3, e3, hw3, hl3, hu3⟩ := s_any_word (n := n - 1) (by omega) (m := 3) hu2 (by omega) (by omega)
      obtain ⟨k, y, u4, hk, e4, hu4⟩ := s_of (n := n - 1) (by omega) (xs := [(0 : Int), 1, 2, -1, -3].map .int) hu3 (by omega) (by simp) (by simp)
      obtain ⟨t, ht, rfl⟩ := map_get hk
      have htm := List.mem_of_getElem? ht
      have hta : absI t ≤ 3 := by
        simp only [List.mem_cons, List.not_mem_nil, or_false] at htm
        rcases htm with rfl | rfl | rfl | rfl | rfl <;> decide
      simp only [List.map_cons, List.map_nil] at e4
      refine ⟨[some (.lent u2), a1, a2, a3, a4, a5, a6, a7, a8, a9, a10, some (.val d), none, none], true, [some (.lent u2), a1, a2, a3, a4, a5, a6, a7, a8, a9, a10, some (.val d), none, none], by simp, by simp, pr (w, t), [some (.lent u4), a1, a2, a3, a4, a5, a6, a7, a8, a9, a10, some (.val d), none, none], ?_, p ++ [(w, t)], u4, some d, rfl, by simp, by simp [hl], ?_, hu4.mono (by omega)⟩
      · have e3' : run tf wf (n - 1) x__law_any_word [u2, .int 3] = some (eW w, [u3]) := e3
        simp [z5, z2, e3', e4, pr]
      · intro q hq
        rcases List.mem_append.mp hq with hq | hq
        · exact hw q hq
        · rw [List.mem_singleton.mp hq]; exact ⟨hw3, hl3, hta⟩)
  rw [rgD_len] at hl hu2
  exact ⟨p, u2, by rw [e2]; simp, by omega, hw, hu2.mono (by omega)⟩
theorem s_far (hn : 4 ≤ n) {u : D} {N : Nat} (hu : Urn N u) (hN : N + 2000 < 2 ^ 62) {a1 a2 a3 a4 a5 a6 a7 a8 a9 a10 : Option B} :
    ∃ (p : List (List Dd × Int)) (u' : D), (sem (run tf wf (n - 1)) E__law_right_1).v [some (.lent u), a1, a2, a3, a4, a5, a6, a7, a8, a9, a10, none, none, none] = some (.list (p.map pr), [some (.lent u'), a1, a2, a3, a4, a5, a6, a7, a8, a9, a10, none, none, none])
      ∧ p.length ≤ 4 ∧ (∀ x ∈ p, okW x.1 ∧ x.1.length ≤ 4) ∧ Urn (N + 30) u' := by
  obtain ⟨r, u1, e1, hu1, h0, h1⟩ := s_take (n := n - 1) (by omega) (m := 4) hu (by omega) (by omega) (by omega)
  have sm : smallI r = true := by unfold smallI; simp only [Bool.and_eq_true, decide_eq_true_eq]; omega
  have z : (1000 : Nat) ≤ sizeLine := by decide
  have z2 : (2 : Nat) ≤ sizeLine := by decide
  have p30 : opPow (.int 10) (.int 30) = some (.int (10 ^ 30)) := rfl
  have p29 : opPow (.int 10) (.int 29) = some (.int (10 ^ 29)) := rfl
  obtain ⟨ys, s', e2, p, u2, x, rfl, rfl, hl, hw, hu2⟩ := comp_ix' (E := E__law_right_1) rfl (C := run tf wf (n - 1)) (s0 := [some (.lent u1), a1, a2, a3, a4, a5, a6, a7, a8, a9, a10, none, none, none]) (s := [some (.lent u), a1, a2, a3, a4, a5, a6, a7, a8, a9, a10, none, none, none]) (ds := rgD r)
    (fun i acc s => ∃ p u2 x, s = [some (.lent u2), a1, a2, a3, a4, a5, a6, a7, a8, a9, a10, pv x, none, none] ∧ acc = p.map pr ∧ p.length = i ∧ (∀ x ∈ p, okW x.1 ∧ x.1.length ≤ 4) ∧ Urn (N + 1 + 6 * i) u2)
    (by simp [e1, sm]) (by simp) (by rw [rgD_len]; omega) ⟨[], u1, none, rfl, rfl, rfl, (fun _ h => nomatch h), hu1⟩ (by
      rintro j d hd acc s ⟨p, u2, x, rfl, rfl, hl, hw, hu2⟩
      have hj : j < (rgD r).length := (List.getElem?_eq_some_iff.mp hd).1
      rw [rgD_len] at hj
      obtain ⟨w, u3, e3, hw3, hl3, hu3⟩ := s_any_word (n := n - 1) (by omega) (m := 4) hu2 (by omega) (by omega)
      obtain ⟨t, u4, e4, hu4, _, _⟩ := s_take (n := n - 1) (by omega) (m := 10 ^ 30) hu3 (by omega) (by decide) (by decide)
      refine ⟨[some (.lent u2), a1, a2, a3, a4, a5, a6, a7, a8, a9, a10, some (.val d), none, none], true, [some (.lent u2), a1, a2, a3, a4, a5, a6, a7, a8, a9, a10, some (.val d), none, none], by simp, by simp, pr (w, t - 10 ^ 29), [some (.lent u4), a1, a2, a3, a4, a5, a6, a7, a8, a9, a10, some (.val d), none, none], ?_, p ++ [(w, t - 10 ^ 29)], u4, some d, rfl, by simp, by simp [hl], ?_, hu4.mono (by omega)⟩
      · have e3' : run tf wf (n - 1) x__law_any_word [u2, .int 4] = some (eW w, [u3]) := e3
        simp at e4
        simp [z2, e3', e4, pr, p30, p29]
      · intro q hq
        rcases List.mem_append.mp hq with hq | hq
        · exact hw q hq
        · rw [List.mem_singleton.mp hq]; exact ⟨hw3, hl3⟩)
  rw [rgD_len] at hl hu2
  exact ⟨p, u2, by rw [e2]; simp, by omega, hw, hu2.mono (by omega)⟩
theorem s_backso {p : List (List Dd × Int)} (hl : p.length ≤ sizeLine) {C : Calls} {a0 a1 a2 a3 a5 a6 a7 a8 a9 a10 : Option B} :
    (sem C E__law_right_2).v [a0, a1, a2, a3, some (.val (eP p)), a5, a6, a7, a8, a9, a10, none, none, none] = some (.list ((pback p).map pr), [a0, a1, a2, a3, some (.val (eP p)), a5, a6, a7, a8, a9, a10, none, none, none]) := by
  have z2 : (2 : Nat) ≤ sizeLine := by decide
  refine (comp_mapA (E := E__law_right_2) rfl (s0 := [a0, a1, a2, a3, some (.val (eP p)), a5, a6, a7, a8, a9, a10, none, none, none]) (xs := p.reverse) pr (fun x => pr (x.1, -x.2)) (by simp [eP_pr]) (by simp) (by simpa using hl) ?_).trans (by simp [pback, Function.comp_def])
  intro x hx
  refine ⟨[a0, a1, a2, a3, some (.val (eP p)), a5, a6, a7, a8, a9, a10, none, some (.val (eW x.1)), some (.val (.int x.2))], [a0, a1, a2, a3, some (.val (eP p)), a5, a6, a7, a8, a9, a10, none, some (.val (eW x.1)), some (.val (.int x.2))], [a0, a1, a2, a3, some (.val (eP p)), a5, a6, a7, a8, a9, a10, none, some (.val (eW x.1)), some (.val (.int x.2))], by simp [bindT, itemsOf, putAll, pr], by simp, ?_, by simp⟩
  simp [z2, pr]
theorem mul_step13 (y : D) (a l : Int) (C : Calls) {a0 a1 a2 a3 a4 a5 a6 a7 a8 a9 a10 a11 : Option B} (h2 : opLen y = some (.int l)) (mo : mulOk l (absI a) = true) : (sem C (.op .mul (.cons (.op .len (.cons (.var 12) .nil)) (.cons (.op .abs (.cons (.var 13) .nil)) .nil)))).v [a0, a1, a2, a3, a4, a5, a6, a7, a8, a9, a10, a11, some (.val y), some (.val (.int a))] = some (.int (l * absI a), [a0, a1, a2, a3, a4, a5, a6, a7, a8, a9, a10, a11, some (.val y), some (.val (.int a))]) := by
  simp [h2, mo]
theorem s_sizes {p : List (List Dd × Int)} (h : okP p) (hl : p.length ≤ sizeLine) {C : Calls} {a0 a1 a2 a3 a5 a6 a7 a8 a9 a10 : Option B} :
    (sem C E__law_right_3).v [a0, a1, a2, a3, some (.val (eP p)), a5, a6, a7, a8, a9, a10, none, none, none] = some (.list ((p.map fun x => (x.1.length : Int) * absI x.2).map .int), [a0, a1, a2, a3, some (.val (eP p)), a5, a6, a7, a8, a9, a10, none, none, none]) := by
  rw [List.map_map]
  refine comp_mapA (E := E__law_right_3) rfl (s0 := [a0, a1, a2, a3, some (.val (eP p)), a5, a6, a7, a8, a9, a10, none, none, none]) (xs := p) pr _ (by simp [eP_pr]) (by simp) hl ?_
  intro x hx
  refine ⟨[a0, a1, a2, a3, some (.val (eP p)), a5, a6, a7, a8, a9, a10, none, some (.val (eW x.1)), some (.val (.int x.2))], [a0, a1, a2, a3, some (.val (eP p)), a5, a6, a7, a8, a9, a10, none, some (.val (eW x.1)), some (.val (.int x.2))], [a0, a1, a2, a3, some (.val (eP p)), a5, a6, a7, a8, a9, a10, none, some (.val (eW x.1)), some (.val (.int x.2))], by simp [bindT, itemsOf, putAll, pr], by simp, ?_, by simp⟩
  exact mul_step13 (eW x.1) x.2 _ _ (by simp [eW]) (mul_ok' (len64 (h x hx).2))
end
end L25

namespace L25
open PySem FC
section
variable {n : Nat}
theorem flat_list4 {k : Nat} {a b c d : D} (ha : flat k a) (hb : flat k b) (hc : flat k c) (hd : flat k d) : flat (k + 1) (.list [a, b, c, d]) := by
  refine ⟨by show 4 ≤ sizeLine; decide, fun x hx => ?_⟩
  simp only [List.mem_cons, List.not_mem_nil, or_false] at hx
  rcases hx with rfl | rfl | rfl | rfl <;> assumption
theorem flat_list2 {k : Nat} {a b : D} (ha : flat k a) (hb : flat k b) : flat (k + 1) (.list [a, b]) := by
  refine ⟨by show 2 ≤ sizeLine; decide, fun x hx => ?_⟩
  simp only [List.mem_cons, List.not_mem_nil, or_false] at hx
  rcases hx with rfl | rfl <;> assumption
theorem flat_tup2 {k : Nat} {a b : D} (ha : flat k a) (hb : flat k b) : flat (k + 1) (.tuple [a, b]) := by
  refine ⟨by show 2 ≤ sizeLine; decide, fun x hx => ?_⟩
  simp only [List.mem_cons, List.not_mem_nil, or_false] at hx
  rcases hx with rfl | rfl <;> assumption
theorem sizeP_le {p : List (List Dd × Int)} {a b : Nat} (h : ∀ x ∈ p, x.1.length ≤ a ∧ absI x.2 ≤ b) : sizeP p ≤ (p.length * (a * b) : Nat) := by
  induction p with
  | nil => simp [sizeP]
  | cons x p ih =>
    have h1 := h x List.mem_cons_self
    have h2 := ih fun y hy => h y (List.mem_cons_of_mem _ hy)
    have h3 : (x.1.length : Int) * absI x.2 ≤ (a * b : Nat) := by
      have e : absI x.2 = ((absI x.2).toNat : Nat) := (Int.toNat_of_nonneg (absI_nn _)).symm
      rw [e]
      have : (absI x.2).toNat ≤ b := by omega
      exact_mod_cast Nat.mul_le_mul h1.1 this
    show (x.1.length : Int) * absI x.2 + sizeP p ≤ _
    rw [List.length_cons, Nat.add_mul, Nat.one_mul]
    omega
theorem s_right (hn : 12 ≤ n) {u : D} {N : Nat} (hu : Urn N u) (hN : N + 20000 < 2 ^ 62) : ∃ u', run tf wf n x__law_right [u] = some (.bool true, [u']) := by
  have z : (10000 : Nat) ≤ sizeLine := by decide
  have z2 : (2 : Nat) ≤ sizeLine := by decide
  have z4 : (4 : Nat) ≤ sizeLine := by decide
  have z1 : (1 : Nat) ≤ sizeLine := by decide
  have key : ∃ s', forLoop (.nm 1) (stm wf (run tf wf (n - 1)) S__law_right_4) (rgD 6) [some (.lent u), none, none, none, none, none, none, none, none, none, none, none, none, none] = some (.nx, s') ∧ ∃ u' b1 b2 b3 b4 b5 b6 b7 b8 b9 b10, s' = [some (.lent u'), pv b1, pv b2, pv b3, pv b4, pv b5, pv b6, pv b7, pv b8, pv b9, pv b10, none, none, none] ∧ Urn (N + 200 * (rgD 6).length) u' := by
    refine forLoop_inv (fun i s => ∃ u' b1 b2 b3 b4 b5 b6 b7 b8 b9 b10, s = [some (.lent u'), pv b1, pv b2, pv b3, pv b4, pv b5, pv b6, pv b7, pv b8, pv b9, pv b10, none, none, none] ∧ Urn (N + 200 * i) u') (rgD 6) ?_ _ ⟨u, none, none, none, none, none, none, none, none, none, none, rfl, hu⟩
    rintro i d s hd ⟨u0, b1, b2, b3, b4, b5, b6, b7, b8, b9, b10, rfl, hu0⟩
    have hi : i < 6 := by have := (List.getElem?_eq_some_iff.mp hd).1; rw [rgD_len] at this; exact this
    obtain ⟨w, u1, e1, hw, hwl, hu1⟩ := s_any_word (n := n - 1) (by omega) (m := 8) hu0 (by omega) (by omega)
    have e1 : run tf wf (n - 1) x__law_any_word [u0, .int 8] = some (eW w, [u1]) := e1
    have e2 : run tf wf (n - 1) x__law_lists [eW w] = some (lW w, []) := by rw [s_lists 1 _ (n - 1) (by omega) (eW_flat hw (by omega) 0), lists_eW]
    obtain ⟨u2, e3, hu2⟩ := s_out (n := n - 1) (by omega) hu1 (by omega) hw (by omega)
    have e4 := s_tidy (n := n - 1) (by omega) (.inl rfl) hw (by omega)
    have e5 := s_tidy (n := n - 1) (by omega) (.inr rfl) hw (by omega)
    have e6 := s_word_back (n := n - 1) (by omega) (.inl rfl) hw (by omega)
    have e7 := s_word_back (n := n - 1) (by omega) (.inr rfl) hw (by omega)
    have e8 := s_back (n := n - 1) (by omega) hw (by omega)
    have ft : ∀ k, flat (k + 1) (eW (tW w)) := eW_flat (tW_ok hw) (by have := tW_len w; omega)
    have fb : ∀ k, flat (k + 1) (eW (bw w)) := eW_flat (bw_ok hw) (by rw [bw_len]; omega)
    have e9 := s_same 2 _ (n - 1) (by omega) (flat_list4 (ft 0) (ft 0) (fb 0) (fb 0)) (by omega)
    obtain ⟨p, u3, e10, hp, hpx, hu3⟩ := s_play (n := n) (by omega) hu2 (by omega) (a1 := some (.val d)) (a2 := some (.val (eW w))) (a3 := pv b3) (a4 := pv b4) (a5 := pv b5) (a6 := pv b6) (a7 := pv b7) (a8 := pv b8) (a9 := some (.val (eW (tW w)))) (a10 := some (.val (lW w)))
    have okp : okP p := fun x hx => ⟨(hpx x hx).1, by have := (hpx x hx).2.1; omega⟩
    have otp : okT p := fun x hx => ⟨by have := (hpx x hx).2.2; omega, by have := (hpx x hx).2.1; omega⟩
    obtain ⟨q, u4, e11, hq, hqx, hu4⟩ := s_far (n := n) (by omega) hu3 (by omega) (a1 := some (.val d)) (a2 := some (.val (eW w))) (a3 := some (.val (eP p))) (a4 := pv b4) (a5 := pv b5) (a6 := pv b6) (a7 := pv b7) (a8 := pv b8) (a9 := some (.val (eW (tW w)))) (a10 := some (.val (lW w)))
    have okq : okP q := fun x hx => ⟨(hqx x hx).1, by have := (hqx x hx).2; omega⟩
    have fp : ∀ k, flat (k + 3) (eP p) := eP_flat okp (by omega)
    have fq : ∀ k, flat (k + 3) (eP q) := eP_flat okq (by omega)
    have e12 : run tf wf (n - 1) x__law_lists [eP p] = some (lP p, []) := by rw [s_lists 3 _ (n - 1) (by omega) (fp 0), lists_eP]
    have e13 : run tf wf (n - 1) x__law_lists [eP q] = some (lP q, []) := by rw [s_lists 3 _ (n - 1) (by omega) (fq 0), lists_eP]
    have e14 := s_backso (C := run tf wf (n - 1)) (p := q) (by omega) (a0 := some (.lent u4)) (a1 := some (.val d)) (a2 := some (.val (eW w))) (a3 := some (.val (eP p))) (a5 := some (.val (.list [lP p, lP q]))) (a6 := pv b6) (a7 := pv b7) (a8 := pv b8) (a9 := some (.val (eW (tW w)))) (a10 := some (.val (lW w)))
    have e15 := s_program_back (n := n - 1) (by omega) (.inl rfl) okq (by omega)
    have e16 := s_program_back (n := n - 1) (by omega) (.inr rfl) okq (by omega)
    have e17 := s_together (n := n - 1) (by omega) (v := .tuple [eP p, eP q]) (ps := [p, q]) (by
      show PyData.tuple ([eP p, eP q].map (plainD 3)) = _
      simp only [List.map_cons, List.map_nil, plain_eP 0]) (flat_tup2 (fp 0) (fq 0)) (by simp; omega)
    have e18 := s_together (n := n - 1) (by omega) (v := .list [lP p, eP q]) (ps := [p, q]) (by
      show PyData.tuple ([lP p, eP q].map (plainD 3)) = _
      simp only [List.map_cons, List.map_nil, plain_eP 0, plain_lP 0]) (flat_list2 (lP_flat okp (by omega) 0) (fq 0)) (by simp; omega)
    have epq : [p, q].flatten = p ++ q := by simp
    rw [epq] at e17 e18
    have okpq : okP (p ++ q) := fun x hx => by
      rcases List.mem_append.mp hx with hx | hx
      · exact okp x hx
      · exact okq x hx
    have okb := pback_ok okq
    have fpq : ∀ k, flat (k + 3) (eP (p ++ q)) := eP_flat okpq (by rw [List.length_append]; omega)
    have fbq : ∀ k, flat (k + 3) (eP (pback q)) := eP_flat okb (by rw [pback_len]; omega)
    have e19 := s_same 4 _ (n - 1) (by omega) (flat_list4 (fbq 0) (fbq 0) (fpq 0) (fpq 0)) (by omega)
    have e20 : opAdd (eP p) (eP q) = some (eP (p ++ q)) := by rw [eP_append, if_pos (by omega)]
    have e21 := s_sizes (C := run tf wf (n - 1)) okq (by omega) (a0 := some (.lent u4)) (a1 := some (.val d)) (a2 := some (.val (eW w))) (a3 := some (.val (eP p))) (a5 := some (.val (.list [lP p, lP q]))) (a6 := some (.val (eP (pback q)))) (a7 := some (.val (.list [eP (pback q), eP (pback q), eP (p ++ q), eP (p ++ q)]))) (a8 := pv b8) (a9 := some (.val (eW (tW w)))) (a10 := some (.val (lW w)))
    have e22 : opSum (.list ((q.map fun x => (x.1.length : Int) * absI x.2).map .int)) = some (.int (sizeP q)) := opSum_ints _
    have e23 := s_size_of (n := n - 1) (by omega) (.inl rfl) okq (by omega)
    have e24 := s_size_of (n := n - 1) (by omega) (.inr rfl) okq (by omega)
    have e25 := s_about (n := n - 1) (by omega) (.inl rfl) (.inl rfl) okp okq (by omega) (by omega)
    have e26 := s_about (n := n - 1) (by omega) (.inr rfl) (.inr rfl) okp okq (by omega) (by omega)
    have e27 : opAdd (eP (pback q)) (eP p) = some (eP (pback q ++ p)) := by rw [eP_append, if_pos (by rw [pback_len]; omega)]
    have e28 : opAdd (eP (pback q ++ p)) (eP q) = some (eP (pback q ++ p ++ q)) := by rw [eP_append, if_pos (by rw [List.length_append, pback_len]; omega)]
    have okbpq : okP (pback q ++ p ++ q) := fun x hx => by
      rcases List.mem_append.mp hx with hx | hx
      · rcases List.mem_append.mp hx with hx | hx
        · exact okb x hx
        · exact okp x hx
      · exact okq x hx
    have fbpq : ∀ k, flat (k + 3) (eP (pback q ++ p ++ q)) := eP_flat okbpq (by rw [List.length_append, List.length_append, pback_len]; omega)
    have e29 := s_same 4 _ (n - 1) (by omega) (flat_list4 (k := 3) (a := .int (sizeP q)) (b := .int (sizeP q)) trivial trivial (fbpq 0) (fbpq 0)) (by omega)
    have hsz : sizeP p ≤ 36 := by
      have h1 := sizeP_le (p := p) (a := 3) (b := 3) fun x hx => ⟨(hpx x hx).2.1, (hpx x hx).2.2⟩
      omega
    have hsl : (smallW p).length ≤ 36 := by have := smallW_len p; omega
    have oks := smallW_ok okp
    have e30 := s_small_word (n := n - 1) (by omega) okp otp (by omega)
    obtain ⟨u5, e31, hu5⟩ := s_out (n := n - 1) (by omega) hu4 (by omega) oks (by omega)
    have e32 := s_as_word (n := n - 1) (by omega) (.inl rfl) okp otp (by omega) (by omega)
    have e33 := s_as_word (n := n - 1) (by omega) (.inr rfl) okp otp (by omega) (by omega)
    have fs : ∀ k, flat (k + 1) (eW (tW (smallW p))) := eW_flat (tW_ok oks) (by have := tW_len (smallW p); omega)
    have e34 := s_same 2 _ (n - 1) (by omega) (flat_list2 (fs 0) (fs 0)) (by omega)
    have fll := flat_list2 (lP_flat okp (by omega) 0) (lP_flat okq (by omega) 0)
    have e35 := flat_sh fll (by omega)
    have e36 := flat_eqv fll
    have e37 := flat_sh (lW_flat hw (by omega) 0) (by omega)
    have e38 := flat_eqv (lW_flat hw (by omega) 0)
    refine ⟨[some (.lent u0), some (.val d), pv b2, pv b3, pv b4, pv b5, pv b6, pv b7, pv b8, pv b9, pv b10, none, none, none], [some (.lent u5), some (.val d), some (.val (eW w)), some (.val (eP p)), some (.val (eP q)), some (.val (.list [lP p, lP q])), some (.val (eP (pback q))), some (.val (.list [.int (sizeP q), .int (sizeP q), eP (pback q ++ p ++ q), eP (pback q ++ p ++ q)])), some (.val (.int (sizeP q))), some (.val (eW (tW (smallW p)))), some (.val (lW w)), none, none, none], by simp, .inl ?_, u5, some d, some (eW w), some (eP p), some (eP q), some (.list [lP p, lP q]), some (eP (pback q)), some (.list [.int (sizeP q), .int (sizeP q), eP (pback q ++ p ++ q), eP (pback q ++ p ++ q)]), some (.int (sizeP q)), some (eW (tW (smallW p))), some (lW w), rfl, hu5.mono (by omega)⟩
    generalize (q.map fun x => (x.1.length : Int) * absI x.2).map PyData.int = L at e21 e22
    simp only [List.append_assoc] at e25 e26 e27 e28 e29 ⊢
    generalize eP (pback q ++ (p ++ q)) = Q1 at e25 e26 e28 e29 ⊢
    generalize eP (pback q ++ p) = Q2 at e27 e28
    generalize eP (p ++ q) = Q3 at e17 e18 e19 e20 e21
    generalize sizeP q = z' at e22 e23 e24 e29 ⊢
    simp [S__law_right_4, e1, e2, e3, e4, e5, e6, e7, e8, e9, e10, (eP_pr p).symm, e11, (eP_pr q).symm, e12, e13, e14, (eP_pr (pback q)).symm, e15, e16, e17, e18, e19, e20, e21, e22, e23, e24, e25, e26, e27, e28, e29, e30, e31, e32, e33, e34, e35, e36, e37, e38, z4, z2, z1, mul2, add22, bsOf, bOf, putAll]
  obtain ⟨s', e, u', b1, b2, b3, b4, b5, b6, b7, b8, b9, b10, rfl, hu'⟩ := key
  refine ⟨u', ?_⟩
  rw [run_at' at__law_right (by omega) rfl]
  have s6 : smallI 6 = true := by decide +kernel
  simp [I__law_right, B__law_right, startS, inB, endD, lentsOf, stm_for, s6, e]
end
end L25

namespace FC
open PySem
theorem it_range1 {C : Calls} {e : Ex} {s s' : S} {n : Int} (h : (sem C e).a s = some (.vl (.int n), s')) (hn : smallI n = true) : (sem C (.itRange (.cons e .nil))).it s = some (rgD n, s') := by
  simp [h, hn]
theorem small_nn {n : Int} (h0 : 0 ≤ n) (h : n < 2 ^ 62) : smallI n = true := by
  unfold smallI
  simp only [Bool.and_eq_true, decide_eq_true_eq]
  omega
theorem rgD_nat (n : Nat) : rgD (n : Int) = (List.range n).map fun (k : Nat) => PyData.int (k : Int) := by
  unfold rgD
  rw [Int.toNat_natCast]
  simp
end FC
namespace L25
open PySem FC
def isTrue : Option (D × List D) → Bool
  | some (.bool true, []) => true
  | _ => false
theorem isTrue_eq {x : Option (D × List D)} (h : isTrue x = true) : x = some (.bool true, []) := by
  match x, h with
  | some (.bool true, []), _ => rfl
theorem s_hand : run tf wf 59 x__law_by_hand_right [] = some (.bool true, []) := isTrue_eq (by decide +kernel)
theorem law_body {w : Nat} {C : Calls} {X Y : D} {L : List D} (e1 : C x__law_cells [Y, .int 3] = some (X, [])) (hh : C x__law_by_hand_right [] = some (.bool true, [])) (hc : (sem C E_law_0).v [some (.val Y), some (.val X), none] = some (.list L, [some (.val Y), some (.val X), none])) (ha : opAll (.list L) = some (.bool true)) : endD I_law (stm w C I_law.body (startS I_law [Y])) = some (.bool true, []) := by
  simp [I_law, B_law, startS, inB, endD, lentsOf, e1, hh, hc, ha]
theorem runs' {n : Nat} (hn : 20 ≤ n) (hh : run tf wf (n - 1) x__law_by_hand_right [] = some (.bool true, [])) (ns : List Int) (hns : ns.length ≤ 63) : run tf wf n x_law [.list (ns.map .int)] = some (.bool true, []) := by
  obtain ⟨ms, e1, h0, h1⟩ := s_cells (n := n - 1) (by omega) (ns := ns) (m := 3) (by omega) (by omega)
  have e1 : run tf wf (n - 1) x__law_cells [.list (ns.map .int), .int 3] = some (.list (ms.map .int), []) := e1
  rw [run_at' at_law (by omega) rfl]
  have z : (1000 : Nat) ≤ sizeLine := by decide
  have sm : smallI (ms.length : Int) = true := small_nn (by omega) (by omega)
  have hc : (sem (run tf wf (n - 1)) E_law_0).v [some (.val (.list (ns.map .int))), some (.val (.list (ms.map .int))), none] = some (.list ((List.range ms.length).map fun _ => PyData.bool true), [some (.val (.list (ns.map .int))), some (.val (.list (ms.map .int))), none]) := by
    refine comp_mapA (E := E_law_0) rfl (s0 := [some (.val (.list (ns.map .int))), some (.val (.list (ms.map .int))), none]) (xs := List.range ms.length) (fun (k : Nat) => PyData.int (k : Int)) _ ((it_range1 (n := (ms.length : Int)) (s' := [some (.val (.list (ns.map .int))), some (.val (.list (ms.map .int))), none]) (by simp) sm).trans (by rw [rgD_nat])) (by simp) (by rw [List.length_range]; omega) ?_
    intro k hk
    obtain ⟨u, e2, hu⟩ := s_box (n := n - 1) (by omega) (ns := ms) (k := k)
    obtain ⟨u', e3⟩ := s_right (n := n - 1) (by omega) hu (by omega)
    have hu2 : newObj u = true := by obtain ⟨a, b, c, rfl, _⟩ := hu; rfl
    refine ⟨[some (.val (.list (ns.map .int))), some (.val (.list (ms.map .int))), some (.val (.int k))], [some (.val (.list (ns.map .int))), some (.val (.list (ms.map .int))), some (.val (.int k))], [some (.val (.list (ns.map .int))), some (.val (.list (ms.map .int))), some (.val (.int k))], by simp, by simp, ?_, by simp⟩
    simp [e2, e3, hu2]
  have hb : ∀ m : Nat, boolsOf (List.replicate m (PyData.bool true)) = some (List.replicate m true) := by
    intro m
    induction m with
    | zero => rfl
    | succ m ihm => simp [List.replicate_succ, boolsOf, ihm]
  have ha : ∀ m : Nat, opAll (.list ((List.range m).map fun _ => PyData.bool true)) = some (.bool true) := by
    intro m
    rw [List.map_const']
    simp [opAll, hb]
  exact law_body e1 hh hc (ha ms.length)
theorem runs : ∀ ns : List Int, ns.length ≤ 63 → run tf wf 60 x_law [.list (ns.map .int)] = some (.bool true, []) := fun ns h => runs' (n := 60) (by decide) s_hand ns h
end L25

namespace L25
open PySem PySem.Spec PyProof.Rows L2 FC
def top (i : Nat) : Stmt := PySem.Challenge.pw_facechains_k25_words_and_programs_by_the.main.body.getD i (.Pass ⟨0, 0, 0, 0⟩)
def f_plain : Df := { t := { sg := { name := "plain", ps := ["value"], modes := [false], own := false, kws := [] }, fi := I_plain, N := ["value", "part"], sc := defScope (top 4), body := defBody (top 4) }, ps := defArgs (top 4) }
def f_note_of : Df := { t := { sg := { name := "note_of", ps := ["deed"], modes := [false], own := false, kws := [] }, fi := I_note_of, N := ["deed"], sc := defScope (top 5), body := defBody (top 5) }, ps := defArgs (top 5) }
def f_backward : Df := { t := { sg := { name := "backward", ps := ["word"], modes := [false], own := false, kws := [] }, fi := I_backward, N := ["word", "deed"], sc := defScope (top 6), body := defBody (top 6) }, ps := defArgs (top 6) }
def f_tidied : Df := { t := { sg := { name := "tidied", ps := ["word"], modes := [false], own := false, kws := [] }, fi := I_tidied, N := ["word", "found", "deed"], sc := defScope (top 8), body := defBody (top 8) }, ps := defArgs (top 8) }
def f_tidy : Df := { t := { sg := { name := "tidy", ps := ["word"], modes := [false], own := false, kws := [(0, ["word"], [0])] }, fi := I_tidy, N := ["word"], sc := defScope (top 11), body := defBody (top 11) }, ps := defArgs (top 11) }
def f_word_back : Df := { t := { sg := { name := "word_back", ps := ["word"], modes := [false], own := false, kws := [(0, ["word"], [0])] }, fi := I_word_back, N := ["word"], sc := defScope (top 12), body := defBody (top 12) }, ps := defArgs (top 12) }
def f_program_back : Df := { t := { sg := { name := "program_back", ps := ["program"], modes := [false], own := false, kws := [(0, ["program"], [0])] }, fi := I_program_back, N := ["program", "word", "times"], sc := defScope (top 13), body := defBody (top 13) }, ps := defArgs (top 13) }
def f_together : Df := { t := { sg := { name := "together", ps := ["programs"], modes := [false], own := false, kws := [(0, ["programs"], [0])] }, fi := I_together, N := ["programs", "program", "pair"], sc := defScope (top 14), body := defBody (top 14) }, ps := defArgs (top 14) }
def f_size_of : Df := { t := { sg := { name := "size_of", ps := ["program"], modes := [false], own := false, kws := [(0, ["program"], [0])] }, fi := I_size_of, N := ["program", "word", "times"], sc := defScope (top 15), body := defBody (top 15) }, ps := defArgs (top 15) }
def f_as_word : Df := { t := { sg := { name := "as_word", ps := ["program"], modes := [false], own := false, kws := [(0, ["program"], [0])] }, fi := I_as_word, N := ["program", "found", "word", "times"], sc := defScope (top 16), body := defBody (top 16) }, ps := defArgs (top 16) }
def f_about : Df := { t := { sg := { name := "about", ps := ["program", "other"], modes := [false, false], own := false, kws := [(0, ["other", "program"], [1, 0])] }, fi := I_about, N := ["program", "other"], sc := defScope (top 17), body := defBody (top 17) }, ps := defArgs (top 17) }
def f__law_box : Df := { t := { sg := { name := "_law_box", ps := ["_law_script", "_law_k"], modes := [false, false], own := true, kws := [] }, fi := I__law_box, N := ["_law_script", "_law_k", "_law_cell"], sc := defScope (top 19), body := defBody (top 19) }, ps := defArgs (top 19) }
def f__law_take : Df := { t := { sg := { name := "_law_take", ps := ["_law_urn", "_law_below"], modes := [true, false], own := false, kws := [] }, fi := I__law_take, N := ["_law_urn", "_law_below", "_law_once", "_law_far", "_law_twice", "_law_digit_so"], sc := defScope (top 20), body := defBody (top 20) }, ps := defArgs (top 20) }
def f__law_cells : Df := { t := { sg := { name := "_law_cells", ps := ["_law_script", "_law_most_so"], modes := [false, false], own := false, kws := [] }, fi := I__law_cells, N := ["_law_script", "_law_most_so", "_law_cells_here", "_law_k", "_law_cell", "_law_at_so"], sc := defScope (top 21), body := defBody (top 21) }, ps := defArgs (top 21) }
def f__law_of : Df := { t := { sg := { name := "_law_of", ps := ["_law_urn", "_law_some"], modes := [true, false], own := false, kws := [] }, fi := I__law_of, N := ["_law_urn", "_law_some"], sc := defScope (top 22), body := defBody (top 22) }, ps := defArgs (top 22) }
def f__law_lists : Df := { t := { sg := { name := "_law_lists", ps := ["_law_matter"], modes := [false], own := false, kws := [] }, fi := I__law_lists, N := ["_law_matter", "_law_bit"], sc := defScope (top 23), body := defBody (top 23) }, ps := defArgs (top 23) }
def f__law_same : Df := { t := { sg := { name := "_law_same", ps := ["_law_got", "_law_due"], modes := [false, false], own := false, kws := [] }, fi := I__law_same, N := ["_law_got", "_law_due", "_law_own", "_law_mine", "_law_its"], sc := defScope (top 24), body := defBody (top 24) }, ps := defArgs (top 24) }
def f__law_back : Df := { t := { sg := { name := "_law_back", ps := ["_law_deeds"], modes := [false], own := false, kws := [] }, fi := I__law_back, N := ["_law_deeds", "_law_deed"], sc := defScope (top 25), body := defBody (top 25) }, ps := defArgs (top 25) }
def f__law_small_word : Df := { t := { sg := { name := "_law_small_word", ps := ["_law_play"], modes := [false], own := false, kws := [] }, fi := I__law_small_word, N := ["_law_play", "_law_found", "_law_deeds", "_law_many_so"], sc := defScope (top 26), body := defBody (top 26) }, ps := defArgs (top 26) }
def f__law_out : Df := { t := { sg := { name := "_law_out", ps := ["_law_urn", "_law_deeds"], modes := [true, false], own := false, kws := [] }, fi := I__law_out, N := ["_law_urn", "_law_deeds", "_law_found", "_law_spots", "_law_k", "_law_j"], sc := defScope (top 27), body := defBody (top 27) }, ps := defArgs (top 27) }
def f__law_any_word : Df := { t := { sg := { name := "_law_any_word", ps := ["_law_urn", "_law_most"], modes := [true, false], own := false, kws := [] }, fi := I__law_any_word, N := ["_law_urn", "_law_most", "_law_turn"], sc := defScope (top 28), body := defBody (top 28) }, ps := defArgs (top 28) }
def f__law_by_hand_right : Df := { t := { sg := { name := "_law_by_hand_right", ps := [], modes := [], own := false, kws := [] }, fi := I__law_by_hand_right, N := ["_law_got", "_law_due"], sc := defScope (top 29), body := defBody (top 29) }, ps := defArgs (top 29) }
def f__law_right : Df := { t := { sg := { name := "_law_right", ps := ["_law_urn"], modes := [true], own := false, kws := [] }, fi := I__law_right, N := ["_law_urn", "_law_turn", "_law_deeds", "_law_play", "_law_far", "_law_sides", "_law_back_so", "_law_got", "_law_size_so", "_law_due", "_law_soft", "_law_lap", "_law_own", "_law_many_so"], sc := defScope (top 30), body := defBody (top 30) }, ps := defArgs (top 30) }
def f_law : Df := { t := { sg := { name := "law", ps := ["_law_script"], modes := [false], own := false, kws := [] }, fi := I_law, N := ["_law_script", "_law_cells_here", "_law_k"], sc := defScope (top 31), body := defBody (top 31) }, ps := defArgs (top 31) }
def ds : List Df := [f_plain, f_note_of, f_backward, f_tidied, f_tidy, f_word_back, f_program_back, f_together, f_size_of, f_as_word, f_about, f__law_box, f__law_take, f__law_cells, f__law_of, f__law_lists, f__law_same, f__law_back, f__law_small_word, f__law_out, f__law_any_word, f__law_by_hand_right, f__law_right, f_law]
def globs : List (Str × FC.D) := [("MOST_DEEDS", .int 64), ("NONE", .str "-")]
theorem tf_eq : (ds.map (·.t)).map (·.fi) = tf := rfl
end L25

namespace L25
open PySem PySem.Spec PyProof.Rows L2 FC
def nm0 : List Str := ["TooLong", "NONE", "plain", "note_of", "backward", "tidied", "MOST_DEEDS", "tidy", "word_back", "program_back", "together", "size_of", "as_word", "about", "_law_box", "_law_take", "_law_cells", "_law_of", "_law_lists", "_law_same", "_law_back", "_law_small_word", "_law_out", "_law_any_word", "_law_by_hand_right", "_law_right"]
def loose : List Str := nm0
theorem bo_plain : BindOk f_plain := by
  refine ⟨fun kV doc pm an cdv ct us hl => match us, hl with | [_], _ => rfl, ?_⟩
  intro t ht; cases ht
theorem bo_note_of : BindOk f_note_of := by
  refine ⟨fun kV doc pm an cdv ct us hl => match us, hl with | [_], _ => rfl, ?_⟩
  intro t ht; cases ht
theorem bo_backward : BindOk f_backward := by
  refine ⟨fun kV doc pm an cdv ct us hl => match us, hl with | [_], _ => rfl, ?_⟩
  intro t ht; cases ht
theorem bo_tidied : BindOk f_tidied := by
  refine ⟨fun kV doc pm an cdv ct us hl => match us, hl with | [_], _ => rfl, ?_⟩
  intro t ht; cases ht
theorem bo_tidy : BindOk f_tidy := by
  refine ⟨fun kV doc pm an cdv ct us hl => match us, hl with | [_], _ => rfl, ?_⟩
  intro t ht
  simp only [f_tidy, List.mem_cons, List.not_mem_nil, or_false] at ht
  subst ht
  exact fun kV doc pm an cdv ct us ws h1 h2 => match us, ws, h1, h2 with | [], [_], _, _ => rfl
theorem bo_word_back : BindOk f_word_back := by
  refine ⟨fun kV doc pm an cdv ct us hl => match us, hl with | [_], _ => rfl, ?_⟩
  intro t ht
  simp only [f_word_back, List.mem_cons, List.not_mem_nil, or_false] at ht
  subst ht
  exact fun kV doc pm an cdv ct us ws h1 h2 => match us, ws, h1, h2 with | [], [_], _, _ => rfl
theorem bo_program_back : BindOk f_program_back := by
  refine ⟨fun kV doc pm an cdv ct us hl => match us, hl with | [_], _ => rfl, ?_⟩
  intro t ht
  simp only [f_program_back, List.mem_cons, List.not_mem_nil, or_false] at ht
  subst ht
  exact fun kV doc pm an cdv ct us ws h1 h2 => match us, ws, h1, h2 with | [], [_], _, _ => rfl
theorem bo_together : BindOk f_together := by
  refine ⟨fun kV doc pm an cdv ct us hl => match us, hl with | [_], _ => rfl, ?_⟩
  intro t ht
  simp only [f_together, List.mem_cons, List.not_mem_nil, or_false] at ht
  subst ht
  exact fun kV doc pm an cdv ct us ws h1 h2 => match us, ws, h1, h2 with | [], [_], _, _ => rfl
theorem bo_size_of : BindOk f_size_of := by
  refine ⟨fun kV doc pm an cdv ct us hl => match us, hl with | [_], _ => rfl, ?_⟩
  intro t ht
  simp only [f_size_of, List.mem_cons, List.not_mem_nil, or_false] at ht
  subst ht
  exact fun kV doc pm an cdv ct us ws h1 h2 => match us, ws, h1, h2 with | [], [_], _, _ => rfl
theorem bo_as_word : BindOk f_as_word := by
  refine ⟨fun kV doc pm an cdv ct us hl => match us, hl with | [_], _ => rfl, ?_⟩
  intro t ht
  simp only [f_as_word, List.mem_cons, List.not_mem_nil, or_false] at ht
  subst ht
  exact fun kV doc pm an cdv ct us ws h1 h2 => match us, ws, h1, h2 with | [], [_], _, _ => rfl
theorem bo_about : BindOk f_about := by
  refine ⟨fun kV doc pm an cdv ct us hl => match us, hl with | [_, _], _ => rfl, ?_⟩
  intro t ht
  simp only [f_about, List.mem_cons, List.not_mem_nil, or_false] at ht
  subst ht
  exact fun kV doc pm an cdv ct us ws h1 h2 => match us, ws, h1, h2 with | [], [_, _], _, _ => rfl
theorem bo__law_box : BindOk f__law_box := by
  refine ⟨fun kV doc pm an cdv ct us hl => match us, hl with | [_, _], _ => rfl, ?_⟩
  intro t ht; cases ht
theorem bo__law_take : BindOk f__law_take := by
  refine ⟨fun kV doc pm an cdv ct us hl => match us, hl with | [_, _], _ => rfl, ?_⟩
  intro t ht; cases ht
theorem bo__law_cells : BindOk f__law_cells := by
  refine ⟨fun kV doc pm an cdv ct us hl => match us, hl with | [_, _], _ => rfl, ?_⟩
  intro t ht; cases ht
theorem bo__law_of : BindOk f__law_of := by
  refine ⟨fun kV doc pm an cdv ct us hl => match us, hl with | [_, _], _ => rfl, ?_⟩
  intro t ht; cases ht
theorem bo__law_lists : BindOk f__law_lists := by
  refine ⟨fun kV doc pm an cdv ct us hl => match us, hl with | [_], _ => rfl, ?_⟩
  intro t ht; cases ht
theorem bo__law_same : BindOk f__law_same := by
  refine ⟨fun kV doc pm an cdv ct us hl => match us, hl with | [_, _], _ => rfl, ?_⟩
  intro t ht; cases ht
theorem bo__law_back : BindOk f__law_back := by
  refine ⟨fun kV doc pm an cdv ct us hl => match us, hl with | [_], _ => rfl, ?_⟩
  intro t ht; cases ht
theorem bo__law_small_word : BindOk f__law_small_word := by
  refine ⟨fun kV doc pm an cdv ct us hl => match us, hl with | [_], _ => rfl, ?_⟩
  intro t ht; cases ht
theorem bo__law_out : BindOk f__law_out := by
  refine ⟨fun kV doc pm an cdv ct us hl => match us, hl with | [_, _], _ => rfl, ?_⟩
  intro t ht; cases ht
theorem bo__law_any_word : BindOk f__law_any_word := by
  refine ⟨fun kV doc pm an cdv ct us hl => match us, hl with | [_, _], _ => rfl, ?_⟩
  intro t ht; cases ht
theorem bo__law_by_hand_right : BindOk f__law_by_hand_right := by
  refine ⟨fun kV doc pm an cdv ct us hl => match us, hl with | [], _ => rfl, ?_⟩
  intro t ht; cases ht
theorem bo__law_right : BindOk f__law_right := by
  refine ⟨fun kV doc pm an cdv ct us hl => match us, hl with | [_], _ => rfl, ?_⟩
  intro t ht; cases ht
theorem bo_law : BindOk f_law := by
  refine ⟨fun kV doc pm an cdv ct us hl => match us, hl with | [_], _ => rfl, ?_⟩
  intro t ht; cases ht
theorem bos : ∀ x ∈ ds, BindOk x := by
  intro x hx
  simp only [ds, List.mem_cons, List.not_mem_nil, or_false] at hx
  rcases hx with rfl | rfl | rfl | rfl | rfl | rfl | rfl | rfl | rfl | rfl | rfl | rfl | rfl | rfl | rfl | rfl | rfl | rfl | rfl | rfl | rfl | rfl | rfl | rfl
  · exact bo_plain
  · exact bo_note_of
  · exact bo_backward
  · exact bo_tidied
  · exact bo_tidy
  · exact bo_word_back
  · exact bo_program_back
  · exact bo_together
  · exact bo_size_of
  · exact bo_as_word
  · exact bo_about
  · exact bo__law_box
  · exact bo__law_take
  · exact bo__law_cells
  · exact bo__law_of
  · exact bo__law_lists
  · exact bo__law_same
  · exact bo__law_back
  · exact bo__law_small_word
  · exact bo__law_out
  · exact bo__law_any_word
  · exact bo__law_by_hand_right
  · exact bo__law_right
  · exact bo_law
def fa : List He.Fa := allFa ds globs
def fn : List He.DefD := ds.map Df.d
abbrev R : PySem.W.OpenRow := PySem.W.OpenLaw.row PySem.Challenge.rw_facechains_k25_words_and_programs_by_the
abbrev hk : PySem.W.Hook := hookN 4 fa fn
def ob (s : PySem.W.SharedT) : He.AlD := obsN 4 fa fn (HandSHeadRun.getT s)
theorem ob_eq (s : PySem.W.SharedT) : ob s = hk.obs s.abs := obsN_eq (HandSHeadRun.getT_eq s)
theorem runTop (w : World) : HandSHeadRun.RunEq R (PySem.W.view R.prog [31]) hk ob 3000 loose w := by
  intro os
  kernel_rfl
theorem oks : (ds.map (·.t)).all (okFn ((ds.map (·.t)).map (·.sg)) globs) = true := by decide +kernel
end L25
open PySem PySem.W PySem.Calls PyProof.Rows
theorem PySem.Challenge.cw_facechains_k25_words_and_programs_by_the_holds : PySem.Challenge.rw_facechains_k25_words_and_programs_by_the.Holds := by
  w_on; o_law
  refine HandSHeadRun.head_any (r := OpenLaw.row PySem.Challenge.rw_facechains_k25_words_and_programs_by_the) (q := view (OpenLaw.row PySem.Challenge.rw_facechains_k25_words_and_programs_by_the).prog [31]) (H := L25.hk) (ob := L25.ob) (M := 3000) (loose := L25.loose) (d := HandSHeadRun.topDef (OpenLaw.row PySem.Challenge.rw_facechains_k25_words_and_programs_by_the).prog 31) (kwd := []) L25.ob_eq
    (by kernel_rfl) (fun s => by kernel_rfl) L25.runTop (by kernel_rfl) (by kernel_rfl) (by kernel_rfl) (by rfl) (by first | assumption | decide +kernel) (by decide +kernel) ⟨rfl, rfl, rfl, rfl, rfl, by decide +kernel⟩ ?hw ?hc
  case hw => w_witness2
  case hc =>
    refine L2.walk_ofE (l := PySem.Challenge.rw_facechains_k25_words_and_programs_by_the) (n := 63) (k := 60) (x := "_law_script") (CX := L2.CX0) rfl (by decide) (by kernel_rfl) ⟨rfl, by decide, by decide⟩ ?F (fun _ _ _ _ z => z)
    intro w mg fa h Y G hmg0
    obtain ⟨K, KX, c, nl⟩ := Y
    have hmg : mg (L25.f_law).t.sg.name = some (.ref fa) := by
      have e : (HandSHeadRun.topDef (OpenLaw.row PySem.Challenge.rw_facechains_k25_words_and_programs_by_the).prog 31).name = (L25.f_law).t.sg.name := by kernel_rfl
      rw [← e]
      exact hmg0
    exact FC.law_of (ds := L25.ds) (globs := L25.globs) (i := 23) (x := L25.f_law) (wf := L25.wf) KX G hmg c nl L25.bos (by decide +kernel) L25.oks rfl rfl rfl rfl (fun ns h => by rw [L25.tf_eq]; exact L25.runs ns h)

