import PyProof.Rows.All
import Wide.All
import OpenK.AllK
import Wide.FinOn
import PyProof.EqLayable
import KE.SortData
import HandS.ForMost
import HandS.DictEq
import HandS.ListItems
import HandS.Conv
import HandS.Style
import HandS.Flow
import HandS.SetKeys
import HandS.Zip
import HandS.Deep
import KE.KDictKeyed
import HandS.TupAny
import KE.KEqDict
import PyProof.Rows.InDataRows
import HandS.Walk
import HandS.More
import KE.DataMinMax
import KE.KDictSum
import HandS.IsInst
import HandS.Set
import HandS.SetFor
import PySem.Challenge.RW_lostclaimed_k02_misremembered_and_lost
set_option Elab.async false
set_option linter.all false
set_option maxRecDepth 100000
/-! The small syntax and its value. -/
namespace Ly
open PySem

abbrev D := PyData
/-- what must hold so that the thing's value (any of its values) is as wanted -/
abbrev W (α : Type) := (α → Prop) → Prop
namespace W
def ok {α : Type} (a : α) : W α := fun Q => Q a
def bind {α β : Type} (m : W α) (f : α → W β) : W β := fun Q => m fun a => f a Q
def opt {α : Type} (o : Option α) : W α := fun Q => ∃ a, o = some a ∧ Q a
end W

inductive Bop where
  | add | sub | mul | fdiv | mod | pow
  deriving DecidableEq
inductive Cop where
  | eq | ne | lt | le | gt | ge | isin | notin | is | isnot
  deriving DecidableEq
/-- calls of built-in names -/
inductive Bi where
  | len | sorted | tuple | list | dict | min | max | sum | any | all | abs | int | str | sortedSet | lenSet | listItems | listRange | tupleRange | listValues | tupleZip | dictZip
  deriving DecidableEq
/-- methods that change nothing -/
inductive Me where
  | get | index | tindex | count | tcount | join | split
  deriving DecidableEq
/-- what is walked -/
inductive Ik where
  | seq | keys | range | zip | enum | items | values
  deriving DecidableEq
inductive Ty where
  | int | bool | str | tuple | list | dict
  deriving DecidableEq
/-- targets -/
inductive Tg where
  | name (i : Nat)
  | tup (ts : List Nat)
  deriving DecidableEq

mutual
inductive E where
  | var (i : Nat)
  | con (d : D)
  | tup (es : Es)
  | lst (es : Es)
  | dct (es : Es)
  | bin (o : Bop) (a b : E)
  | neg (a : E)
  | not (a : E)
  | and (a b : E)
  | or (a b : E)
  | cmp (o : Cop) (a b : E)
  | cmp2 (o o2 : Cop) (a b c : E)
  | ite (t a b : E)
  | idx (a i : E)
  | cut (a : E) (lo hi : Es)
  | rev (a : E)
  | comp (own : List Nat) (t : Tg) (k : Ik) (es : Es) (ifs : Es) (rest : G)
  | bi (f : Bi) (es : Es)
  | me (m : Me) (o : E) (es : Es)
  | isi (a : E) (t : Ty)
  | call (f : Nat) (w : Option Nat) (es : Es)
  | next (i : Nat) (a : E)
  | cat (a b : E)
  | slen (i : Nat)
  | sat (i : Nat) (a : E)
inductive Es where
  | nil
  | cons (e : E) (es : Es)
inductive G where
  | elt (e : E)
  | gen (t : Tg) (k : Ik) (es : Es) (ifs : Es) (rest : G)
end

mutual
inductive S where
  | asg (t : Tg) (e : E)
  | par (is : List Nat) (es : Es)
  | aug (i : Nat) (o : Bop) (e : E)
  | put (i : Nat) (k v : E)
  | lset (i : Nat) (k v : E)
  | augput (i : Nat) (k : E) (o : Bop) (v : E)
  | append (i : Nat) (e : E)
  | extend (i : Nat) (e : E)
  | pop (t : Tg) (i : Nat) (es : Es)
  | remove (i : Nat) (e : E)
  | insert (i : Nat) (k v : E)
  | update (i : Nat) (e : E)
  | ret (e : E)
  | ite (t : E) (a b : Ss)
  | for (t : Tg) (k : Ik) (es : Es) (ks : List Nat) (b : Ss)
  | while (n : Nat) (t : E) (ks : List Nat) (b : Ss)
  | brk
  | freeze (i : Nat)
inductive Ss where
  | nil
  | cons (s : S) (ss : Ss)
end

/-- a slot: nothing known, a value that nobody changes any more, an own list or dict, the object of the draws -/
inductive Sl where
  | non
  | val (d : D)
  | own (d : D)
  | obj
  | scr (ns : List Int)
abbrev Env := List Sl

/-! ### the operations on values -/
def lim : Nat := 16777216
def sh (d : D) : Bool := SeqAt.shaped d
def gd {α : Type} (b : Bool) (a : α) : Option α := if b then some a else none

def addD : D → D → Option D
  | .int a, .int b => some (.int (a + b))
  | .str a, .str b => gd (decide (a.length + b.length ≤ lim)) (.str (a ++ b))
  | .tuple a, .tuple b => gd (decide (a.length + b.length ≤ lim)) (.tuple (a ++ b))
  | .list a, .list b => gd (decide (a.length + b.length ≤ lim)) (.list (a ++ b))
  | _, _ => none
def mulOk (a b : Int) : Bool := decide (a.natAbs < 18446744073709551616) || decide (b.natAbs < 18446744073709551616)
def mulD : D → D → Option D
  | .int a, .int b => gd (mulOk a b) (.int (a * b))
  | .list a, .int k => gd (decide (k < 9223372036854775808) && decide (-9223372036854775808 ≤ k) && decide (a.length * k.toNat ≤ lim)) (.list (List.replicate k.toNat a).flatten)
  | _, _ => none
/-- + of lists -/
def catD : D → D → Option D
  | .list xs, .list ys => gd (decide (xs.length + ys.length ≤ lim)) (.list (xs ++ ys))
  | _, _ => none
def binD : Bop → D → D → Option D
  | .add, a, b => addD a b
  | .sub, .int a, .int b => some (.int (a - b))
  | .mul, a, b => mulD a b
  | .fdiv, .int a, .int b => gd (decide (0 < b) && decide (b < 1073741824)) (.int (a / b))
  | .mod, .int a, .int b => gd (decide (0 < b)) (.int (a % b))
  | .pow, .int a, .int b => gd (decide (0 ≤ b) && decide (b ≤ 1000000) && decide (a.natAbs < 2 ^ 64)) (.int (a ^ b.toNat))
  | _, _, _ => none

/-- a key that a dict may have -/
def keyB : D → Bool
  | .int _ => true
  | .str _ => true
  | _ => false
def keyEq : D → D → Bool
  | .int a, .int b => a == b
  | .str a, .str b => a == b
  | _, _ => false
def getD (kvs : List (D × D)) (k : D) : Option D := (kvs.find? fun p => keyEq p.1 k).map (·.2)
def hasD (kvs : List (D × D)) (k : D) : Bool := kvs.any fun p => keyEq p.1 k
def putD (kvs : List (D × D)) (k v : D) : List (D × D) :=
  if hasD kvs k then kvs.map fun p => if keyEq p.1 k then (p.1, v) else p else kvs ++ [(k, v)]
def mergeD (kvs more : List (D × D)) : List (D × D) := more.foldl (fun acc p => putD acc p.1 p.2) kvs

/-- == of dicts -/
def eqKV (a b : List (D × D)) : Bool := a.length == b.length && a.all fun p => match getD b p.1 with | none => false | some y => PyData.eqv p.2 y
/-- == -/
def eqD : D → D → Option Bool
  | .int a, .int b => some (a == b)
  | .str a, .str b => some (a == b)
  | .bool a, .bool b => some (a == b)
  | .none, .none => some true
  | .dict a, .dict b => gd (!(a.length == b.length) || ((a.all fun p => sh p.2) && (b.all fun p => sh p.2))) (eqKV a b)
  | a, b => gd (sh a && sh b) (PyData.eqv a b)
def ltD : D → D → Option Bool
  | .int a, .int b => some (decide (a < b))
  | .str a, .str b => some (decide (a.cps.toList < b.cps.toList))
  | _, _ => none
def memOk (x : D) (ds : List D) : Bool := sh x && sh (.list ds)
def memD (x : D) (ds : List D) : Bool := ds.any fun y => PyData.eqv y x
def inD (x : D) : D → Option Bool
  | .list ds => gd (memOk x ds) (memD x ds)
  | .tuple ds => gd (memOk x ds) (memD x ds)
  | .dict kvs => gd (keyB x) (hasD kvs x)
  | .str t => match x with
    | .str s => some (!(Builtin.Str.occurrences t s 0 t.length 1).isEmpty)
    | _ => none
  | _ => none
def isD : D → D → Option Bool
  | .none, .none => some true
  | .bool a, .bool b => some (a == b)
  | _, .none => some false
  | _, _ => none
def cmpD : Cop → D → D → Option Bool
  | .eq, a, b => eqD a b
  | .ne, a, b => (eqD a b).map (!·)
  | .lt, a, b => ltD a b
  | .gt, a, b => ltD b a
  | .le, .int a, .int b => some (decide (a ≤ b))
  | .ge, .int a, .int b => some (decide (b ≤ a))
  | .isin, a, b => inD a b
  | .notin, a, b => (inD a b).map (!·)
  | .is, a, b => isD a b
  | .isnot, a, b => (isD a b).map (!·)
  | _, _, _ => none

def sgn (s : Str) (k : Nat) : Option D := s.cps[k]?.map fun c => .str ⟨#[c]⟩
def ixN (n : Nat) (i : Int) : Option Nat := if 0 ≤ i then (if i < n then some i.toNat else none) else if -(n : Int) ≤ i then some (i + n).toNat else none
def idxD : D → D → Option D
  | .list ds, .int i => (ixN ds.length i).bind fun k => ds[k]?
  | .tuple ds, .int i => (ixN ds.length i).bind fun k => ds[k]?
  | .str s, .int i => gd (decide (s.length ≤ lim)) () >>= fun _ => (ixN s.length i).bind fun k => sgn s k
  | .dict kvs, k => gd (keyB k) () >>= fun _ => getD kvs k
  | _, _ => none
/-- where a slice begins or ends -/
def sIx (n d : Nat) : Option Int → Nat
  | none => d
  | some i => if i < 0 then (i + n).toNat else min i.toNat n
def cutL {α : Type} (xs : List α) (lo hi : Option Int) : List α := (xs.drop (sIx xs.length 0 lo)).take (sIx xs.length xs.length hi - sIx xs.length 0 lo)
def partD : Option D → Option (Option Int)
  | none => some none
  | some (.int i) => some (some i)
  | _ => none
def cutD : D → Option Int → Option Int → Option D
  | .list ds, lo, hi => some (.list (cutL ds lo hi))
  | .tuple ds, lo, hi => some (.tuple (cutL ds lo hi))
  | .str s, lo, hi => gd (decide (s.length ≤ lim)) (.str ⟨(cutL s.cps.toList lo hi).toArray⟩)
  | _, _, _ => none
def revD : D → Option D
  | .list ds => some (.list ds.reverse)
  | .tuple ds => some (.tuple ds.reverse)
  | _ => none

def lenD : D → Option D
  | .list ds => some (.int ds.length)
  | .tuple ds => some (.int ds.length)
  | .str s => gd (decide (s.length ≤ lim)) (.int s.length)
  | .dict kvs => some (.int kvs.length)
  | _ => none
def allAlike (ds : List D) : Bool := ds.all fun a => ds.all fun b => W.alike a b
def sortable (ds : List D) : Bool :=
  (ds.all fun d => match d with | .tuple (_ :: _) => true | _ => false) || (ds.all fun d => match d with | .tuple _ => false | .none => false | _ => true)
def sortOk (ds : List D) : Bool := allAlike ds && sortable ds && ds.all sh
def leB (a b : D) : Bool := PySem.W.dataLe false id a b
def sortL (ds : List D) : List D := ds.mergeSort leB
def itemsOf : D → Option (List D)
  | .list ds => some ds
  | .tuple ds => some ds
  | .dict kvs => some (kvs.map (·.1))
  | .str s => some (s.cps.toList.map fun c => .str ⟨#[c]⟩)
  | _ => none
def keysOf : D → Option (List D)
  | .list ds => some ds
  | .tuple ds => some ds
  | .dict kvs => some (kvs.map (·.1))
  | _ => none
def sortD (d : D) : Option D := (keysOf d).bind fun ds => gd (sortOk ds && decide (ds.length ≤ lim)) (.list (sortL ds))
/-- each once, in the order of their coming -/
def onceL : List D → List D
  | [] => []
  | x :: xs => x :: (onceL xs).filter fun y => !keyEq x y
def setOk (ds : List D) : Bool := decide (ds.length < 4000) && ds.all sh && ((ds.all fun d => match d with | .int _ => true | _ => false) || (ds.all fun d => match d with | .str _ => true | _ => false))
def intsD : List D → Option (List Int)
  | [] => some []
  | .int i :: r => (intsD r).map (i :: ·)
  | _ :: _ => none
def boolsD : List D → Option (List Bool)
  | [] => some []
  | .bool i :: r => (boolsD r).map (i :: ·)
  | _ :: _ => none
def strsD : List D → Option (List Str)
  | [] => some []
  | .str i :: r => (strsD r).map (i :: ·)
  | _ :: _ => none
def leastL (lt : D → D → Bool) : D → List D → D
  | m, [] => m
  | m, x :: r => leastL lt (if lt x m then x else m) r
def ltB (a b : D) : Bool := PySem.W.dataLt a b
def pairs : List D → Option (List (D × D))
  | [] => some []
  | .tuple [a, b] :: r => (pairs r).map ((a, b) :: ·)
  | _ :: _ => none
def rangeL (a b : Int) : List D := (List.range (b - a).toNat).map fun k => .int (a + (k : Nat))
def smallI (a : Int) : Bool := decide (-4611686018427387904 ≤ a) && decide (a < 4611686018427387904)
def pick (a : D) (b : D) (f : D) : List D → D
  | [] => f
  | _ => f

def some_ : D → Bool
  | .none => false
  | _ => true
def best (lt : D → D → Bool) : D → Option D
  | .list (x :: r) => gd (allAlike (x :: r) && (x :: r).all sh && (x :: r).all some_) (leastL lt x r)
  | .tuple (x :: r) => gd (allAlike (x :: r) && (x :: r).all sh && (x :: r).all some_) (leastL lt x r)
  | _ => none

def biD : Bi → List D → Option D
  | .len, [d] => lenD d
  | .sorted, [d] => sortD d
  | .tuple, [.list ds] => some (.tuple ds)
  | .tuple, [.tuple ds] => some (.tuple ds)
  | .list, [.list ds] => some (.list ds)
  | .list, [.tuple ds] => some (.list ds)
  | .list, [.dict kvs] => some (.list (kvs.map (·.1)))
  | .dict, [.dict kvs] => some (.dict kvs)
  | .dict, [.list ds] => (pairs ds).bind fun ps => gd (ps.all fun p => keyB p.1) (.dict (mergeD [] ps))
  | .min, [.int a, .int b] => some (.int (if b < a then b else a))
  | .max, [.int a, .int b] => some (.int (if b > a then b else a))
  | .min, [d] => best ltB d
  | .max, [d] => best (fun a b => ltB b a) d
  | .sum, [.list ds] => (intsD ds).map fun ns => .int ns.sum
  | .any, [.list ds] => (boolsD ds).map fun bs => .bool (bs.any id)
  | .all, [.list ds] => (boolsD ds).map fun bs => .bool (bs.all id)
  | .abs, [.int i] => some (.int (if i < 0 then -i else i))
  | .int, [.int i] => some (.int i)
  | .int, [.bool b] => some (.int (if b then 1 else 0))
  | .str, [.int i] => gd (decide (i.natAbs.log2 < 1920)) (.str (toString i : String))
  | .sortedSet, [d] => match d with
    | .list ds => gd (setOk ds) (.list (sortL (onceL ds)))
    | .tuple ds => gd (setOk ds) (.list (sortL (onceL ds)))
    | _ => none
  | .lenSet, [d] => match d with
    | .list ds => gd (setOk ds) (.int (onceL ds).length)
    | .tuple ds => gd (setOk ds) (.int (onceL ds).length)
    | _ => none
  | .listItems, [.dict kvs] => some (.list (kvs.map fun p => .tuple [p.1, p.2]))
  | .listRange, [.int b] => gd (smallI b && decide (b.toNat ≤ lim)) (.list (rangeL 0 b))
  | .listRange, [.int a, .int b] => gd (smallI a && smallI b && decide ((b - a).toNat ≤ lim)) (.list (rangeL a b))
  | .tupleRange, [.int b] => gd (smallI b && decide (b.toNat ≤ lim)) (.tuple (rangeL 0 b))
  | .tupleRange, [.int a, .int b] => gd (smallI a && smallI b && decide ((b - a).toNat ≤ lim)) (.tuple (rangeL a b))
  | _, _ => none

def idxOf (x : D) : List D → Option Nat
  | [] => none
  | y :: r => if PyData.eqv y x then some 0 else (idxOf x r).map (· + 1)
def meD : Me → D → List D → Option D
  | .get, .dict kvs, [k] => gd (keyB k) ((getD kvs k).getD .none)
  | .get, .dict kvs, [k, x] => gd (keyB k) ((getD kvs k).getD x)
  | .index, .list ds, [x] => gd (memOk x ds) () >>= fun _ => (idxOf x ds).map fun (k : Nat) => .int k
  | .tindex, .tuple ds, [x] => gd (memOk x ds) () >>= fun _ => (idxOf x ds).map fun (k : Nat) => .int k
  | .count, .list ds, [x] => gd (memOk x ds) (.int (ds.countP fun y => PyData.eqv y x))
  | .tcount, .tuple ds, [x] => gd (memOk x ds) (.int (ds.countP fun y => PyData.eqv y x))
  | _, _, _ => none
/-- what has the method -/
def meOk : Me → D → Bool
  | .get, .dict _ => true
  | .index, .list _ => true
  | .tindex, .tuple _ => true
  | .count, .list _ => true
  | .tcount, .tuple _ => true
  | .join, .str _ => true
  | .split, .str _ => true
  | _, _ => false
def isiD : D → Ty → Bool
  | .int _, .int => true
  | .bool _, .int => true
  | .bool _, .bool => true
  | .str _, .str => true
  | .tuple _, .tuple => true
  | .list _, .list => true
  | .dict _, .dict => true
  | _, _ => false

/-- what a walk goes through -/
def walkD : Ik → List D → Option (List D)
  | .seq, [.list ds] => some ds
  | .seq, [.tuple ds] => some ds
  | .seq, [.str s] => some (s.cps.toList.map fun c => .str ⟨#[c]⟩)
  | .keys, [.dict kvs] => some (kvs.map (·.1))
  | .range, [.int b] => gd (smallI b) (rangeL 0 b)
  | .range, [.int a, .int b] => gd (smallI a && smallI b) (rangeL a b)
  | .range, [.int a, .int b, .int (-1)] => gd (smallI a && smallI b) ((List.range (a - b).toNat).map fun k => .int (a - (k : Nat)))
  | .zip, [.list xs, .list ys] => some (List.zipWith (fun x y => .tuple [x, y]) xs ys)
  | .zip, [.tuple xs, .tuple ys] => some (List.zipWith (fun x y => .tuple [x, y]) xs ys)
  | .enum, [.list xs] => some (xs.zipIdx.map fun p => .tuple [.int (p.2 : Nat), p.1])
  | .items, [.dict kvs] => some (kvs.map fun p => .tuple [p.1, p.2])
  | .values, [.dict kvs] => some (kvs.map (·.2))
  | _, _ => none

/-! ### slots -/
def vals : Sl → Option D
  | .val d => some d
  | _ => none
def peek : Sl → Option D
  | .val d => some d
  | .own d => some d
  | _ => none
def scrOf : Sl → Option (List Int)
  | .scr ns => some ns
  | _ => none
def isObj : Sl → Bool
  | .obj => true
  | _ => false
def get (Γ : Env) (i : Nat) : Sl := Γ.getD i .non
def tgB : Tg → D → Env → Option Env
  | .name i, d, Γ => some (Γ.set i (.val d))
  | .tup ts, .tuple ds, Γ => gd (decide (ts.length = ds.length)) ((ts.zip ds).foldl (fun Γ p => Γ.set p.1 (.val p.2)) Γ)
  | .tup _, _, _ => none
def kill (ks : List Nat) (Γ : Env) : Env := ks.foldl (fun Γ k => Γ.set k .non) Γ

/-- makes a list or a dict of its own -/
def fresh : E → Bool
  | .lst _ => true
  | .dct _ => true
  | .cat _ _ => true
  | .comp .. => true
  | .bi .sorted _ => true
  | .bi .list _ => true
  | .bi .dict _ => true
  | .bi .sortedSet _ => true
  | .bi .listItems _ => true
  | .bi .listRange _ => true
  | _ => false

/-- what is walked may be an own thing -/
def pk : Ik → Bool
  | .seq => true
  | _ => false
def tgs : Tg → List Nat
  | .name i => [i]
  | .tup ts => ts
/-- over the items, in order; acc: what has come together -/
def flatA (f : D → List D → W (List D)) : List D → List D → W (List D)
  | [], acc => W.ok acc
  | d :: ds, acc => W.bind (f d acc) fun a => flatA f ds a

def boolD : D → Option Bool
  | .bool c => some c
  | _ => none
def intD : D → Option Int
  | .int i => some i
  | _ => none
section
variable (cf : Nat → List D → W D)
mutual
/-- the value; p: it is looked at only -/
def ev (p : Bool) : E → Env → W D
  | .var i, Γ => W.opt ((if p then peek else vals) (get Γ i))
  | .con d, _ => W.ok d
  | .tup es, Γ => W.bind (evEs false es Γ) fun ds => W.ok (.tuple ds)
  | .lst es, Γ => W.bind (evEs false es Γ) fun ds => W.ok (.list ds)
  | .dct es, Γ => W.bind (evKV es Γ) fun ps => W.opt (gd (ps.all fun p => keyB p.1) (.dict (mergeD [] ps)))
  | .bin o a b, Γ => W.bind (ev true a Γ) fun x => W.bind (ev true b Γ) fun y => W.opt (binD o x y)
  | .neg a, Γ => W.bind (ev false a Γ) fun x => W.bind (W.opt (intD x)) fun i => W.ok (.int (-i))
  | .not a, Γ => W.bind (ev false a Γ) fun x => W.bind (W.opt (boolD x)) fun c => W.ok (.bool (!c))
  | .and a b, Γ => W.bind (ev false a Γ) fun x => W.bind (W.opt (boolD x)) fun c => if c then ev false b Γ else W.ok (.bool false)
  | .or a b, Γ => W.bind (ev false a Γ) fun x => W.bind (W.opt (boolD x)) fun c => if c then W.ok (.bool true) else ev false b Γ
  | .cmp o a b, Γ => W.bind (ev true a Γ) fun x => W.bind (ev true b Γ) fun y => W.opt ((cmpD o x y).map .bool)
  | .cmp2 o o2 a b c, Γ => W.bind (ev true a Γ) fun x => W.bind (ev true b Γ) fun y => W.bind (W.opt (cmpD o x y)) fun k =>
      if k then W.bind (ev true c Γ) fun z => W.opt ((cmpD o2 y z).map .bool) else W.ok (.bool false)
  | .ite t a b, Γ => W.bind (ev false t Γ) fun x => W.bind (W.opt (boolD x)) fun c => if c then ev false a Γ else ev false b Γ
  | .idx a i, Γ => W.bind (ev true a Γ) fun x => W.bind (ev false i Γ) fun y => W.opt (idxD x y)
  | .cut a lo hi, Γ => W.bind (ev true a Γ) fun x => W.bind (evO lo Γ) fun l => W.bind (evO hi Γ) fun h => W.opt (cutD x l h)
  | .rev a, Γ => W.bind (ev true a Γ) fun x => W.opt (revD x)
  | .comp own t k es ifs rest, Γ => W.bind (evEs (pk k) es Γ) fun as => W.bind (W.opt (walkD k as)) fun items =>
      W.bind (flatA (fun d acc => W.bind (W.opt (tgB t d (kill own Γ))) fun Γ' => W.bind (evIfs ifs Γ') fun c => if c then evG rest Γ' acc else W.ok acc) items []) fun ds => W.ok (.list ds)
  | .bi f es, Γ => W.bind (evEs true es Γ) fun ds => W.opt (biD f ds)
  | .me m o es, Γ => W.bind (ev true o Γ) fun x => W.bind (W.opt (gd (meOk m x) ())) fun _ => W.bind (evEs false es Γ) fun ds => W.opt (meD m x ds)
  | .isi a t, Γ => W.bind (ev true a Γ) fun x => W.ok (.bool (isiD x t))
  | .call f w es, Γ => W.bind (W.opt (gd (match w with | none => true | some i => isObj (get Γ i)) ())) fun _ => W.bind (evEs false es Γ) fun ds => cf f ds
  | .next i a, Γ => W.bind (W.opt (gd (isObj (get Γ i)) ())) fun _ => W.bind (ev false a Γ) fun x => fun Q => ∃ n : Int, x = .int n ∧ 0 < n ∧ n < 1073741824 ∧ ∀ r : Int, 0 ≤ r → r < n → Q (.int r)
  | .cat a b, Γ => W.bind (ev true a Γ) fun x => W.bind (ev true b Γ) fun y => W.opt (catD x y)
  | .slen i, Γ => W.bind (W.opt (scrOf (get Γ i))) fun ns => W.ok (.int ns.length)
  | .sat i a, Γ => W.bind (W.opt (scrOf (get Γ i))) fun ns => W.bind (ev false a Γ) fun x => W.bind (W.opt (intD x)) fun k => W.bind (W.opt (gd (decide (0 ≤ k)) () >>= fun _ => ns[k.toNat]?)) fun n => W.ok (.int n)
def evEs (p : Bool) : Es → Env → W (List D)
  | .nil, _ => W.ok []
  | .cons e es, Γ => W.bind (ev p e Γ) fun d => W.bind (evEs p es Γ) fun ds => W.ok (d :: ds)
def evO : Es → Env → W (Option Int)
  | .nil, _ => W.ok none
  | .cons e _, Γ => W.bind (ev false e Γ) fun d => W.opt ((intD d).map some)
def evKV : Es → Env → W (List (D × D))
  | .nil, _ => W.ok []
  | .cons k (.cons v es), Γ => W.bind (ev false k Γ) fun x => W.bind (ev false v Γ) fun y => W.bind (evKV es Γ) fun ps => W.ok ((x, y) :: ps)
  | .cons _ .nil, _ => W.opt none
def evIfs : Es → Env → W Bool
  | .nil, _ => W.ok true
  | .cons e es, Γ => W.bind (ev false e Γ) fun x => W.bind (W.opt (boolD x)) fun c => if c then evIfs es Γ else W.ok false
def evG : G → Env → List D → W (List D)
  | .elt e, Γ, acc => W.bind (ev false e Γ) fun d => W.opt (gd (decide (acc.length < lim)) (acc ++ [d]))
  | .gen t k es ifs rest, Γ, acc => W.bind (evEs false es Γ) fun as => W.bind (W.opt (walkD k as)) fun items =>
      flatA (fun d acc => W.bind (W.opt (tgB t d (kill (tgs t) Γ))) fun Γ' => W.bind (evIfs ifs Γ') fun c => if c then evG rest Γ' acc else W.ok acc) items acc
end
end

/-! ### statements -/
/-- what is wanted behind a statement -/
structure Ko where
  nx : Env → Prop
  rt : D → Prop
  bk : Env → Prop
  ct : Env → Prop

/-- x's own object changed -/
def upO (i : Nat) (f : D → Option D) (Γ : Env) (Q : Env → Prop) : Prop :=
  match get Γ i with
  | .own d => ∃ d', f d = some d' ∧ Q (Γ.set i (.own d'))
  | _ => False
def putO (k v : D) : D → Option D
  | .list ds => (intD k).bind fun i => (ixN ds.length i).map fun j => .list (ds.set j v)
  | .dict kvs => gd (keyB k && decide (kvs.length < lim)) (.dict (putD kvs k v))
  | _ => none
def appO (v : D) : D → Option D
  | .list ds => gd (decide (ds.length < lim)) (.list (ds ++ [v]))
  | _ => none
def extO (v : D) : D → Option D
  | .list ds => match v with
    | .list es => gd (decide (ds.length + es.length ≤ lim)) (.list (ds ++ es))
    | _ => none
  | _ => none
/-- what is taken out, and what is left -/
def popO : List D → D → Option (D × D)
  | [], .list ds => ds.getLast?.map fun x => (x, .list ds.dropLast)
  | [.int i], .list ds => (ixN ds.length i).bind fun k => ds[k]?.map fun x => (x, .list (ds.eraseIdx k))
  | _, _ => none
def remO (v : D) : D → Option D
  | .list ds => gd (memOk v ds) () >>= fun _ => (idxOf v ds).map fun k => .list (ds.eraseIdx k)
  | _ => none
def insO (k v : D) : D → Option D
  | .list ds => (intD k).bind fun i => gd (decide (0 ≤ i) && decide (i ≤ ds.length) && decide (ds.length < lim)) (.list (ds.take i.toNat ++ v :: ds.drop i.toNat))
  | _ => none
def updO (v : D) : D → Option D
  | .dict kvs => match v with
    | .dict more => gd (decide (kvs.length + more.length ≤ lim)) (.dict (mergeD kvs more))
    | _ => none
  | _ => none

/-- for: the items that are left -/
def forL (step : D → Ko → Env → Prop) (κ : Ko) : List D → Env → Prop
  | [], Γ => κ.nx Γ
  | d :: ds, Γ => step d { κ with nx := forL step κ ds, ct := forL step κ ds, bk := κ.nx } Γ
/-- while: at most so many turns -/
def whileL (test : Env → W Bool) (step : Ko → Env → Prop) (κ : Ko) : Nat → Env → Prop
  | 0, _ => False
  | n + 1, Γ => test Γ fun c => if c then step { κ with nx := whileL test step κ n, ct := whileL test step κ n, bk := κ.nx } Γ else κ.nx Γ
def freshL : Es → List Bool
  | .nil => []
  | .cons e es => fresh e :: freshL es
def setAll : List Nat → List Bool → List D → Env → Env
  | i :: is, b :: bs, d :: ds, Γ => setAll is bs ds (Γ.set i (if b then .own d else .val d))
  | _, _, _, Γ => Γ

section
variable (cf : Nat → List D → W D)
mutual
def evS : S → Ko → Env → Prop
  | .asg (.name i) e, κ, Γ => ev cf false e Γ fun d => κ.nx (Γ.set i (if fresh e then .own d else .val d))
  | .asg (.tup is) e, κ, Γ => ev cf false e Γ fun d => ∃ Γ', tgB (.tup is) d Γ = some Γ' ∧ κ.nx Γ'
  | .par is es, κ, Γ => evEs cf false es Γ fun ds => κ.nx (setAll is (freshL es) ds Γ)
  | .aug i o e, κ, Γ => ∃ m, get Γ i = .val (.int m) ∧ ev cf false e Γ fun y => ∃ n, y = .int n ∧ ∃ z, binD o (.int m) (.int n) = some z ∧ κ.nx (Γ.set i (.val z))
  | .put i k v, κ, Γ => ∃ kvs, get Γ i = .own (.dict kvs) ∧ ev cf false v Γ fun y => ev cf false k Γ fun x => keyB x = true ∧ kvs.length < lim ∧ κ.nx (Γ.set i (.own (.dict (putD kvs x y))))
  | .lset i k v, κ, Γ => ∃ ds, get Γ i = .own (.list ds) ∧ ev cf false v Γ fun y => ev cf false k Γ fun x => ∃ n j, x = .int n ∧ ixN ds.length n = some j ∧ κ.nx (Γ.set i (.own (.list (ds.set j y))))
  | .augput i k o v, κ, Γ => ev cf false k Γ fun x => W.opt (peek (get Γ i)) fun c => ∃ old, idxD c x = some old ∧ ev cf false v Γ fun y => ∃ z, binD o old y = some z ∧ upO i (putO x z) Γ κ.nx
  | .append i e, κ, Γ => ∃ ds, get Γ i = .own (.list ds) ∧ ev cf false e Γ fun y => ds.length < lim ∧ κ.nx (Γ.set i (.own (.list (ds ++ [y]))))
  | .extend i e, κ, Γ => ∃ ds, get Γ i = .own (.list ds) ∧ ev cf true e Γ fun y => ∃ es, y = .list es ∧ ds.length + es.length ≤ lim ∧ κ.nx (Γ.set i (.own (.list (ds ++ es))))
  | .pop t i es, κ, Γ => evEs cf false es Γ fun as => match get Γ i with
      | .own d => ∃ x d', popO as d = some (x, d') ∧ ∃ Γ', tgB t x (Γ.set i (.own d')) = some Γ' ∧ κ.nx Γ'
      | _ => False
  | .remove i e, κ, Γ => ev cf false e Γ fun y => upO i (remO y) Γ κ.nx
  | .insert i k v, κ, Γ => ev cf false k Γ fun x => ev cf false v Γ fun y => upO i (insO x y) Γ κ.nx
  | .update i e, κ, Γ => ev cf true e Γ fun y => upO i (updO y) Γ κ.nx
  | .ret e, κ, Γ => ev cf false e Γ κ.rt
  | .ite t a b, κ, Γ => ev cf false t Γ fun x => ∃ c, boolD x = some c ∧ if c then evSs a κ Γ else evSs b κ Γ
  | .for t k es ks b, κ, Γ => evEs cf false es Γ fun as => ∃ items, walkD k as = some items ∧
      forL (fun d κ' Γ' => ∃ Γ'', tgB t d (kill ks Γ') = some Γ'' ∧ evSs b κ' Γ'') { κ with nx := fun Γ' => κ.nx (kill ks Γ') } items Γ
  | .while n t ks b, κ, Γ => whileL (fun Γ' Q => ev cf false t (kill ks Γ') fun x => ∃ c, boolD x = some c ∧ Q c) (fun κ' Γ' => evSs b κ' (kill ks Γ')) { κ with nx := fun Γ' => κ.nx (kill ks Γ') } n Γ
  | .brk, κ, Γ => κ.bk Γ
  | .freeze i, κ, Γ => ∃ d, get Γ i = .own d ∧ κ.nx (Γ.set i (.val d))
def evSs : Ss → Ko → Env → Prop
  | .nil, κ, Γ => κ.nx Γ
  | .cons s ss, κ, Γ => evS s { κ with nx := evSs ss κ } Γ
end
end

/-- a def: whether it takes the draws, its number of other parameters, of slots; its body -/
structure Fn where
  w : Bool
  ar : Nat
  n : Nat
  body : Ss
def start (f : Fn) (ds : List D) : Env := (if f.w then [Sl.obj] else []) ++ ds.map .val ++ List.replicate (f.n - f.ar - (if f.w then 1 else 0)) .non
/-- the defs, to a depth of calls -/
def cfN (T : List Fn) : Nat → Nat → List D → W D
  | 0, _, _ => fun _ => False
  | k + 1, i, ds => fun Q => ∃ f, T[i]? = some f ∧ ds.length = f.ar ∧ evSs (cfN T k) f.body { nx := fun _ => Q .none, rt := Q, bk := fun _ => False, ct := fun _ => False } (start f ds)
end Ly

set_option maxRecDepth 100000
set_option maxHeartbeats 1000000
/-! What stands for a value. -/
namespace Ly
open PySem L2

abbrev Frag := PySem.W.Frag
abbrev St := L2.St
def kD : Key → D
  | .inl i => .int i
  | .inr x => .str x

mutual
/-- v stands for d, nobody changes it any more: F is the part of the heap that stays -/
inductive Rp (K : Frag) (F : Hp) : V → D → Prop
  | non : Rp K F .non .none
  | bl (b : Bool) : Rp K F (.bl b) (.bool b)
  | int (i : Int) : Rp K F (.int i) (.int i)
  | str (x : Str) : Rp K F (.str x) (.str x)
  | lst {a : Addr} {xs : List V} {ds : List D} : F a = some (.lst xs) → RpL K F xs ds → Rp K F (.ref a) (.list ds)
  | tup {a : Addr} {xs : List V} {ds : List D} : SqT K F a xs → RpL K F xs ds → Rp K F (.ref a) (.tuple ds)
  | dct {a : Addr} {o : Obj} {kvs : List (Key × V)} {ps : List (D × D)} : F a = some (.frz o (.dK kvs)) → RpK K F kvs ps → Rp K F (.ref a) (.dict ps)
inductive RpL (K : Frag) (F : Hp) : List V → List D → Prop
  | nil : RpL K F [] []
  | cons {v : V} {vs : List V} {d : D} {ds : List D} : Rp K F v d → RpL K F vs ds → RpL K F (v :: vs) (d :: ds)
inductive RpK (K : Frag) (F : Hp) : List (Key × V) → List (D × D) → Prop
  | nil : RpK K F [] []
  | cons {k : Key} {v : V} {kvs : List (Key × V)} {d : D} {ps : List (D × D)} : Rp K F v d → RpK K F kvs ps → RpK K F ((k, v) :: kvs) ((kD k, d) :: ps)
end
/-- v stands for d in H; what it holds stays -/
inductive RpH (K : Frag) (pw : Option Addr) (F H : Hp) : V → D → Prop
  | non : RpH K pw F H .non .none
  | bl (b : Bool) : RpH K pw F H (.bl b) (.bool b)
  | int (i : Int) : RpH K pw F H (.int i) (.int i)
  | str (x : Str) : RpH K pw F H (.str x) (.str x)
  | lst {a : Addr} {xs : List V} {ds : List D} : H a = some (.lst xs) → RpL K F xs ds → RpH K pw F H (.ref a) (.list ds)
  | tup {a : Addr} {xs : List V} {ds : List D} : SqT K F a xs → RpL K F xs ds → RpH K pw F H (.ref a) (.tuple ds)
  | dct {a : Addr} {kvs : List (Key × V)} {ps : List (D × D)} : Rd H a (.dK kvs) → some a ≠ pw → RpK K F kvs ps → RpH K pw F H (.ref a) (.dict ps)
inductive RpHL (K : Frag) (pw : Option Addr) (F H : Hp) : List V → List D → Prop
  | nil : RpHL K pw F H [] []
  | cons {v : V} {vs : List V} {d : D} {ds : List D} : RpH K pw F H v d → RpHL K pw F H vs ds → RpHL K pw F H (v :: vs) (d :: ds)
/-- the object of the draws stands at pw -/
def WOk (F H : Hp) : Option Addr → Prop
  | none => True
  | some p => F p = none ∧ ∃ (l : Addr) (n : Int) (ns : List Int), H p = some (.dK [(.inr "draws", .ref l), (.inr "at", .int n)]) ∧ F l = some (.lst (ns.map V.int)) ∧ (∀ x ∈ ns, 0 ≤ x) ∧ 0 ≤ n
/-- at p an own list or dict stands -/
inductive OwnAt (K : Frag) (F H : Hp) (p : Addr) : D → Prop
  | lst {xs : List V} {ds : List D} : H p = some (.lst xs) → RpL K F xs ds → OwnAt K F H p (.list ds)
  | dct {kvs : List (Key × V)} {ps : List (D × D)} : H p = some (.dK kvs) → RpK K F kvs ps → OwnAt K F H p (.dict ps)

theorem Same.sqL {K : Frag} {H H' : Hp} {a : Addr} {xs : List V} (e : Same H H') (h : SqL K H a xs) : SqL K H' a xs := h.imp (fun h => h.imp (fun h => e _ _ h) fun ⟨o, h⟩ => ⟨o, e _ _ h⟩) fun h => h
theorem Same.sqT {K : Frag} {H H' : Hp} {a : Addr} {xs : List V} (e : Same H H') (h : SqT K H a xs) : SqT K H' a xs := by
  rcases h with (h | ⟨o, h⟩) | h
  · exact .inl (.inl (e _ _ h))
  · exact .inl (.inr ⟨o, e _ _ h⟩)
  · exact .inr h
mutual
theorem Rp.mono {K : Frag} {F F' : Hp} (s : Same F F') : ∀ {v : V} {d : D}, Rp K F v d → Rp K F' v d
  | _, _, .non => .non
  | _, _, .bl b => .bl b
  | _, _, .int i => .int i
  | _, _, .str x => .str x
  | _, _, .lst h r => .lst (s _ _ h) (RpL.mono s r)
  | _, _, .tup h r => .tup (Same.sqT s h) (RpL.mono s r)
  | _, _, .dct h r => .dct (s _ _ h) (RpK.mono s r)
theorem RpL.mono {K : Frag} {F F' : Hp} (s : Same F F') : ∀ {v : List V} {d : List D}, RpL K F v d → RpL K F' v d
  | _, _, .nil => .nil
  | _, _, .cons h r => .cons (Rp.mono s h) (RpL.mono s r)
theorem RpK.mono {K : Frag} {F F' : Hp} (s : Same F F') : ∀ {v : List (Key × V)} {d : List (D × D)}, RpK K F v d → RpK K F' v d
  | _, _, .nil => .nil
  | _, _, .cons h r => .cons (Rp.mono s h) (RpK.mono s r)
end
section
variable {K : Frag} {F F' H H' : Hp} {v : V} {d : D} {p : Addr}
theorem Rp.peek {pw : Option Addr} (r : Rp K F v d) (s : Same F H) (w : WOk F H pw) : RpH K pw F H v d := by
  cases r with
  | non => exact .non
  | bl b => exact .bl b
  | int i => exact .int i
  | str x => exact .str x
  | lst h r => exact .lst (s _ _ h) r
  | tup h r => exact .tup h r
  | @dct a o kvs ps h r =>
    refine .dct (.inr ⟨_, s _ _ h⟩) (fun e => ?_) r
    subst e
    rw [w.1] at h
    cases h
theorem OwnAt.peek {pw : Option Addr} (r : OwnAt K F H p d) (hp : some p ≠ pw) : RpH K pw F H (.ref p) d := by
  cases r with
  | lst h r => exact .lst h r
  | dct h r => exact .dct (.inl h) hp r
theorem OwnAt.mono (r : OwnAt K F H p d) (s : Same F F') (h : ∀ o, H p = some o → H' p = some o) : OwnAt K F' H' p d := by
  cases r with
  | lst h' r => exact .lst (h _ h') (r.mono s)
  | dct h' r => exact .dct (h _ h') (r.mono s)
theorem RpH.mono {pw : Option Addr} (r : RpH K pw F H v d) (s : Same F F') (h : ∀ a o, H a = some o → some a ≠ pw → H' a = some o) (w : WOk F H pw) : RpH K pw F' H' v d := by
  have hne : ∀ a o, H a = some o → (∀ kvs, o ≠ .dK kvs) → some a ≠ pw := fun a o e n z => by
    subst z
    obtain ⟨_, l, m, ns, q, _⟩ := w
    rw [e] at q
    cases q
    exact n _ rfl
  cases r with
  | non => exact .non
  | bl b => exact .bl b
  | int i => exact .int i
  | str x => exact .str x
  | lst h' r => exact .lst (h _ _ h' (hne _ _ h' fun _ z => nomatch z)) (r.mono s)
  | tup h' r => exact .tup (Same.sqT s h') (r.mono s)
  | dct h' hp r =>
    refine .dct ?_ hp (r.mono s)
    rcases h' with h' | ⟨o, h'⟩
    · exact .inl (h _ _ h' hp)
    · exact .inr ⟨o, h _ _ h' hp⟩
end
theorem RpL.length {K : Frag} {F : Hp} : ∀ {vs : List V} {ds : List D}, RpL K F vs ds → vs.length = ds.length
  | _, _, .nil => rfl
  | _, _, .cons _ r => by simp [RpL.length r]
theorem RpK.length {K : Frag} {F : Hp} : ∀ {vs : List (Key × V)} {ds : List (D × D)}, RpK K F vs ds → vs.length = ds.length
  | _, _, .nil => rfl
  | _, _, .cons _ r => by simp [RpK.length r]
theorem RpL.get {K : Frag} {F : Hp} : ∀ {vs : List V} {ds : List D} {i : Nat} {d : D}, RpL K F vs ds → ds[i]? = some d → ∃ v, vs[i]? = some v ∧ Rp K F v d
  | _, _, i, d, .nil, e => by simp at e
  | _, _, 0, d, .cons h _, e => by simp at e; subst e; exact ⟨_, rfl, h⟩
  | _, _, i + 1, d, .cons _ r, e => by
    obtain ⟨v, h1, h2⟩ := RpL.get (i := i) r (by simpa using e)
    exact ⟨v, by simpa using h1, h2⟩
theorem RpL.getV {K : Frag} {F : Hp} : ∀ {vs : List V} {ds : List D} {i : Nat} {v : V}, RpL K F vs ds → vs[i]? = some v → ∃ d, ds[i]? = some d ∧ Rp K F v d
  | _, _, i, d, .nil, e => by simp at e
  | _, _, 0, d, .cons h _, e => by simp at e; subst e; exact ⟨_, rfl, h⟩
  | _, _, i + 1, d, .cons _ r, e => by
    obtain ⟨v, h1, h2⟩ := RpL.getV (i := i) r (by simpa using e)
    exact ⟨v, by simpa using h1, h2⟩
theorem RpL.append {K : Frag} {F : Hp} : ∀ {vs ws : List V} {ds es : List D}, RpL K F vs ds → RpL K F ws es → RpL K F (vs ++ ws) (ds ++ es)
  | _, _, _, _, .nil, s => s
  | _, _, _, _, .cons h r, s => .cons h (RpL.append r s)
theorem RpL.take {K : Frag} {F : Hp} : ∀ {vs : List V} {ds : List D} (n : Nat), RpL K F vs ds → RpL K F (vs.take n) (ds.take n)
  | _, _, 0, _ => .nil
  | _, _, _ + 1, .nil => .nil
  | _, _, n + 1, .cons h r => .cons h (RpL.take n r)
theorem RpL.drop {K : Frag} {F : Hp} : ∀ {vs : List V} {ds : List D} (n : Nat), RpL K F vs ds → RpL K F (vs.drop n) (ds.drop n)
  | _, _, 0, h => h
  | _, _, _ + 1, .nil => .nil
  | _, _, n + 1, .cons h r => RpL.drop n r
theorem RpL.set {K : Frag} {F : Hp} {v : V} {d : D} (h : Rp K F v d) : ∀ {vs : List V} {ds : List D} (n : Nat), RpL K F vs ds → RpL K F (vs.set n v) (ds.set n d)
  | _, _, _, .nil => .nil
  | _, _, 0, .cons _ r => .cons h r
  | _, _, n + 1, .cons k r => .cons k (RpL.set h n r)
theorem RpL.eraseIdx {K : Frag} {F : Hp} : ∀ {vs : List V} {ds : List D} (n : Nat), RpL K F vs ds → RpL K F (vs.eraseIdx n) (ds.eraseIdx n)
  | _, _, _, .nil => .nil
  | _, _, 0, .cons _ r => r
  | _, _, n + 1, .cons k r => .cons k (RpL.eraseIdx n r)
theorem RpL.reverse {K : Frag} {F : Hp} : ∀ {vs : List V} {ds : List D}, RpL K F vs ds → RpL K F vs.reverse ds.reverse
  | _, _, .nil => .nil
  | _, _, .cons h r => by rw [List.reverse_cons, List.reverse_cons]; exact (RpL.reverse r).append (.cons h .nil)
theorem RpL.dropLast {K : Frag} {F : Hp} : ∀ {vs : List V} {ds : List D}, RpL K F vs ds → RpL K F vs.dropLast ds.dropLast
  | _, _, .nil => .nil
  | _, _, .cons _ .nil => .nil
  | _, _, .cons h (.cons k r) => by simpa using RpL.cons h (RpL.dropLast (.cons k r))
theorem RpL.rep {K : Frag} {F : Hp} {vs : List V} {ds : List D} (h : RpL K F vs ds) : ∀ n, RpL K F (List.replicate n vs).flatten (List.replicate n ds).flatten
  | 0 => .nil
  | n + 1 => by rw [List.replicate_succ, List.replicate_succ, List.flatten_cons, List.flatten_cons]; exact h.append (RpL.rep h n)

/-! ### keys -/
theorem kD_inj {a b : Key} (h : kD a = kD b) : a = b := by
  cases a <;> cases b <;> simp [kD] at h <;> simp [h]
theorem keyEq_kD (a b : Key) : keyEq (kD a) (kD b) = decide (a = b) := by
  cases a with
  | inl i =>
    cases b with
    | inl j =>
      by_cases h : i = j
      · simp [keyEq, kD, h]
      · simp [keyEq, kD, h]
    | inr j => simp [keyEq, kD]
  | inr i =>
    cases b with
    | inl j => simp [keyEq, kD]
    | inr j =>
      by_cases h : i = j
      · simp [keyEq, kD, h]
      · simp [keyEq, kD, h]
theorem keyB_kD (a : Key) : keyB (kD a) = true := by cases a <;> rfl
theorem key_of_rp {K : Frag} {F : Hp} {v : V} {d : D} (r : Rp K F v d) (h : keyB d = true) : ∃ k : Key, v = kV k ∧ d = kD k := by
  cases r <;> simp [keyB] at h
  · exact ⟨.inl _, rfl, rfl⟩
  · exact ⟨.inr _, rfl, rfl⟩
theorem rp_key {K : Frag} {F : Hp} (k : Key) : Rp K F (kV k) (kD k) := by
  cases k
  · exact .int _
  · exact .str _
theorem RpK.get {K : Frag} {F : Hp} (k : Key) : ∀ {kvs : List (Key × V)} {ps : List (D × D)}, RpK K F kvs ps → (valV kvs k = none ∧ getD ps (kD k) = none) ∨ ∃ v d, valV kvs k = some v ∧ getD ps (kD k) = some d ∧ Rp K F v d
  | _, _, .nil => .inl ⟨rfl, rfl⟩
  | _, _, @RpK.cons _ _ k' v kvs d ps h r => by
    by_cases e : k' = k
    · refine .inr ⟨v, d, valV_pos e, ?_, h⟩
      simp [getD, List.find?_cons, keyEq_kD, e]
    · have e1 : valV ((k', v) :: kvs) k = valV kvs k := valV_neg e
      have e2 : getD ((kD k', d) :: ps) (kD k) = getD ps (kD k) := by simp [getD, List.find?_cons, keyEq_kD, e]
      rw [e1, e2]
      exact RpK.get k r
theorem hasD_get (ps : List (D × D)) (k : D) : hasD ps k = (getD ps k).isSome := by
  induction ps with
  | nil => rfl
  | cons p r ih =>
    unfold hasD getD at *
    rw [List.any_cons, List.find?_cons]
    cases h : keyEq p.1 k with
    | true => simp
    | false => simpa using ih
theorem RpK.has {K : Frag} {F : Hp} {kvs : List (Key × V)} {ps : List (D × D)} (r : RpK K F kvs ps) (k : Key) : (valV kvs k).isSome = hasD ps (kD k) := by
  rw [hasD_get]
  rcases r.get k with ⟨a, b⟩ | ⟨v, d, a, b, _⟩ <;> rw [a, b] <;> rfl
theorem RpK.append {K : Frag} {F : Hp} : ∀ {vs ws : List (Key × V)} {ds es : List (D × D)}, RpK K F vs ds → RpK K F ws es → RpK K F (vs ++ ws) (ds ++ es)
  | _, _, _, _, .nil, s => s
  | _, _, _, _, .cons h r, s => .cons h (RpK.append r s)
theorem RpK.repl {K : Frag} {F : Hp} {k : Key} {v : V} {d : D} (h : Rp K F v d) : ∀ {kvs : List (Key × V)} {ps : List (D × D)}, RpK K F kvs ps →
    RpK K F (kvs.map fun kv => if kv.1 = k then (kv.1, v) else kv) (ps.map fun p => if keyEq p.1 (kD k) then (p.1, d) else p)
  | _, _, .nil => .nil
  | _, _, @RpK.cons _ _ k' v' kvs d' ps h' r => by
    have ih := RpK.repl (k := k) h r
    rw [List.map_cons, List.map_cons]
    by_cases e : k' = k
    · simp only [keyEq_kD, e, decide_true, if_true]
      rw [← e]
      subst e
      exact .cons h ih
    · simp only [keyEq_kD, e, decide_false, if_false, Bool.false_eq_true]
      exact .cons h' ih
theorem RpK.put {K : Frag} {F : Hp} {kvs : List (Key × V)} {ps : List (D × D)} (r : RpK K F kvs ps) (k : Key) {v : V} {d : D} (h : Rp K F v d) : RpK K F (putK kvs k v) (putD ps (kD k) d) := by
  unfold putK putD
  rw [valV_any, r.has k]
  cases hasD ps (kD k) with
  | true => simpa using r.repl h
  | false => simpa using r.append (.cons h .nil)
theorem RpK.keys {K : Frag} {F : Hp} : ∀ {kvs : List (Key × V)} {ps : List (D × D)}, RpK K F kvs ps → RpL K F (kvs.map fun kv => kV kv.1) (ps.map (·.1))
  | _, _, .nil => .nil
  | _, _, .cons _ r => .cons (rp_key _) (RpK.keys r)
theorem RpK.merge {K : Frag} {F : Hp} : ∀ {more : List (Key × V)} {pm : List (D × D)} {kvs : List (Key × V)} {ps : List (D × D)}, RpK K F more pm → RpK K F kvs ps → RpK K F (mergeK kvs more) (mergeD ps pm)
  | _, _, _, _, .nil, h => h
  | _, _, _, _, .cons h r, h' => by
    unfold mergeK mergeD
    rw [List.foldl_cons, List.foldl_cons]
    exact RpK.merge r (h'.put _ h)
end Ly

set_option maxRecDepth 100000
set_option maxHeartbeats 1000000
/-! What holds between the steps. -/
namespace Ly
open PySem L2

/-- from (F, H) to (F', H'): what stays, stays; what is new is new -/
structure Step (pw : Option Addr) (F H F' H' : Hp) : Prop where
  f : Same F F'
  fh : Same F' H'
  keep : ∀ a o, H a = some o → some a ≠ pw → H' a = some o
  new : ∀ a, F a = none → F' a ≠ none → H a = none
  w : WOk F' H' pw

/-- one slot -/
def SlotOk (K : Frag) (pw : Option Addr) (H0 F H : Hp) (σ : St) (i : Nat) : Sl → Prop
  | .non => True
  | .val d => ∃ v, σ[i]? = some (some v) ∧ Rp K F v d
  | .own d => ∃ p, σ[i]? = some (some (.ref p)) ∧ H0 p = none ∧ F p = none ∧ some p ≠ pw ∧ OwnAt K F H p d
  | .obj => ∃ p, σ[i]? = some (some (.ref p)) ∧ pw = some p
  | .scr ns => ∃ p, σ[i]? = some (some (.ref p)) ∧ SqL K F p (ns.map V.int)
structure EnvOk (K : Frag) (pw : Option Addr) (H0 F H : Hp) (σ : St) (Γ : Env) : Prop where
  len : Γ.length = σ.length
  slot : ∀ i, SlotOk K pw H0 F H σ i (get Γ i)
  apart : ∀ i j d d' p, get Γ i = .own d → get Γ j = .own d' → σ[i]? = some (some (.ref p)) → σ[j]? = some (some (.ref p)) → i = j

section
variable {K : Frag} {pw : Option Addr} {H0 F H F' H' F2 H2 : Hp} {σ : St} {Γ : Env}
theorem Step.refl (h : Same F H) (w : WOk F H pw) : Step pw F H F H := ⟨fun _ _ e => e, h, fun _ _ e _ => e, fun _ e n => absurd e n, w⟩
theorem Step.trans (a : Step pw F H F' H') (b : Step pw F' H' F2 H2) : Step pw F H F2 H2 where
  f := a.f.trans b.f
  fh := b.fh
  keep := fun x o e n => b.keep x o (a.keep x o e n) n
  new := fun x e n => by
    cases q : F' x with
    | some o => exact a.new x e (by rw [q]; exact fun z => nomatch z)
    | none =>
      have h := b.new x q n
      cases r : H x with
      | none => rfl
      | some o =>
        by_cases hp : some x = pw
        · subst hp
          have w := b.w
          exact absurd w.1 n
        · rw [a.keep x o r hp] at h; cases h
  w := b.w
theorem EnvOk.step (E : EnvOk K pw H0 F H σ Γ) (s : Step pw F H F' H') : EnvOk K pw H0 F' H' σ Γ where
  len := E.len
  apart := E.apart
  slot := fun i => by
    have h := E.slot i
    generalize get Γ i = sl at h ⊢
    cases sl with
    | non => trivial
    | val d => obtain ⟨v, e, r⟩ := h; exact ⟨v, e, r.mono s.f⟩
    | obj => exact h
    | scr ns => obtain ⟨p, e, r⟩ := h; exact ⟨p, e, Same.sqL s.f r⟩
    | own d =>
      obtain ⟨p, e, h0, hf, hp, o⟩ := h
      have hH : ∀ o, H p = some o → H' p = some o := fun o q => s.keep p o q hp
      refine ⟨p, e, h0, ?_, hp, o.mono s.f hH⟩
      cases q : F' p with
      | none => rfl
      | some u =>
        have z := s.new p hf (by rw [q]; exact fun z => nomatch z)
        cases o with
        | lst h' _ => rw [z] at h'; cases h'
        | dct h' _ => rw [z] at h'; cases h'
theorem get_set {Γ : Env} {i j : Nat} {s : Sl} (h : i < Γ.length) : get (Γ.set i s) j = if j = i then s else get Γ j := by
  unfold get
  by_cases e : j = i
  · subst e
    rw [if_pos rfl]
    simp [List.getD, List.getElem?_set_self h]
  · rw [if_neg e]
    simp [List.getD, List.getElem?_set_ne (Ne.symm e)]
theorem get_out {Γ : Env} {i : Nat} (h : Γ.length ≤ i) : get Γ i = .non := by
  unfold get
  simp [List.getD, List.getElem?_eq_none h]
theorem lt_of_get {Γ : Env} {i : Nat} (h : get Γ i ≠ .non) : i < Γ.length := by
  rcases Nat.lt_or_ge i Γ.length with q | q
  · exact q
  · exact absurd (get_out q) h
/-- a slot takes a value -/
theorem EnvOk.put (E : EnvOk K pw H0 F H σ Γ) {i : Nat} {v : V} {d : D} (hi : i < σ.length) (r : Rp K F v d) : EnvOk K pw H0 F H (σ.set i (some v)) (Γ.set i (.val d)) where
  len := by simp [E.len]
  slot := fun j => by
    rw [get_set (by rw [E.len]; exact hi)]
    by_cases e : j = i
    · subst e
      rw [if_pos rfl]
      exact ⟨v, List.getElem?_set_self hi, r⟩
    · rw [if_neg e]
      have h := E.slot j
      generalize get Γ j = sl at h ⊢
      cases sl with
      | non => trivial
      | val d => obtain ⟨w, e1, r⟩ := h; exact ⟨w, by rw [List.getElem?_set_ne (Ne.symm e)]; exact e1, r⟩
      | own d => obtain ⟨p, e1, h⟩ := h; exact ⟨p, by rw [List.getElem?_set_ne (Ne.symm e)]; exact e1, h⟩
      | obj => obtain ⟨p, e1, h⟩ := h; exact ⟨p, by rw [List.getElem?_set_ne (Ne.symm e)]; exact e1, h⟩
      | scr ns => obtain ⟨p, e1, h⟩ := h; exact ⟨p, by rw [List.getElem?_set_ne (Ne.symm e)]; exact e1, h⟩
  apart := fun j k d1 d2 p h1 h2 e1 e2 => by
    rw [get_set (by rw [E.len]; exact hi)] at h1 h2
    by_cases ej : j = i
    · rw [if_pos ej] at h1; cases h1
    · by_cases ek : k = i
      · rw [if_pos ek] at h2; cases h2
      · rw [if_neg ej] at h1
        rw [if_neg ek] at h2
        rw [List.getElem?_set_ne (Ne.symm ej)] at e1
        rw [List.getElem?_set_ne (Ne.symm ek)] at e2
        exact E.apart j k d1 d2 p h1 h2 e1 e2
/-- a slot takes a new list or dict of its own -/
theorem EnvOk.putOwn (E : EnvOk K pw H0 F H σ Γ) {i : Nat} {p : Addr} {d : D} (hi : i < σ.length) (h0 : H0 p = none) (hf : F p = none) (hp : some p ≠ pw) (o : OwnAt K F H p d)
    (ho : ∀ j d', get Γ j = .own d' → σ[j]? ≠ some (some (.ref p))) : EnvOk K pw H0 F H (σ.set i (some (.ref p))) (Γ.set i (.own d)) where
  len := by simp [E.len]
  slot := fun j => by
    rw [get_set (by rw [E.len]; exact hi)]
    by_cases e : j = i
    · subst e
      rw [if_pos rfl]
      exact ⟨p, List.getElem?_set_self hi, h0, hf, hp, o⟩
    · rw [if_neg e]
      have h := E.slot j
      generalize get Γ j = sl at h ⊢
      cases sl with
      | non => trivial
      | val d => obtain ⟨w, e1, r⟩ := h; exact ⟨w, by rw [List.getElem?_set_ne (Ne.symm e)]; exact e1, r⟩
      | own d => obtain ⟨p, e1, h⟩ := h; exact ⟨p, by rw [List.getElem?_set_ne (Ne.symm e)]; exact e1, h⟩
      | obj => obtain ⟨p, e1, h⟩ := h; exact ⟨p, by rw [List.getElem?_set_ne (Ne.symm e)]; exact e1, h⟩
      | scr ns => obtain ⟨p, e1, h⟩ := h; exact ⟨p, by rw [List.getElem?_set_ne (Ne.symm e)]; exact e1, h⟩
  apart := fun j k d1 d2 q h1 h2 e1 e2 => by
    rw [get_set (by rw [E.len]; exact hi)] at h1 h2
    by_cases ej : j = i
    · by_cases ek : k = i
      · rw [ej, ek]
      · rw [if_neg ek] at h2
        rw [ej, List.getElem?_set_self hi] at e1
        rw [List.getElem?_set_ne (Ne.symm ek)] at e2
        cases e1
        exact absurd e2 (ho k d2 h2)
    · by_cases ek : k = i
      · rw [if_neg ej] at h1
        rw [ek, List.getElem?_set_self hi] at e2
        rw [List.getElem?_set_ne (Ne.symm ej)] at e1
        cases e2
        exact absurd e1 (ho j d1 h1)
      · rw [if_neg ej] at h1
        rw [if_neg ek] at h2
        rw [List.getElem?_set_ne (Ne.symm ej)] at e1
        rw [List.getElem?_set_ne (Ne.symm ek)] at e2
        exact E.apart j k d1 d2 q h1 h2 e1 e2
/-- less is known of a slot -/
theorem EnvOk.drop (E : EnvOk K pw H0 F H σ Γ) (i : Nat) : EnvOk K pw H0 F H σ (Γ.set i .non) where
  len := by simp [E.len]
  slot := fun j => by
    rcases Nat.lt_or_ge i Γ.length with hi | hi
    · rw [get_set hi]
      by_cases e : j = i
      · rw [if_pos e]; trivial
      · rw [if_neg e]; exact E.slot j
    · rw [List.set_eq_of_length_le hi]; exact E.slot j
  apart := fun j k d1 d2 p h1 h2 e1 e2 => by
    rcases Nat.lt_or_ge i Γ.length with hi | hi
    · rw [get_set hi] at h1 h2
      by_cases ej : j = i
      · rw [if_pos ej] at h1; cases h1
      · by_cases ek : k = i
        · rw [if_pos ek] at h2; cases h2
        · rw [if_neg ej] at h1
          rw [if_neg ek] at h2
          exact E.apart j k d1 d2 p h1 h2 e1 e2
    · rw [List.set_eq_of_length_le hi] at h1 h2
      exact E.apart j k d1 d2 p h1 h2 e1 e2
theorem EnvOk.kill (E : EnvOk K pw H0 F H σ Γ) (ks : List Nat) : EnvOk K pw H0 F H σ (kill ks Γ) := by
  unfold Ly.kill
  induction ks generalizing Γ with
  | nil => exact E
  | cons k ks ih => exact ih (E.drop k)
/-- an own thing is changed -/
theorem EnvOk.change (E : EnvOk K pw H0 F H σ Γ) {i : Nat} {p : Addr} {d d' : D} {o : HO} (hi : get Γ i = .own d) (hs : σ[i]? = some (some (.ref p))) (ho : OwnAt K F (upd H p o) p d') :
    EnvOk K pw H0 F (upd H p o) σ (Γ.set i (.own d')) where
  len := by simp [E.len]
  slot := fun j => by
    have hl : i < Γ.length := lt_of_get (by rw [hi]; exact fun z => nomatch z)
    rw [get_set hl]
    by_cases e : j = i
    · subst e
      rw [if_pos rfl]
      have h := E.slot j
      rw [hi] at h
      obtain ⟨q, e1, h0, hf, hp, _⟩ := h
      rw [hs] at e1
      cases e1
      exact ⟨p, hs, h0, hf, hp, ho⟩
    · rw [if_neg e]
      have h := E.slot j
      have ap := E.apart i j d
      generalize get Γ j = sl at h ap ⊢
      cases sl with
      | non => trivial
      | val d => exact h
      | obj => exact h
      | scr ns => exact h
      | own d2 =>
        obtain ⟨q, e1, h0, hf, hp, o2⟩ := h
        refine ⟨q, e1, h0, hf, hp, o2.mono (fun _ _ z => z) fun u z => ?_⟩
        rw [upd_ne]
        · exact z
        · intro z2
          subst z2
          exact e (ap d2 q hi rfl hs e1).symm
  apart := fun j k d1 d2 q h1 h2 e1 e2 => by
    have hl : i < Γ.length := lt_of_get (by rw [hi]; exact fun z => nomatch z)
    rw [get_set hl] at h1 h2
    have key : ∀ (m : Nat) (x : D), (if m = i then Sl.own d' else get Γ m) = .own x → ∃ y, get Γ m = .own y := fun m x h => by
      by_cases em : m = i
      · rw [em]; exact ⟨d, hi⟩
      · rw [if_neg em] at h; exact ⟨x, h⟩
    obtain ⟨y1, k1⟩ := key j d1 h1
    obtain ⟨y2, k2⟩ := key k d2 h2
    exact E.apart j k y1 y2 q k1 k2 e1 e2
end

/-! ### judgements -/
structure Base (K : Frag) (pw : Option Addr) (H0 F H : Hp) (σ : St) (Γ : Env) : Prop where
  s : Same F H
  w : WOk F H pw
  e : EnvOk K pw H0 F H σ Γ
inductive Md where
  | val | peek | fresh
def Res (K : Frag) (pw : Option Addr) (md : Md) (F' H H' : Hp) (v : V) (d : D) : Prop := match md with
  | .val => Rp K F' v d
  | .peek => RpH K pw F' H' v d
  | .fresh => ∃ p, v = .ref p ∧ H p = none ∧ F' p = none ∧ some p ≠ pw ∧ OwnAt K F' H' p d
section
variable {K : Frag} {pw : Option Addr} {H0 F H F' H' F2 H2 : Hp} {σ : St} {Γ : Env} {v : V} {d : D}
theorem Base.step (B : Base K pw H0 F H σ Γ) (s : Step pw F H F' H') : Base K pw H0 F' H' σ Γ := ⟨s.fh, s.w, B.e.step s⟩
theorem Base.refl (B : Base K pw H0 F H σ Γ) : Step pw F H F H := .refl B.s B.w
theorem RpH.step (r : RpH K pw F H v d) (s : Step pw F H F' H') (w : WOk F H pw) : RpH K pw F' H' v d := r.mono s.f s.keep w
theorem RpHL.step (w : WOk F H pw) (s : Step pw F H F' H') : ∀ {vs : List V} {ds : List D}, RpHL K pw F H vs ds → RpHL K pw F' H' vs ds
  | _, _, .nil => .nil
  | _, _, .cons h r => .cons (h.step s w) (RpHL.step w s r)
theorem RpL.peek (s : Same F H) (w : WOk F H pw) : ∀ {vs : List V} {ds : List D}, RpL K F vs ds → RpHL K pw F H vs ds
  | _, _, .nil => .nil
  | _, _, .cons h r => .cons (h.peek s w) (RpL.peek s w r)
end
/-- what stands behind a value that was reckoned -/
def Post (X : Cx) (pins : List (Addr × Obj)) (σ : St) (pw : Option Addr) (md : Md) (F H : Hp) (R : D → Prop) (u : Value) (s' : Shared) : Prop :=
  ∃ v F' H' d, Inv X pins σ H' s' ∧ RelV v u ∧ Step pw F H F' H' ∧ Res X.K pw md F' H H' v d ∧ R d
/-- e's value is f's -/
structure EO (X : Cx) (pw : Option Addr) (md : Md) (e : Expr) (f : Env → W D) : Prop where
  run : ∀ (pins : List (Addr × Obj)) (s : Shared) (σ : St) (H0 F H : Hp) (Γ : Env) (R : D → Prop), Inv X pins σ H s → Base X.K pw H0 F H σ Γ → f Γ R →
    wpAny (model X.prog X.w) X.A (eval e X.env) (Post X pins σ pw md F H R) X.xe s
def PostL (X : Cx) (pins : List (Addr × Obj)) (σ : St) (pw : Option Addr) (pk : Bool) (n : Nat) (F H : Hp) (R : List D → Prop) (us : List Value) (s' : Shared) : Prop :=
  ∃ vs F' H' ds, Inv X pins σ H' s' ∧ Vals vs us ∧ Step pw F H F' H' ∧ (if pk then RpHL X.K pw F' H' vs ds else RpL X.K F' vs ds) ∧ vs.length = n ∧ R ds
structure AO (X : Cx) (pw : Option Addr) (pk : Bool) (es : List Expr) (f : Env → W (List D)) : Prop where
  run : ∀ (pos : Pos) (pins : List (Addr × Obj)) (s : Shared) (σ : St) (H0 F H : Hp) (Γ : Env) (R : List D → Prop), Inv X pins σ H s → Base X.K pw H0 F H σ Γ → f Γ R →
    wpAny (model X.prog X.w) X.A (spliced (backTo pos (starEach es X.env))) (PostL X pins σ pw pk es.length F H R) X.xe s
def PostB (X : Cx) (pins : List (Addr × Obj)) (σ : St) (pw : Option Addr) (F H : Hp) (R : Bool → Prop) (b : Bool) (s' : Shared) : Prop :=
  ∃ F' H', Inv X pins σ H' s' ∧ Step pw F H F' H' ∧ R b
structure TO (X : Cx) (pw : Option Addr) (e : Expr) (f : Env → W D) : Prop where
  run : ∀ (pins : List (Addr × Obj)) (s : Shared) (σ : St) (H0 F H : Hp) (Γ : Env) (R : Bool → Prop), Inv X pins σ H s → Base X.K pw H0 F H σ Γ → f Γ (fun d => ∃ c, boolD d = some c ∧ R c) →
    wpAny (model X.prog X.w) X.A (isTrue e X.env (eval e X.env)) (PostB X pins σ pw F H R) X.xe s
/-- .. however the whole is reckoned -/
structure TW (X : Cx) (pw : Option Addr) (e : Expr) (f : Env → W D) : Prop where
  run : ∀ (wh : Sem Value) (pins : List (Addr × Obj)) (s : Shared) (σ : St) (H0 F H : Hp) (Γ : Env) (R : Bool → Prop), Inv X pins σ H s → Base X.K pw H0 F H σ Γ → f Γ (fun d => ∃ c, boolD d = some c ∧ R c) →
    wpAny (model X.prog X.w) X.A (isTrue e X.env wh) (PostB X pins σ pw F H R) X.xe s

section
variable {X : Cx} {pw : Option Addr} {md : Md} {e : Expr} {f : Env → W D}
def tE (K : Frag) (pw : Option Addr) (md : Md) (f : Env → W D) : TE := fun σ H Q => ∃ H0 F Γ, ∃ R : D → Prop, Base K pw H0 F H σ Γ ∧ f Γ R ∧ ∀ d F' H' v, R d → Step pw F H F' H' → Res K pw md F' H H' v d → Q v H'
theorem EO.pe (h : EO X pw md e f) : PE X e (tE X.K pw md f) := ⟨fun pins s σ H Q I ⟨H0, F, Γ, R, B, hf, k⟩ =>
  thn (h.run pins s σ H0 F H Γ R I B hf) fun u s' ⟨v, F', H', d, I', r, st, rs, hr⟩ => ⟨v, H', I', r, k d F' H' v hr st rs⟩⟩
theorem EO.of (h : PE X e (tE X.K pw md f)) : EO X pw md e f := ⟨fun pins s σ H0 F H Γ R I B hf =>
  thn (h.run pins s σ H (fun v H' => ∃ F' d, Step pw F H F' H' ∧ Res X.K pw md F' H H' v d ∧ R d) I ⟨H0, F, Γ, R, B, hf, fun d F' H' v hr st rs => ⟨F', d, st, rs, hr⟩⟩) fun u s' ⟨v, H', I', r, F', d, st, rs, hr⟩ => ⟨v, F', H', d, I', r, st, rs, hr⟩⟩
/-- from any PE: give its wish -/
theorem EO.by {t : TE} (h : PE X e t) (k : ∀ (σ : St) (H0 F H : Hp) (Γ : Env) (R : D → Prop), Base X.K pw H0 F H σ Γ → f Γ R → t σ H fun v H' => ∃ F' d, Step pw F H F' H' ∧ Res X.K pw md F' H H' v d ∧ R d) : EO X pw md e f :=
  ⟨fun pins s σ H0 F H Γ R I B hf => thn (h.run pins s σ H _ I (k σ H0 F H Γ R B hf)) fun u s' ⟨v, H', I', r, F', d, st, rs, hr⟩ => ⟨v, F', H', d, I', r, st, rs, hr⟩⟩
/-- a frozen value may be looked at -/
theorem EO.look (h : EO X pw .val e f) : EO X pw .peek e f := ⟨fun pins s σ H0 F H Γ R I B hf =>
  thn (h.run pins s σ H0 F H Γ R I B hf) fun u s' ⟨v, F', H', d, I', r, st, rs, hr⟩ => ⟨v, F', H', d, I', r, st, Rp.peek rs st.fh st.w, hr⟩⟩
end
end Ly

set_option maxRecDepth 100000
set_option maxHeartbeats 1000000
/-! The rules of expressions. -/
namespace Ly
open PySem L2

/-- an own thing becomes one that nobody changes -/
theorem freeze_ok {X : Cx} {pins : List (Addr × Obj)} {σ : St} {F H : Hp} {s : Shared} {pw : Option Addr} {p : Addr} {d : D} (I : Inv X pins σ H s) (hs : Same F H) (hw : WOk F H pw) (hf : F p = none) (hp : some p ≠ pw) (o : OwnAt X.K F H p d) :
    ∃ F' H', Inv X pins σ H' s ∧ Same F F' ∧ Same F' H' ∧ WOk F' H' pw ∧ (∀ a, a ≠ p → H' a = H a) ∧ (∀ a, a ≠ p → F' a = F a) ∧ Rp X.K F' (.ref p) d := by
  have hwk : ∀ u u' : HO, WOk (upd F p u) (upd H p u') pw := fun u u' => by
    cases pw with
    | none => trivial
    | some q =>
      obtain ⟨w0, l, n, ns, w1, w2, w3⟩ := hw
      have nq : q ≠ p := fun z => hp (by rw [z])
      refine ⟨by rw [upd_ne nq]; exact w0, l, n, ns, by rw [upd_ne nq]; exact w1, ?_, w3⟩
      rw [upd_ne]
      · exact w2
      · intro z
        rw [z, hf] at w2
        cases w2
  have ff : ∀ u : HO, Same F (upd F p u) := fun u a o e => by
    rw [upd_ne]
    · exact e
    · intro z
      rw [z, hf] at e
      cases e
  cases o with
  | @lst xs ds h r =>
    have e : upd H p (.lst xs) = H := by
      funext a
      unfold upd
      split
      · rename_i q; rw [q]; exact h.symm
      · rfl
    refine ⟨upd F p (.lst xs), H, I, ff _, fun a o q => ?_, by have := hwk (.lst xs) (.lst xs); rw [e] at this; exact this, fun _ _ => rfl, fun a q => upd_ne q, .lst upd_same (r.mono (ff _))⟩
    by_cases z : a = p
    · subst z
      rw [upd_same] at q
      rw [h]
      exact q
    · rw [upd_ne z] at q
      exact hs _ _ q
  | @dct kvs ps h r =>
    obtain ⟨od, I'⟩ := I.lock h trivial
    refine ⟨upd F p (.frz od (.dK kvs)), upd H p (.frz od (.dK kvs)), I', ff _, fun a o q => ?_, hwk _ _, fun a q => upd_ne q, fun a q => upd_ne q, .dct upd_same (r.mono (ff _))⟩
    by_cases z : a = p
    · subst z
      rw [upd_same] at q ⊢
      exact q
    · rw [upd_ne z] at q ⊢
      exact hs _ _ q

section
variable {X : Cx} {pw : Option Addr}
theorem EO.froz {e : Expr} {f : Env → W D} (h : EO X pw .fresh e f) : EO X pw .val e f := ⟨fun pins s σ H0 F H Γ R I B hf =>
  thn (h.run pins s σ H0 F H Γ R I B hf) fun u s' ⟨v, F', H', d, I', r, st, ⟨p, ev, np, fp, pp, o⟩, hr⟩ => by
    subst ev
    obtain ⟨F2, H2, I2, f1, f2, w2, k1, k2, rp⟩ := freeze_ok I' st.fh st.w fp pp o
    refine ⟨.ref p, F2, H2, d, I2, r, ⟨st.f.trans f1, f2, fun a o q hq => ?_, fun a q z => ?_, w2⟩, rp, hr⟩
    · rw [k1 a (fun z => by rw [z, np] at q; cases q)]
      exact st.keep a o q hq
    · by_cases ha : a = p
      · rw [ha]; exact np
      · rw [k2 a ha] at z
        exact st.new a q z⟩
/-- the wish of a TA -/
def tA (K : Frag) (pw : Option Addr) (pk : Bool) (n : Nat) (f : Env → W (List D)) : TA := fun σ H Q => ∃ H0 F Γ, ∃ R : List D → Prop, Base K pw H0 F H σ Γ ∧ f Γ R ∧ ∀ ds F' H' vs, R ds → Step pw F H F' H' → (if pk then RpHL K pw F' H' vs ds else RpL K F' vs ds) → vs.length = n → Q vs H'
theorem AO.pa {pk : Bool} {es : List Expr} {f : Env → W (List D)} (h : AO X pw pk es f) : PA X es (tA X.K pw pk es.length f) := ⟨fun pos pins s σ H Q I ⟨H0, F, Γ, R, B, hf, k⟩ =>
  thn (h.run pos pins s σ H0 F H Γ R I B hf) fun u s' ⟨vs, F', H', ds, I', r, st, rs, hl, hr⟩ => ⟨vs, H', I', r, k ds F' H' vs hr st rs hl⟩⟩

theorem starEach_cons {e : Expr} {es : List Expr} {env : PySem.Env} (h : ∀ x p, e ≠ .Starred x p) : starEach (e :: es) env = (false, eval e env) :: starEach es env := by
  cases e <;> first | rfl | exact absurd rfl (h _ _)
theorem ao_nil {pk : Bool} : AO X pw pk [] (fun _ => W.ok []) := ⟨fun pos pins s σ H0 F H Γ R I B hf =>
  Calls.spliced_nil ⟨[], F, H, [], I, .nil, B.refl, by cases pk <;> exact .nil, rfl, hf⟩⟩
theorem ao_cons {pk : Bool} {e : Expr} {es : List Expr} {f : Env → W D} {g : Env → W (List D)} (ns : ∀ x p, e ≠ .Starred x p) (he : EO X pw (if pk then .peek else .val) e f) (hs : AO X pw pk es g) :
    AO X pw pk (e :: es) (fun Γ => W.bind (f Γ) fun d => W.bind (g Γ) fun ds => W.ok (d :: ds)) := ⟨fun pos pins s σ H0 F H Γ R I B hf => by
  rw [starEach_cons ns]
  show wpAny _ _ (spliced ((false, eval e X.env) :: backTo pos (starEach es X.env))) _ _ s
  refine Calls.spliced_cons (thn (he.run pins s σ H0 F H Γ _ I B hf) fun u s1 ⟨v, F1, H1, d, I1, r1, st1, rs1, hr1⟩ => ?_)
  refine thn (hs.run pos pins s1 σ H0 F1 H1 Γ _ I1 (B.step st1) hr1) fun us s2 ⟨vs, F2, H2, ds, I2, r2, st2, rs2, hl2, hr2⟩ => ?_
  refine ⟨v :: vs, F2, H2, d :: ds, I2, .cons r1 r2, st1.trans st2, ?_, by simp [hl2], hr2⟩
  cases pk with
  | true => exact .cons (RpH.step rs1 st2 st1.w) rs2
  | false => exact .cons (Rp.mono st2.f rs1) rs2⟩

/-! ### names, constants -/
theorem eo_var {i : Nat} {x : Str} {pos : Pos} (hN : X.N[i]? = some x) (hv : Vis X.env.scope x) (hd : (x == ("__debug__" : Str)) = false) (hcd : (x == ("__classdict__" : Str)) = false) :
    EO X pw .val (.Name x pos) (fun Γ => W.opt (vals (get Γ i))) :=
  .by (pe_var hN hv hd hcd) fun σ H0 F H Γ R B hf => by
    have h := B.e.slot i
    obtain ⟨dd, hd, hf⟩ := hf
    generalize get Γ i = sl at h hd
    cases sl with
    | non => cases hd
    | obj => cases hd
    | scr ns => cases hd
    | own d => cases hd
    | val d =>
      cases hd
      obtain ⟨v, e, r⟩ := h
      exact ⟨v, e, F, _, B.refl, r, hf⟩
theorem eo_varP {i : Nat} {x : Str} {pos : Pos} (hN : X.N[i]? = some x) (hv : Vis X.env.scope x) (hd : (x == ("__debug__" : Str)) = false) (hcd : (x == ("__classdict__" : Str)) = false) :
    EO X pw .peek (.Name x pos) (fun Γ => W.opt (peek (get Γ i))) :=
  .by (pe_var hN hv hd hcd) fun σ H0 F H Γ R B hf => by
    have h := B.e.slot i
    obtain ⟨dd, hd, hf⟩ := hf
    generalize get Γ i = sl at h hd
    cases sl with
    | non => cases hd
    | obj => cases hd
    | scr ns => cases hd
    | val d =>
      cases hd
      obtain ⟨v, e, r⟩ := h
      exact ⟨v, e, F, _, B.refl, r.peek B.s B.w, hf⟩
    | own d =>
      cases hd
      obtain ⟨p, e, _, _, hp, o⟩ := h
      exact ⟨_, e, F, _, B.refl, o.peek hp, hf⟩
theorem eo_const {v : V} {d : D} {e : Expr} (h : PE X e (tC v)) (r : ∀ F, Rp X.K F v d) : EO X pw .val e (fun _ => W.ok d) :=
  .by h fun σ H0 F H Γ R B hf => ⟨F, d, B.refl, r F, hf⟩

/-! ### new things -/
theorem WOk.upd {F H : Hp} {p : Addr} {o : HO} (w : WOk F H pw) (hp : H p = none) : WOk F (upd H p o) pw := by
  cases pw with
  | none => trivial
  | some q =>
    obtain ⟨w0, l, n, ns, w1, w2, w3⟩ := w
    refine ⟨w0, l, n, ns, ?_, w2, w3⟩
    rw [upd_ne]
    · exact w1
    · intro z
      rw [z, hp] at w1
      cases w1
theorem ne_pw {F H : Hp} {p : Addr} (w : WOk F H pw) (hp : H p = none) : some p ≠ pw := by
  intro z
  subst z
  obtain ⟨_, l, n, ns, w1, _⟩ := w
  rw [hp] at w1
  cases w1
theorem none_of_same {F H : Hp} {p : Addr} (s : Same F H) (hp : H p = none) : F p = none := by
  cases q : F p with
  | none => rfl
  | some o => rw [s p o q] at hp; cases hp
/-- a new thing, its own -/
theorem Step.laid {F H : Hp} {p : Addr} {o : HO} (s : Same F H) (w : WOk F H pw) (hp : H p = none) : Step pw F H F (L2.upd H p o) where
  f := fun _ _ e => e
  fh := fun a u e => by
    rw [upd_ne]
    · exact s a u e
    · intro z
      rw [z, none_of_same s hp] at e
      cases e
  keep := fun a u e _ => by rw [upd_ne (ne_of_none e hp)]; exact e
  new := fun _ e n => absurd e n
  w := w.upd hp
/-- a new thing that nobody changes -/
theorem Step.laidF {F H : Hp} {p : Addr} {o : HO} (s : Same F H) (w : WOk F H pw) (hp : H p = none) : Step pw F H (L2.upd F p o) (L2.upd H p o) where
  f := fun a u e => by rw [upd_ne (ne_of_none e (none_of_same s hp))]; exact e
  fh := fun a u e => by
    by_cases z : a = p
    · subst z
      rw [upd_same] at e ⊢
      exact e
    · rw [upd_ne z] at e ⊢
      exact s a u e
  keep := fun a u e _ => by rw [upd_ne (ne_of_none e hp)]; exact e
  new := fun a e n => by
    by_cases z : a = p
    · rw [z]; exact hp
    · rw [upd_ne z] at n
      exact absurd e n
  w := by
    have hf := none_of_same s hp
    cases pw with
    | none => trivial
    | some q =>
      have nq : q ≠ p := fun z => ne_pw w hp (by rw [z])
      obtain ⟨w0, l, n, ns, w1, w2, w3⟩ := w
      refine ⟨by rw [upd_ne nq]; exact w0, l, n, ns, by rw [upd_ne nq]; exact w1, ?_, w3⟩
      rw [upd_ne (ne_of_none w2 hf)]
      exact w2
theorem Res.list {K : Frag} {F H H1 : Hp} {p : Addr} {xs : List V} {ds : List D} (st : Step pw F H F H1) (hp : H1 p = none) (r : RpL K F xs ds) (hn : H p = none) : Res K pw .fresh F H (L2.upd H1 p (.lst xs)) (.ref p) (.list ds) :=
  ⟨p, rfl, hn, none_of_same st.fh hp, ne_pw st.w hp, .lst upd_same r⟩
theorem none_back {F H F1 H1 : Hp} {p : Addr} (w : WOk F H pw) (st : Step pw F H F1 H1) (hp : H1 p = none) : H p = none := by
  cases q : H p with
  | none => rfl
  | some o =>
    by_cases z : some p = pw
    · exact absurd z (ne_pw st.w hp)
    · rw [st.keep p o q z] at hp
      cases hp
theorem lim_eq : lim = sizeLine := by rw [sizeLine_eq]; rfl
theorem le_line {n : Nat} (h : n ≤ 1000) : n ≤ sizeLine := by rw [← lim_eq]; exact Nat.le_trans h (by decide)

theorem eo_tup {es : List Expr} {g : Env → W (List D)} {k : Nat} {pos : Pos} (h : AO X pw false es g) (hl : es.length ≤ 1000) : EO X pw .val (.Tuple es k pos) (fun Γ => W.bind (g Γ) fun ds => W.ok (.tuple ds)) :=
  .by (pe_tup h.pa) fun σ H0 F H Γ R B hf => ⟨H0, F, Γ, _, B, hf, fun ds F1 H1 vs hr st rs hv => ⟨by rw [hv]; exact le_line hl, fun p hp =>
    ⟨L2.upd F1 p (.tup vs), .tuple ds, st.trans (.laidF st.fh st.w hp), .tup (.of upd_same) (RpL.mono (Step.laidF (o := .tup vs) st.fh st.w hp).f rs), hr⟩⟩⟩
theorem eo_lst {es : List Expr} {g : Env → W (List D)} {pos : Pos} (h : AO X pw false es g) (hl : es.length ≤ 1000) : EO X pw .fresh (.List es pos) (fun Γ => W.bind (g Γ) fun ds => W.ok (.list ds)) :=
  .by (pe_lst h.pa) fun σ H0 F H Γ R B hf => ⟨H0, F, Γ, _, B, hf, fun ds F1 H1 vs hr st rs hv => ⟨by rw [hv]; exact le_line hl, fun p hp =>
    ⟨F1, .list ds, st.trans (.laid st.fh st.w hp), ⟨p, rfl, none_back B.w st hp, none_of_same st.fh hp, ne_pw st.w hp, .lst upd_same rs⟩, hr⟩⟩⟩
end
end Ly

set_option maxRecDepth 100000
set_option maxHeartbeats 1000000
/-! Operators, comparisons. -/
namespace Ly
open PySem L2

/-- a value that an operation gives -/
def PostV (X : Cx) (pins : List (Addr × Obj)) (σ : St) (pw : Option Addr) (md : Md) (F H : Hp) (d : D) (u : Value) (s' : Shared) : Prop :=
  ∃ v F' H', Inv X pins σ H' s' ∧ RelV v u ∧ Step pw F H F' H' ∧ Res X.K pw md F' H H' v d
def OpOk (X : Cx) (pw : Option Addr) (md : Md) (f : Value → Value → Sem Value) (g : D → D → Option D) : Prop :=
  ∀ (pins : List (Addr × Obj)) (s : Shared) (σ : St) (F H : Hp) (a b : V) (v u : Value) (x y z : D), Inv X pins σ H s → Same F H → WOk F H pw → RelV a v → RelV b u → RpH X.K pw F H a x → RpH X.K pw F H b y → g x y = some z →
    wpAny (model X.prog X.w) X.A (f v u) (PostV X pins σ pw md F H z) X.xe s
section
variable {X : Cx} {pw : Option Addr}
theorem OpOk.from {md : Md} {f : Value → Value → Sem Value} {g : D → D → Option D} {r : R2} (h : OpR X f r)
    (k : ∀ (F H : Hp) (a b : V) (x y z : D), Same F H → WOk F H pw → RpH X.K pw F H a x → RpH X.K pw F H b y → g x y = some z → r a b H fun v H' => ∃ F', Step pw F H F' H' ∧ Res X.K pw md F' H H' v z) : OpOk X pw md f g :=
  fun pins s σ F H a b v u x y z I hs hw ra rb rx ry e => thn (h pins s σ H a b v u _ I ra rb (k F H a b x y z hs hw rx ry e)) fun u' s' ⟨w, H', I', r, F', st, rs⟩ => ⟨w, F', H', I', r, st, rs⟩
/-- by cases on the operands -/
theorem OpOk.split {md : Md} {f : Value → Value → Sem Value} {g g1 g2 : D → D → Option D} (h1 : OpOk X pw md f g1) (h2 : OpOk X pw md f g2) (e : ∀ x y z, g x y = some z → g1 x y = some z ∨ g2 x y = some z) : OpOk X pw md f g :=
  fun pins s σ F H a b v u x y z I hs hw ra rb rx ry q => (e x y z q).elim (h1 pins s σ F H a b v u x y z I hs hw ra rb rx ry) (h2 pins s σ F H a b v u x y z I hs hw ra rb rx ry)
theorem eo_op {md : Md} {o : Operator} {g : D → D → Option D} {a b : Expr} {fa fb : Env → W D} {pos : Pos} (ho : OpOk X pw md (binaryOp o) g) (ha : EO X pw .peek a fa) (hb : EO X pw .peek b fb) :
    EO X pw md (.BinOp a o b pos) (fun Γ => W.bind (fa Γ) fun x => W.bind (fb Γ) fun y => W.opt (g x y)) := ⟨fun pins s σ H0 F H Γ R I B hf => by
  refine wpAny_BinOp (thn (ha.run pins s σ H0 F H Γ _ I B hf) fun u s1 ⟨v, F1, H1, x, I1, r1, st1, rs1, hr1⟩ => ?_)
  refine thn (hb.run pins s1 σ H0 F1 H1 Γ _ I1 (B.step st1) hr1) fun u2 s2 ⟨v2, F2, H2, y, I2, r2, st2, rs2, hr2⟩ => ?_
  obtain ⟨z, hz, hr⟩ := hr2
  refine thn (ho pins s2 σ F2 H2 v v2 u u2 x y z I2 st2.fh st2.w r1 r2 (RpH.step rs1 st2 st1.w) rs2 hz) fun u3 s3 ⟨v3, F3, H3, I3, r3, st3, rs3⟩ => ?_
  refine ⟨v3, F3, H3, z, I3, r3, (st1.trans st2).trans st3, ?_, hr⟩
  cases md with
  | val => exact rs3
  | peek => exact rs3
  | fresh =>
    obtain ⟨p, e1, e2, e3⟩ := rs3
    exact ⟨p, e1, none_back B.w (st1.trans st2) e2, e3⟩⟩
theorem gd_some {α : Type} {b : Bool} {a c : α} (h : gd b a = some c) : b = true ∧ a = c := by
  unfold gd at h
  cases b with
  | true => simpa using h
  | false => simp at h

/-! ### + - * // % -/
def isI2 (f : Int → Int → Option D) : D → D → Option D
  | .int a, .int b => f a b
  | _, _ => none
theorem ok_int {f : Value → Value → Sem Value} {C : Int → Int → Prop} {g : Int → Int → Int} {q : Int → Int → Option D} (h : OpR X f (rI C fun i j => .int (g i j))) (e : ∀ i j z, q i j = some z → C i j ∧ z = .int (g i j)) : OpOk X pw .val f (isI2 q) :=
  .from h fun F H a b x y z hs hw rx ry hz => by
    cases rx <;> cases ry <;> try (exfalso; revert hz; simp [isI2]; done)
    rename_i i j
    obtain ⟨hc, rfl⟩ := e i j z hz
    exact ⟨i, j, rfl, rfl, hc, F, .refl hs hw, .int _⟩
theorem ok_int0 {f : Value → Value → Sem Value} {g : Int → Int → Int} {q : Int → Int → Option D} (h : OpR X f (rI0 fun i j => .int (g i j))) (e : ∀ i j z, q i j = some z → z = .int (g i j)) : OpOk X pw .val f (isI2 q) :=
  .from h fun F H a b x y z hs hw rx ry hz => by
    cases rx <;> cases ry <;> try (exfalso; revert hz; simp [isI2]; done)
    rename_i i j
    obtain rfl := e i j z hz
    exact ⟨i, j, rfl, rfl, F, .refl hs hw, .int _⟩
def addS : D → D → Option D
  | .str a, .str b => gd (decide (a.length + b.length ≤ lim)) (.str (a ++ b))
  | _, _ => none
def addT : D → D → Option D
  | .tuple a, .tuple b => gd (decide (a.length + b.length ≤ lim)) (.tuple (a ++ b))
  | _, _ => none
def addL : D → D → Option D
  | .list a, .list b => gd (decide (a.length + b.length ≤ lim)) (.list (a ++ b))
  | _, _ => none
theorem ok_addS {f : Value → Value → Sem Value} (h : OpR X f (fun x y H Q => ∃ i j, x = .str i ∧ y = .str j ∧ i.length + j.length ≤ sizeLine ∧ Q (.str (i ++ j)) H)) : OpOk X pw .val f addS :=
  .from h fun F H a b x y z hs hw rx ry hz => by
    cases rx <;> cases ry <;> try (exfalso; revert hz; simp [addS]; done)
    obtain ⟨h1, rfl⟩ := gd_some hz
    exact ⟨_, _, rfl, rfl, by rw [← lim_eq]; exact of_decide_eq_true h1, F, .refl hs hw, .str _⟩
theorem ok_addT : OpOk X pw .val (binaryOp .Add) addT :=
  .from op_catA fun F H a b x y z hs hw rx ry hz => by
    cases rx <;> cases ry <;> try (exfalso; revert hz; simp [addT]; done)
    rename_i a xs ds h1 r1 b ys es h2 r2
    obtain ⟨hl, rfl⟩ := gd_some hz
    refine ⟨a, b, xs, ys, rfl, rfl, Same.sqT hs h1, Same.sqT hs h2, by rw [r1.length, r2.length, ← lim_eq]; exact of_decide_eq_true hl, fun e => ?_, fun _ e => ?_, fun _ _ p hp => ?_⟩
    · subst e
      cases r1
      exact ⟨F, .refl hs hw, .tup h2 r2⟩
    · subst e
      cases r2
      exact ⟨F, .refl hs hw, .tup h1 (by rw [List.append_nil]; exact r1)⟩
    · have st := Step.laidF (o := .tup (xs ++ ys)) hs hw hp
      exact ⟨_, st, .tup (.of upd_same) (RpL.mono st.f (r1.append r2))⟩
theorem ok_addL : OpOk X pw .fresh (binaryOp .Add) addL :=
  .from op_cat fun F H a b x y z hs hw rx ry hz => by
    cases rx <;> cases ry <;> try (exfalso; revert hz; simp [addL]; done)
    rename_i a xs ds h1 r1 b ys es h2 r2
    obtain ⟨hl, rfl⟩ := gd_some hz
    refine ⟨a, b, xs, ys, rfl, rfl, h1, h2, by rw [r1.length, r2.length, ← lim_eq]; exact of_decide_eq_true hl, fun p hp => ?_⟩
    exact ⟨F, .laid hs hw hp, p, rfl, hp, none_of_same hs hp, ne_pw hw hp, .lst upd_same (r1.append r2)⟩
def mulL : D → D → Option D
  | .list a, .int k => gd (decide (k < 9223372036854775808) && decide (-9223372036854775808 ≤ k) && decide (a.length * k.toNat ≤ lim)) (.list (List.replicate k.toNat a).flatten)
  | _, _ => none
theorem ok_mulL : OpOk X pw .fresh (binaryOp .Mult) mulL :=
  .from op_rep fun F H a b x y z hs hw rx ry hz => by
    cases rx <;> cases ry <;> try (exfalso; revert hz; simp [mulL]; done)
    rename_i a xs ds h1 r1 k
    obtain ⟨hl, rfl⟩ := gd_some hz
    simp only [Bool.and_eq_true, decide_eq_true_eq] at hl
    refine ⟨a, k, xs, rfl, rfl, h1, by omega, by omega, by rw [r1.length, ← lim_eq]; exact hl.2, fun p hp => ?_⟩
    exact ⟨F, .laid hs hw hp, p, rfl, hp, none_of_same hs hp, ne_pw hw hp, .lst upd_same (r1.rep _)⟩
/-- a new list, frozen at once -/
theorem OpOk.froz {f : Value → Value → Sem Value} {g : D → D → Option D} (h : OpOk X pw .fresh f g) : OpOk X pw .val f g :=
  fun pins s σ F H a b v u x y z I hs hw ra rb rx ry e => thn (h pins s σ F H a b v u x y z I hs hw ra rb rx ry e) fun u' s' ⟨w, F', H', I', r, st, ⟨p, ev, np, fp, pp, o⟩⟩ => by
    subst ev
    obtain ⟨F2, H2, I2, f1, f2, w2, k1, k2, rp⟩ := freeze_ok I' st.fh st.w fp pp o
    refine ⟨.ref p, F2, H2, I2, r, ⟨st.f.trans f1, f2, fun a o q hq => ?_, fun a q z => ?_, w2⟩, rp⟩
    · rw [k1 a (fun z => by rw [z, np] at q; cases q)]
      exact st.keep a o q hq
    · by_cases ha : a = p
      · rw [ha]; exact np
      · rw [k2 a ha] at z
        exact st.new a q z
theorem mulOk_c {i j : Int} (h : mulOk i j = true) : CMul i j := by
  unfold mulOk at h
  simp only [Bool.or_eq_true, decide_eq_true_eq] at h
  unfold CMul
  have e : (2 : Int) ^ 64 = 18446744073709551616 := by decide
  rw [e]
  omega
theorem ok_bin (o : Bop) : OpOk X pw .val (binaryOp (match o with | .add => .Add | .sub => .Sub | .mul => .Mult | .fdiv => .FloorDiv | .mod => .Mod | .pow => .Pow)) (binD o) := by
  cases o with
  | add =>
    refine OpOk.split (g1 := isI2 fun i j => some (.int (i + j))) (g2 := fun x y => (addS x y).or ((addT x y).or (addL x y))) (ok_int0 op_add fun i j z e => (Option.some.inj e).symm) (OpOk.split (g1 := addS) (g2 := fun x y => (addT x y).or (addL x y)) (ok_addS op_add_str)
      (OpOk.split (g1 := addT) (g2 := addL) ok_addT ok_addL.froz ?_) ?_) ?_
    · intro x y z h
      cases x <;> cases y <;> simp [addT, addL] at h ⊢ <;> exact h
    · intro x y z h
      cases x <;> cases y <;> simp [addS, addT, addL] at h ⊢ <;> exact h
    · intro x y z h
      cases x <;> cases y <;> simp [binD, addD, addS, addT, addL, isI2] at h ⊢ <;> exact h
  | sub =>
    refine OpOk.split (g1 := isI2 fun i j => some (.int (i - j))) (g2 := isI2 fun i j => some (.int (i - j))) (ok_int0 op_sub fun i j z e => (Option.some.inj e).symm) (ok_int0 op_sub fun i j z e => (Option.some.inj e).symm) fun x y z h => .inl ?_
    cases x <;> cases y <;> simp [binD, isI2] at h ⊢ <;> exact h
  | mul =>
    refine OpOk.split (g1 := isI2 fun i j => gd (mulOk i j) (.int (i * j))) (g2 := mulL) (ok_int op_mul fun i j z e => ?_) ok_mulL.froz fun x y z h => ?_
    · obtain ⟨h1, rfl⟩ := gd_some e
      exact ⟨mulOk_c h1, rfl⟩
    · cases x <;> cases y <;> simp [binD, mulD, isI2, mulL] at h ⊢ <;> first | exact .inl h | exact h
  | fdiv =>
    refine OpOk.split (g1 := isI2 fun i j => gd (decide (0 < j) && decide (j < 1073741824)) (.int (i / j))) (g2 := fun _ _ => none) (ok_int op_fdiv fun i j z e => ?_) (fun _ _ _ _ _ _ _ _ _ _ _ _ _ _ _ _ _ _ _ e => nomatch e) fun x y z h => .inl ?_
    · obtain ⟨h1, rfl⟩ := gd_some e
      simp only [Bool.and_eq_true, decide_eq_true_eq] at h1
      exact ⟨h1, rfl⟩
    · cases x <;> cases y <;> simp [binD, isI2] at h ⊢ <;> exact h
  | mod =>
    refine OpOk.split (g1 := isI2 fun i j => gd (decide (0 < j)) (.int (i % j))) (g2 := fun _ _ => none) (ok_int op_mod fun i j z e => ?_) (fun _ _ _ _ _ _ _ _ _ _ _ _ _ _ _ _ _ _ _ e => nomatch e) fun x y z h => .inl ?_
    · obtain ⟨h1, rfl⟩ := gd_some e
      simp only [decide_eq_true_eq] at h1
      exact ⟨h1, rfl⟩
    · cases x <;> cases y <;> simp [binD, isI2] at h ⊢ <;> exact h
  | pow =>
    refine OpOk.split (g1 := isI2 fun i j => gd (decide (0 ≤ j) && decide (j ≤ 1000000) && decide (i.natAbs < 2 ^ 64)) (.int (i ^ j.toNat))) (g2 := fun _ _ => none) (ok_int op_pow fun i j z e => ?_) (fun _ _ _ _ _ _ _ _ _ _ _ _ _ _ _ _ _ _ _ e => nomatch e) fun x y z h => .inl ?_
    · obtain ⟨h1, rfl⟩ := gd_some e
      rw [Bool.and_eq_true, Bool.and_eq_true, decide_eq_true_eq, decide_eq_true_eq, decide_eq_true_eq] at h1
      exact ⟨⟨h1.1.1, h1.1.2, h1.2⟩, rfl⟩
    · cases x <;> cases y <;> simp [binD, isI2] at h ⊢ <;> exact h
end
end Ly

set_option maxRecDepth 100000
set_option maxHeartbeats 1000000
/-! Comparisons. -/
namespace Ly
open PySem L2

mutual
theorem Rp.dp {K : Frag} {F H : Hp} (s : Same F H) : ∀ {v : V} {d : D}, Rp K F v d → d.canLay0 = true → Dp K H v d
  | _, _, .non, _ => .non
  | _, _, .bl b, _ => .bl b
  | _, _, .int i, _ => .int i
  | _, _, .str x, _ => .str x
  | _, _, .lst h r, c => .lst (.of (s _ _ h)) (RpL.dp s r (by simpa only [PyData.canLay0] using c))
  | _, _, .tup h r, c => .tup (Same.sqT s h) (RpL.dp s r (by simpa only [PyData.canLay0] using c))
  | _, _, .dct _ _, c => by simp [PyData.canLay0] at c
theorem RpL.dp {K : Frag} {F H : Hp} (s : Same F H) : ∀ {v : List V} {d : List D}, RpL K F v d → PyData.canLayAll0 d = true → DpAll K H v d
  | _, _, .nil, _ => .nil
  | _, _, .cons h r, c => by
    simp only [PyData.canLayAll0, Bool.and_eq_true] at c
    exact .cons (Rp.dp s h c.1) (RpL.dp s r c.2)
end
theorem RpH.dp {K : Frag} {pw : Option Addr} {F H : Hp} {v : V} {d : D} (r : RpH K pw F H v d) (s : Same F H) (c : d.canLay0 = true) : Dp K H v d := by
  cases r with
  | non => exact .non
  | bl b => exact .bl b
  | int i => exact .int i
  | str x => exact .str x
  | lst h r => exact .lst (.of h) (r.dp s (by simpa only [PyData.canLay0] using c))
  | tup h r => exact .tup (Same.sqT s h) (r.dp s (by simpa only [PyData.canLay0] using c))
  | dct h _ r => simp [PyData.canLay0] at c
theorem sh_lay {d : D} (h : sh d = true) : d.canLay0 = true := SeqAt.canLay_of_shaped h

section
variable {X : Cx} {pw : Option Addr}
/-- an operation that gives a truth value and makes nothing -/
theorem OpOk.bool {f : Value → Value → Sem Value} {g : D → D → Option Bool} {r : R2} (h : OpR X f r)
    (k : ∀ (F H : Hp) (a b : V) (x y : D) (z : Bool) (Q : VK), Same F H → WOk F H pw → RpH X.K pw F H a x → RpH X.K pw F H b y → g x y = some z → Q (.bl z) H → r a b H Q) : OpOk X pw .val f (fun x y => (g x y).map .bool) :=
  .from h fun F H a b x y z hs hw rx ry hz => by
    obtain ⟨c, hc, rfl⟩ := Option.map_eq_some_iff.mp hz
    exact k F H a b x y c _ hs hw rx ry hc ⟨F, .refl hs hw, .bl c⟩
theorem OpOk.splitB {f : Value → Value → Sem Value} {g g1 g2 : D → D → Option Bool} (h1 : OpOk X pw .val f (fun x y => (g1 x y).map .bool)) (h2 : OpOk X pw .val f (fun x y => (g2 x y).map .bool)) (e : ∀ x y z, g x y = some z → g1 x y = some z ∨ g2 x y = some z) :
    OpOk X pw .val f (fun x y => (g x y).map .bool) :=
  OpOk.split h1 h2 fun x y z h => by
    obtain ⟨c, hc, rfl⟩ := Option.map_eq_some_iff.mp h
    rcases e x y c hc with q | q <;> rw [q]
    · exact .inl rfl
    · exact .inr rfl

/-! ### == -/
def eqAtom : D → D → Option Bool
  | .int a, .int b => some (a == b)
  | .str a, .str b => some (a == b)
  | .bool a, .bool b => some (a == b)
  | .none, .none => some true
  | _, _ => none
def eqDict : D → D → Option Bool
  | .dict a, .dict b => gd (!(a.length == b.length) || ((a.all fun p => sh p.2) && (b.all fun p => sh p.2))) (eqKV a b)
  | _, _ => none
def eqDeep (x y : D) : Option Bool := gd (sh x && sh y) (PyData.eqv x y)
theorem eqD_cases {x y : D} {z : Bool} (h : eqD x y = some z) : eqAtom x y = some z ∨ eqDict x y = some z ∨ eqDeep x y = some z := by
  cases x <;> cases y <;> first | exact .inl h | exact .inr (.inl h) | exact .inr (.inr h)
theorem hits_of {K : Frag} {F : Hp} {s : Shared} {A : Around} (hr : ∀ v d u, Rp K F v d → sh d = true → RelV v u → ∃ as, Reads s.heap u d as) (hu : A.in1.units + 64 < cLine)
    {kb : List (Key × V)} {pb : List (D × D)} {vb : List (Key × Value)} (rb : RpK K F kb pb) (sb : (pb.all fun p => sh p.2) = true) (ub : KV kb vb) : ∀ {ka : List (Key × V)} {pa : List (D × D)} {va : List (Key × Value)}, RpK K F ka pa → (pa.all fun p => sh p.2) = true → KV ka va →
    PySem.W.KeqHits A.in1 s vb va (pa.all fun p => match getD pb p.1 with | none => false | some y => PyData.eqv p.2 y)
  | _, _, _, .nil, _, .nil => .nil
  | _, _, (k', u) :: va, @RpK.cons _ _ k v ka d pa h r, sa, .cons ⟨ek, ru⟩ t => by
    rw [List.all_cons, Bool.and_eq_true] at sa
    have ek : k = k' := ek
    subst ek
    rw [List.all_cons]
    have hv := ub.val k
    rcases rb.get k with ⟨e1, e2⟩ | ⟨v2, d2, e1, e2, r2⟩
    · rw [e1] at hv
      simp only [e2, Bool.false_and]
      refine .miss ?_
      cases q : valueAt vb k with
      | none => rfl
      | some _ => rw [q] at hv; exact hv.elim
    · rw [e1] at hv
      simp only [e2]
      cases q : valueAt vb k with
      | none => rw [q] at hv; exact hv.elim
      | some u2 =>
        rw [q] at hv
        have sd2 : sh d2 = true := by
          have : ∃ p ∈ pb, p.2 = d2 := by
            unfold getD at e2
            obtain ⟨p, hp, rfl⟩ := Option.map_eq_some_iff.mp e2
            exact ⟨p, List.mem_of_find?_eq_some hp, rfl⟩
          obtain ⟨p, hp, rfl⟩ := this
          exact List.all_eq_true.mp sb p hp
        obtain ⟨as, q1⟩ := hr v d u h sa.1 ru
        obtain ⟨bs, q2⟩ := hr v2 d2 u2 r2 sd2 hv
        exact .hit q (PySem.W.keq_at q1 q2 sa.1 sd2 hu) (hits_of hr hu rb sb ub r sa.2 t)
theorem ok_eqDict (neg : Bool) (hu : X.A.units + 66 < cLine) : OpOk X pw .val (compareOp (if neg then .NotEq else .Eq)) (fun x y => (eqDict x y).map fun c => .bool (if neg then !c else c)) := by
  intro pins s σ F H a b v u x y z I hs hw ra rb rx ry e
  cases rx <;> cases ry <;> try (exfalso; revert e; simp [eqDict]; done)
  rename_i a ka pa h1 n1 r1 b kb pb h2 n2 r2
  cases ra
  cases rb
  obtain ⟨c, hc, rfl⟩ := Option.map_eq_some_iff.mp e
  obtain ⟨hg, rfl⟩ := gd_some hc
  obtain ⟨_, ya, va, ua, da⟩ := dk_rd I.hok h1
  obtain ⟨_, yb, vb, ub, db⟩ := dk_rd I.hok h2
  have hits : va.length = vb.length → _ := fun el => by
    have el2 : (pa.length == pb.length) = true := by rw [← r1.length, ← r2.length, ua.length, ub.length]; simpa using el
    rw [el2, Bool.not_true, Bool.false_or, Bool.and_eq_true] at hg
    exact hits_of (A := X.A) (s := s) (fun v d u h hsd ru => Dp.reads I d v u (Rp.dp hs h (sh_lay hsd)) ru) (by show X.A.units + 1 + 64 < cLine; omega) r2 hg.2 ub r1 hg.1 ua
  have el : (va.length == vb.length) = (pa.length == pb.length) := by rw [← ua.length, ← ub.length, r1.length, r2.length]
  cases neg with
  | false =>
    refine PySem.W.keq_eq ya yb da db (by omega) hits ?_
    rw [el]
    exact ⟨.bl _, F, H, I, rfl, .refl hs hw, .bl _⟩
  | true =>
    refine PySem.W.keq_ne ya yb da db (by omega) hits ?_
    rw [el]
    exact ⟨.bl _, F, H, I, rfl, .refl hs hw, .bl _⟩
theorem ok_eq (hu : X.A.units + 66 < cLine) : OpOk X pw .val (compareOp .Eq) (fun x y => (eqD x y).map .bool) :=
  .splitB (g1 := eqAtom) (g2 := fun x y => (eqDict x y).or (eqDeep x y))
    (.bool op_eq fun F H a b x y z Q hs hw rx ry hz q => by
      cases rx <;> cases ry <;> try (exfalso; revert hz; simp [eqAtom]; done)
      · cases hz; exact ⟨rfl, by simpa using q⟩
      · cases hz; exact ⟨rfl, by rw [dec_bl]; exact q⟩
      · cases hz; exact ⟨rfl, by rw [dec_int]; exact q⟩
      · cases hz; exact ⟨rfl, by rw [dec_str]; exact q⟩)
    (.splitB (g1 := eqDict) (g2 := eqDeep) (ok_eqDict false hu)
      (.bool (op_eqD (by omega)) fun F H a b x y z Q hs hw rx ry hz q => by
        obtain ⟨h1, rfl⟩ := gd_some hz
        rw [Bool.and_eq_true] at h1
        exact ⟨x, y, rx.dp hs (sh_lay h1.1), ry.dp hs (sh_lay h1.2), h1.1, h1.2, q⟩)
      fun x y z h => by
        cases e : eqDict x y with
        | none => rw [e] at h; exact .inr h
        | some c => rw [e] at h; exact .inl h)
    fun x y z h => by
      rcases eqD_cases h with q | q | q
      · exact .inl q
      · exact .inr (by show (eqDict x y).or _ = _; rw [q]; rfl)
      · refine .inr ?_
        show (eqDict x y).or _ = _
        cases e : eqDict x y with
        | none => rw [q]; rfl
        | some c =>
          exfalso
          cases x <;> cases y <;> try (revert e; simp [eqDict]; done)
          obtain ⟨h1, _⟩ := gd_some q
          simp [sh, SeqAt.shaped, PyData.canLay0] at h1
theorem ok_ne (hu : X.A.units + 66 < cLine) : OpOk X pw .val (compareOp .NotEq) (fun x y => ((eqD x y).map (!·)).map .bool) :=
  .splitB (g := fun x y => (eqD x y).map (!·)) (g1 := fun x y => (eqAtom x y).map (!·)) (g2 := fun x y => ((eqDict x y).or (eqDeep x y)).map (!·))
    (.bool op_ne fun F H a b x y z Q hs hw rx ry hz q => by
      obtain ⟨c, hc, rfl⟩ := Option.map_eq_some_iff.mp hz
      cases rx <;> cases ry <;> try (exfalso; revert hc; simp [eqAtom]; done)
      · cases hc; exact ⟨rfl, by simpa using q⟩
      · cases hc; exact ⟨rfl, by rw [dec_bl]; exact q⟩
      · cases hc; exact ⟨rfl, by rw [dec_int]; exact q⟩
      · cases hc; exact ⟨rfl, by rw [dec_str]; exact q⟩)
    (.splitB (g1 := fun x y => (eqDict x y).map (!·)) (g2 := fun x y => (eqDeep x y).map (!·))
      (by
        intro pins s σ F H a b v u x y z I hs hw ra rb rx ry e
        refine ok_eqDict true hu pins s σ F H a b v u x y z I hs hw ra rb rx ry ?_
        have e' : ((eqDict x y).map (!·)).map PyData.bool = some z := e
        rw [Option.map_map] at e'
        exact e')
      (.bool (op_neD (by omega)) fun F H a b x y z Q hs hw rx ry hz q => by
        obtain ⟨c, hc, rfl⟩ := Option.map_eq_some_iff.mp hz
        obtain ⟨h1, rfl⟩ := gd_some hc
        rw [Bool.and_eq_true] at h1
        exact ⟨x, y, rx.dp hs (sh_lay h1.1), ry.dp hs (sh_lay h1.2), h1.1, h1.2, q⟩)
      fun x y z h => by
        cases e : eqDict x y with
        | none => rw [e] at h; exact .inr h
        | some c => rw [e] at h; exact .inl h)
    fun x y z h => by
      obtain ⟨c, hc, rfl⟩ := Option.map_eq_some_iff.mp h
      rcases eqD_cases hc with q | q | q
      · exact .inl (by show (eqAtom x y).map _ = _; rw [q]; rfl)
      · exact .inr (by show ((eqDict x y).or _).map _ = _; rw [q]; rfl)
      · refine .inr ?_
        show ((eqDict x y).or _).map _ = _
        cases e : eqDict x y with
        | none => rw [q]; rfl
        | some c =>
          exfalso
          cases x <;> cases y <;> try (revert e; simp [eqDict]; done)
          obtain ⟨h1, _⟩ := gd_some q
          simp [sh, SeqAt.shaped, PyData.canLay0] at h1
end
end Ly

set_option maxRecDepth 100000
set_option maxHeartbeats 1000000
/-! in, is, <; comparisons as expressions and tests. -/
namespace Ly
open PySem L2
section
variable {X : Cx} {pw : Option Addr}
def ltI (f : Int → Int → Bool) : D → D → Option Bool
  | .int a, .int b => some (f a b)
  | _, _ => none
theorem ok_cmpI {op : Value → Value → Sem Value} {f : Int → Int → Bool} (h : OpR X op (rI0 fun i j => .bl (f i j))) : OpOk X pw .val op (fun x y => (ltI f x y).map .bool) :=
  .bool h fun F H a b x y z Q hs hw rx ry hz q => by
    cases rx <;> cases ry <;> try (exfalso; revert hz; simp [ltI]; done)
    cases hz
    exact ⟨_, _, rfl, rfl, q⟩
def ltS : D → D → Option Bool
  | .str a, .str b => some (decide (a.cps.toList < b.cps.toList))
  | _, _ => none
theorem op_gt_str : OpR X (compareOp .Gt) (fun x y H Q => ∃ i j, x = .str i ∧ y = .str j ∧ Q (.bl (decide (j.cps.toList < i.cps.toList))) H) := by
  intro pins s σ H x y v u Q I rx ry h
  obtain ⟨i, j, rfl, rfl, q⟩ := h
  obtain ⟨t, rfl⟩ := rx
  obtain ⟨t', rfl⟩ := ry
  exact PySem.P.gt_str (fin_bl I q rfl)
theorem ok_lt : OpOk X pw .val (compareOp .Lt) (fun x y => (ltD x y).map .bool) :=
  .splitB (g1 := ltI fun i j => decide (i < j)) (g2 := ltS) (ok_cmpI op_lt)
    (.bool op_lt_str fun F H a b x y z Q hs hw rx ry hz q => by
      cases rx <;> cases ry <;> try (exfalso; revert hz; simp [ltS]; done)
      cases hz
      exact ⟨_, _, rfl, rfl, q⟩)
    fun x y z h => by cases x <;> cases y <;> simp [ltD, ltI, ltS] at h ⊢ <;> exact h
theorem ok_gt : OpOk X pw .val (compareOp .Gt) (fun x y => (ltD y x).map .bool) :=
  .splitB (g := fun x y => ltD y x) (g1 := ltI fun i j => decide (j < i)) (g2 := fun x y => ltS y x) (ok_cmpI op_gt)
    (.bool op_gt_str fun F H a b x y z Q hs hw rx ry hz q => by
      cases rx <;> cases ry <;> try (exfalso; revert hz; simp [ltS]; done)
      cases hz
      exact ⟨_, _, rfl, rfl, q⟩)
    fun x y z h => by cases x <;> cases y <;> simp [ltD, ltI, ltS] at h ⊢ <;> exact h
def inSeq (x : D) : D → Option Bool
  | .list ds => gd (memOk x ds) (memD x ds)
  | .tuple ds => gd (memOk x ds) (memD x ds)
  | _ => none
def inDct (x : D) : D → Option Bool
  | .dict kvs => gd (keyB x) (hasD kvs x)
  | _ => none
def inStr : D → D → Option Bool
  | .str s, .str t => some (!(Builtin.Str.occurrences t s 0 t.length 1).isEmpty)
  | _, _ => none
theorem inD_cases {x y : D} {z : Bool} (h : inD x y = some z) : inSeq x y = some z ∨ inDct x y = some z ∨ inStr x y = some z := by
  cases y <;> first | exact .inl h | exact .inr (.inl h) | (cases x <;> first | exact .inr (.inr h) | exact nomatch h)
theorem ok_inSeq (neg : Bool) (hu : X.A.units + 66 < cLine) : OpOk X pw .val (compareOp (if neg then .NotIn else .In)) (fun x y => (inSeq x y).map fun c => .bool (if neg then !c else c)) := by
  intro pins s σ F H a b v u x y z I hs hw ra rb rx ry e
  obtain ⟨c, hc, rfl⟩ := Option.map_eq_some_iff.mp e
  have fin : ∀ k : Bool, PostV X pins σ pw .val F H (.bool k) (.bool k) s := fun k => ⟨.bl k, F, H, I, rfl, .refl hs hw, .bl k⟩
  cases y with
  | list ds =>
    obtain ⟨hg, rfl⟩ := gd_some hc
    unfold memOk at hg
    rw [Bool.and_eq_true] at hg
    obtain ⟨as, r1⟩ := Dp.reads I x a v (rx.dp hs (sh_lay hg.1)) ra
    obtain ⟨bs, r2⟩ := Dp.reads I (.list ds) b u (ry.dp hs (sh_lay hg.2)) rb
    have hl : PyData.canLayAll0 ds = true := by simpa only [PyData.canLay0] using sh_lay hg.2
    cases neg with
    | false => exact SeqAt.in_list_reads r2 r1 hl (sh_lay hg.1) (PyProof.Rows.room_in_shaped hg.1 (by omega)) (fin _)
    | true => exact SeqAt.notIn_list_reads r2 r1 hl (sh_lay hg.1) (PyProof.Rows.room_in_shaped hg.1 (by omega)) (fin _)
  | tuple ds =>
    obtain ⟨hg, rfl⟩ := gd_some hc
    unfold memOk at hg
    rw [Bool.and_eq_true] at hg
    have hl : PyData.canLayAll0 ds = true := by
      have := sh_lay hg.2
      simpa only [PyData.canLay0] using this
    obtain ⟨as, r1⟩ := Dp.reads I x a v (rx.dp hs (sh_lay hg.1)) ra
    obtain ⟨bs, r2⟩ := Dp.reads I (.tuple ds) b u (ry.dp hs (by simpa only [PyData.canLay0] using hl)) rb
    cases neg with
    | false => exact SeqAt.in_tuple_reads r2 r1 hl (sh_lay hg.1) (PyProof.Rows.room_in_shaped hg.1 (by omega)) (fin _)
    | true => exact SeqAt.notIn_tuple_reads r2 r1 hl (sh_lay hg.1) (PyProof.Rows.room_in_shaped hg.1 (by omega)) (fin _)
  | _ => exact nomatch hc
theorem key_of_rpH {K : Frag} {F H : Hp} {v : V} {d : D} (r : RpH K pw F H v d) (h : keyB d = true) : ∃ k : Key, v = kV k ∧ d = kD k := by
  cases r <;> simp [keyB] at h
  · exact ⟨.inl _, rfl, rfl⟩
  · exact ⟨.inr _, rfl, rfl⟩
theorem ok_inDct (neg : Bool) (hu : X.A.units + 66 < cLine) : OpOk X pw .val (compareOp (if neg then .NotIn else .In)) (fun x y => (inDct x y).map fun c => .bool (if neg then !c else c)) := by
  intro pins s σ F H a b v u x y z I hs hw ra rb rx ry e
  obtain ⟨c, hc, rfl⟩ := Option.map_eq_some_iff.mp e
  cases ry <;> try (exfalso; revert hc; simp [inDct]; done)
  rename_i p kvs ps h1 n1 r1
  obtain ⟨hg, rfl⟩ := gd_some hc
  obtain ⟨k, rfl, rfl⟩ := key_of_rpH rx hg
  cases rb
  have hk := r1.has k
  cases neg with
  | false =>
    refine d_in (by omega) I (.inl ⟨kvs, k, h1, rfl, rfl⟩) ra fun s' I' => ?_
    rw [hk]
    exact ⟨.bl _, F, H, I', rfl, .refl hs hw, .bl _⟩
  | true =>
    refine d_notIn (by omega) I (.inl ⟨kvs, k, h1, rfl, rfl⟩) ra fun s' I' => ?_
    rw [hk]
    exact ⟨.bl _, F, H, I', rfl, .refl hs hw, .bl _⟩
theorem ok_in (hu : X.A.units + 66 < cLine) : OpOk X pw .val (compareOp .In) (fun x y => (inD x y).map .bool) :=
  .splitB (g1 := inSeq) (g2 := fun x y => (inDct x y).or (inStr x y)) (ok_inSeq false hu)
    (.splitB (g1 := inDct) (g2 := inStr) (ok_inDct false hu)
      (.bool op_in_str fun F H a b x y z Q hs hw rx ry hz q => by
        cases rx <;> cases ry <;> try (exfalso; revert hz; simp [inStr]; done)
        cases hz
        exact ⟨_, _, rfl, rfl, q⟩)
      fun x y z h => by
        cases e : inDct x y with
        | none => rw [e] at h; exact .inr h
        | some c => rw [e] at h; exact .inl h)
    fun x y z h => by
      rcases inD_cases h with q | q | q
      · exact .inl q
      · exact .inr (by show (inDct x y).or _ = _; rw [q]; rfl)
      · refine .inr ?_
        show (inDct x y).or _ = _
        cases e : inDct x y with
        | none => rw [q]; rfl
        | some c => cases x <;> cases y <;> first | (simp [inDct] at e; done) | (simp [inStr] at q; done)
theorem ok_notin (hu : X.A.units + 66 < cLine) : OpOk X pw .val (compareOp .NotIn) (fun x y => ((inD x y).map (!·)).map .bool) := by
  have conv : ∀ (g : D → D → Option Bool), OpOk X pw .val (compareOp .NotIn) (fun x y => (g x y).map fun c => .bool (!c)) → OpOk X pw .val (compareOp .NotIn) (fun x y => ((g x y).map (!·)).map .bool) := fun g q pins s σ F H a b v u x y z I hs hw ra rb rx ry e => by
    have e' : ((g x y).map (!·)).map PyData.bool = some z := e
    rw [Option.map_map] at e'
    exact q pins s σ F H a b v u x y z I hs hw ra rb rx ry e'
  exact .splitB (g := fun x y => (inD x y).map (!·)) (g1 := fun x y => (inSeq x y).map (!·)) (g2 := fun x y => ((inDct x y).or (inStr x y)).map (!·)) (conv _ (ok_inSeq true hu))
    (.splitB (g1 := fun x y => (inDct x y).map (!·)) (g2 := fun x y => (inStr x y).map (!·)) (conv _ (ok_inDct true hu))
      (.bool L2.op_notIn_str fun F H a b x y z Q hs hw rx ry hz q => by
        obtain ⟨c, hc, rfl⟩ := Option.map_eq_some_iff.mp hz
        cases rx <;> cases ry <;> try (exfalso; revert hc; simp [inStr]; done)
        cases hc
        exact ⟨_, _, rfl, rfl, q⟩)
      fun x y z h => by
        cases e : inDct x y with
        | none => rw [e] at h; exact .inr h
        | some c => rw [e] at h; exact .inl h)
    fun x y z h => by
      obtain ⟨c, hc, rfl⟩ := Option.map_eq_some_iff.mp h
      rcases inD_cases hc with q | q | q
      · exact .inl (by show (inSeq x y).map _ = _; rw [q]; rfl)
      · exact .inr (by show ((inDct x y).or _).map _ = _; rw [q]; rfl)
      · refine .inr ?_
        show ((inDct x y).or _).map _ = _
        cases e : inDct x y with
        | none => rw [q]; rfl
        | some c => cases x <;> cases y <;> first | (simp [inDct] at e; done) | (simp [inStr] at q; done)
/-! ### is -/
def isBl : D → D → Option Bool
  | .bool a, .bool b => some (a == b)
  | _, _ => none
def isNo : D → D → Option Bool
  | .none, .none => some true
  | _, .none => some false
  | _, _ => none
theorem isD_cases {x y : D} {z : Bool} (h : isD x y = some z) : isNo x y = some z ∨ isBl x y = some z := by
  cases x <;> cases y <;> first | exact .inl h | exact .inr h
theorem ok_is : OpOk X pw .val (compareOp .Is) (fun x y => (isD x y).map .bool) :=
  .splitB (g1 := isNo) (g2 := isBl)
    (.bool op_isN fun F H a b x y z Q hs hw rx ry hz q => by
      cases ry <;> try (exfalso; revert hz; cases x <;> simp [isNo]; done)
      refine ⟨rfl, ?_⟩
      cases rx <;> cases hz <;> simpa using q)
    (.bool op_isBl fun F H a b x y z Q hs hw rx ry hz q => by
      cases rx <;> cases ry <;> try (exfalso; revert hz; simp [isBl]; done)
      cases hz
      refine ⟨_, _, rfl, rfl, ?_⟩
      rw [← Bool.beq_eq_decide_eq]
      exact q)
    fun x y z h => isD_cases h
theorem ok_isnot : OpOk X pw .val (compareOp .IsNot) (fun x y => ((isD x y).map (!·)).map .bool) :=
  .splitB (g := fun x y => (isD x y).map (!·)) (g1 := fun x y => (isNo x y).map (!·)) (g2 := fun x y => (isBl x y).map (!·))
    (.bool op_notN fun F H a b x y z Q hs hw rx ry hz q => by
      obtain ⟨c, hc, rfl⟩ := Option.map_eq_some_iff.mp hz
      cases ry <;> try (exfalso; revert hc; cases x <;> simp [isNo]; done)
      refine ⟨rfl, ?_⟩
      cases rx <;> cases hc <;> simpa using q)
    (.bool op_notBl fun F H a b x y z Q hs hw rx ry hz q => by
      obtain ⟨c, hc, rfl⟩ := Option.map_eq_some_iff.mp hz
      cases rx <;> cases ry <;> try (exfalso; revert hc; simp [isBl]; done)
      cases hc
      refine ⟨_, _, rfl, rfl, ?_⟩
      rw [← Bool.beq_eq_decide_eq]
      exact q)
    fun x y z h => by
      obtain ⟨c, hc, rfl⟩ := Option.map_eq_some_iff.mp h
      rcases isD_cases hc with q | q
      · exact .inl (by show (isNo x y).map _ = _; rw [q]; rfl)
      · exact .inr (by show (isBl x y).map _ = _; rw [q]; rfl)
def copOf : Cop → CmpOp
  | .eq => .Eq | .ne => .NotEq | .lt => .Lt | .le => .LtE | .gt => .Gt | .ge => .GtE | .isin => .In | .notin => .NotIn | .is => .Is | .isnot => .IsNot
theorem ok_cmp (o : Cop) (hu : X.A.units + 66 < cLine) : OpOk X pw .val (compareOp (copOf o)) (fun x y => (cmpD o x y).map .bool) := by
  have none2 : ∀ {f : Value → Value → Sem Value}, OpOk X pw .val f (fun x y => ((fun _ _ => none : D → D → Option Bool) x y).map .bool) := fun {f} _ _ _ _ _ _ _ _ _ _ _ _ _ _ _ _ _ _ _ e => nomatch e
  cases o with
  | eq => exact ok_eq hu
  | ne => exact ok_ne hu
  | lt => exact ok_lt
  | gt => exact ok_gt
  | le => exact .splitB (g1 := ltI fun i j => decide (i ≤ j)) (g2 := fun _ _ => none) (ok_cmpI op_le) none2 fun x y z h => by cases x <;> cases y <;> simp [cmpD, ltI] at h ⊢ <;> exact h
  | ge => exact .splitB (g1 := ltI fun i j => decide (j ≤ i)) (g2 := fun _ _ => none) (ok_cmpI op_ge) none2 fun x y z h => by cases x <;> cases y <;> simp [cmpD, ltI] at h ⊢ <;> exact h
  | isin => exact ok_in hu
  | notin => exact ok_notin hu
  | is => exact ok_is
  | isnot => exact ok_isnot
end
end Ly

set_option maxRecDepth 100000
set_option maxHeartbeats 1000000
/-! Comparisons, and, or, not, if-else, tests; subscripts. -/
namespace Ly
open PySem PySem.Spec PyProof.Rows L2
theorem opt_some {α : Type} {o : Option α} {Q : α → Prop} (h : W.opt o Q) : ∃ a, o = some a ∧ Q a := h
section
variable {X : Cx} {pw : Option Addr} {a b c : Expr} {fa fb fc : Env → W D} {pos : Pos} {md : Md}
theorem PostV.post {pins : List (Addr × Obj)} {σ : St} {F H F1 H1 : Hp} {z : D} {u : Value} {s' : Shared} {R : D → Prop} (st : Step pw F H F1 H1) (h : PostV X pins σ pw .val F1 H1 z u s') (hr : R z) : Post X pins σ pw .val F H R u s' :=
  let ⟨v, F', H', I, r, st2, rs⟩ := h
  ⟨v, F', H', z, I, r, st.trans st2, rs, hr⟩
/-! ### comparisons -/
def fcmp (o : Cop) (fa fb : Env → W D) : Env → W D := fun Γ => W.bind (fa Γ) fun x => W.bind (fb Γ) fun y => W.opt ((cmpD o x y).map .bool)
/-- two operands, then what is done with them -/
theorem two {op : Value → Value → Sem Value} {g : D → D → Option D} (ha : EO X pw .peek a fa) (hb : EO X pw .peek b fb) {pins : List (Addr × Obj)} {s : Shared} {σ : St} {H0 F H : Hp} {Γ : Env} {R : D → Prop} (I : Inv X pins σ H s) (B : Base X.K pw H0 F H σ Γ)
    (ho : OpOk X pw .val op g) (hf : (fa Γ) fun x => (fb Γ) fun y => W.opt (g x y) R) :
    wpAny (model X.prog X.w) X.A (eval a X.env) (fun u s1 => wpAny (model X.prog X.w) X.A (eval b X.env) (fun u2 s2 => wpAny (model X.prog X.w) X.A (op u u2) (Post X pins σ pw .val F H R) X.xe s2) X.xe s1) X.xe s := by
  refine thn (ha.run pins s σ H0 F H Γ _ I B hf) fun u s1 ⟨v, F1, H1, x, I1, r1, st1, rs1, hr1⟩ => ?_
  refine thn (hb.run pins s1 σ H0 F1 H1 Γ _ I1 (B.step st1) hr1) fun u2 s2 ⟨v2, F2, H2, y, I2, r2, st2, rs2, hr2⟩ => ?_
  obtain ⟨z, hz, hr⟩ := opt_some hr2
  exact thn (ho pins s2 σ F2 H2 v v2 u u2 x y z I2 st2.fh st2.w r1 r2 (RpH.step rs1 st2 st1.w) rs2 hz) fun u3 s3 h3 => h3.post (st1.trans st2) hr
theorem Post.tests {pins : List (Addr × Obj)} {σ : St} {F H : Hp} {u : Value} {s' : Shared} {R : Bool → Prop} (h : Post X pins σ pw .val F H (fun d => ∃ c, boolD d = some c ∧ R c) u s') : wpAny (model X.prog X.w) X.A (truthy u) (PostB X pins σ pw F H R) X.xe s' := by
  obtain ⟨v, F', H', d, I, r, st, rs, c, hc, hr⟩ := h
  have rs : Rp X.K F' v d := rs
  cases rs <;> try (exfalso; revert hc; simp [boolD]; done)
  cases hc
  cases r
  exact wpAny_truthy_bool ⟨F', H', I, st, hr⟩
theorem eo_cmp {o : Cop} (hu : X.A.units + 66 < cLine) (ha : EO X pw .peek a fa) (hb : EO X pw .peek b fb) (hm : behindInMarks (copOf o) b = false) : EO X pw .val (.Compare a [copOf o] [b] pos) (fcmp o fa fb) := ⟨fun pins s σ H0 F H Γ R I B hf =>
  wpAny_Compare1 (two ha hb I B (ok_cmp o hu) hf) hm⟩
theorem to_cmp {o : Cop} (hu : X.A.units + 66 < cLine) (ha : EO X pw .peek a fa) (hb : EO X pw .peek b fb) (hm : behindInMarks (copOf o) b = false) : TO X pw (.Compare a [copOf o] [b] pos) (fcmp o fa fb) := ⟨fun pins s σ H0 F H Γ R I B hf =>
  wpAny_isTrue_Compare1 (thn (two ha hb I B (ok_cmp o hu) hf) fun u s1 h1 => thn h1 fun u2 s2 h2 => thn h2 fun c s3 h3 => h3.tests) hm⟩
def fcmp2 (o o2 : Cop) (fa fb fc : Env → W D) : Env → W D := fun Γ => W.bind (fa Γ) fun x => W.bind (fb Γ) fun y => W.bind (W.opt (cmpD o x y)) fun k => if k then W.bind (fc Γ) fun z => W.opt ((cmpD o2 y z).map .bool) else W.ok (.bool false)
theorem eo_cmp2 {o o2 : Cop} (hu : X.A.units + 66 < cLine) (ha : EO X pw .peek a fa) (hb : EO X pw .peek b fb) (hc : EO X pw .peek c fc) (hm : lastMarks [copOf o, copOf o2] [b, c] = false) : EO X pw .val (.Compare a [copOf o, copOf o2] [b, c] pos) (fcmp2 o o2 fa fb fc) := ⟨fun pins s σ H0 F H Γ R I B hf => by
  refine Compare_chain (thn (ha.run pins s σ H0 F H Γ _ I B hf) fun u s1 ⟨v, F1, H1, x, I1, r1, st1, rs1, hr1⟩ => chain_link (thn (hb.run pins s1 σ H0 F1 H1 Γ _ I1 (B.step st1) hr1) fun u2 s2 ⟨v2, F2, H2, y, I2, r2, st2, rs2, hr2⟩ => ?_)) hm
  obtain ⟨k, hk, hr⟩ := opt_some hr2
  refine thn (ok_cmp o hu pins s2 σ F2 H2 v v2 u u2 x y (.bool k) I2 st2.fh st2.w r1 r2 (RpH.step rs1 st2 st1.w) rs2 (by show (cmpD o x y).map PyData.bool = _; rw [hk]; rfl)) fun u3 s3 ⟨v3, F3, H3, I3, r3, st3, rs3⟩ => ?_
  have rs3 : Rp X.K F3 v3 (.bool k) := rs3
  cases rs3
  cases r3
  refine wpAny_truthy_bool ?_
  have st13 := (st1.trans st2).trans st3
  cases k with
  | false => exact ite_ff ⟨.bl false, F3, H3, _, I3, rfl, st13, .bl false, hr⟩
  | true =>
    refine ite_tt (chain_last (thn (hc.run pins s3 σ H0 F3 H3 Γ _ I3 (B.step st13) hr) fun u4 s4 ⟨v4, F4, H4, z, I4, r4, st4, rs4, hr4⟩ => ?_))
    obtain ⟨q, hq, hrq⟩ := opt_some hr4
    exact thn (ok_cmp o2 hu pins s4 σ F4 H4 v2 v4 u2 u4 y z q I4 st4.fh st4.w r2 r4 (RpH.step rs2 (st3.trans st4) st2.w) rs4 hq) fun u5 s5 h5 => h5.post (st13.trans st4) hrq⟩
theorem to_cmp2 {o o2 : Cop} (hu : X.A.units + 66 < cLine) (ha : EO X pw .peek a fa) (hb : EO X pw .peek b fb) (hc : EO X pw .peek c fc) (hm : lastMarks [copOf o, copOf o2] [b, c] = false) : TO X pw (.Compare a [copOf o, copOf o2] [b, c] pos) (fcmp2 o o2 fa fb fc) := ⟨fun pins s σ H0 F H Γ R I B hf => by
  refine isTrue_chain (thn (ha.run pins s σ H0 F H Γ _ I B hf) fun u s1 ⟨v, F1, H1, x, I1, r1, st1, rs1, hr1⟩ => test_link (thn (hb.run pins s1 σ H0 F1 H1 Γ _ I1 (B.step st1) hr1) fun u2 s2 ⟨v2, F2, H2, y, I2, r2, st2, rs2, hr2⟩ => ?_)) hm
  obtain ⟨k, hk, hr⟩ := opt_some hr2
  refine thn (ok_cmp o hu pins s2 σ F2 H2 v v2 u u2 x y (.bool k) I2 st2.fh st2.w r1 r2 (RpH.step rs1 st2 st1.w) rs2 (by show (cmpD o x y).map PyData.bool = _; rw [hk]; rfl)) fun u3 s3 ⟨v3, F3, H3, I3, r3, st3, rs3⟩ => ?_
  have rs3 : Rp X.K F3 v3 (.bool k) := rs3
  cases rs3
  cases r3
  refine wpAny_truthy_bool ?_
  have st13 := (st1.trans st2).trans st3
  cases k with
  | false =>
    obtain ⟨q, hq, hrq⟩ := hr
    cases hq
    exact ite_ff ⟨F3, H3, I3, st13, hrq⟩
  | true =>
    refine ite_tt (test_last (thn (hc.run pins s3 σ H0 F3 H3 Γ _ I3 (B.step st13) hr) fun u4 s4 ⟨v4, F4, H4, z, I4, r4, st4, rs4, hr4⟩ => ?_))
    obtain ⟨q, hq, hrq⟩ := opt_some hr4
    exact thn (ok_cmp o2 hu pins s4 σ F4 H4 v2 v4 u2 u4 y z q I4 st4.fh st4.w r2 r4 (RpH.step rs2 (st3.trans st4) st2.w) rs4 hq) fun u5 s5 h5 => (h5.post (st13.trans st4) hrq).tests⟩

/-! ### not, and, or, if-else -/
def fnot (fa : Env → W D) : Env → W D := fun Γ => W.bind (fa Γ) fun x => W.bind (W.opt (boolD x)) fun c => W.ok (.bool (!c))
def fand (fa fb : Env → W D) : Env → W D := fun Γ => W.bind (fa Γ) fun x => W.bind (W.opt (boolD x)) fun c => if c then fb Γ else W.ok (.bool false)
def for_ (fa fb : Env → W D) : Env → W D := fun Γ => W.bind (fa Γ) fun x => W.bind (W.opt (boolD x)) fun c => if c then W.ok (.bool true) else fb Γ
def fite (ft fa fb : Env → W D) : Env → W D := fun Γ => W.bind (ft Γ) fun x => W.bind (W.opt (boolD x)) fun c => if c then fa Γ else fb Γ
theorem boolRp {K : Frag} {F : Hp} {v : V} {u : Value} {d : D} {k : Bool} (rs : Rp K F v d) (r : RelV v u) (h : boolD d = some k) : d = .bool k ∧ v = .bl k ∧ u = .bool k := by
  cases rs <;> try (exfalso; revert h; simp [boolD]; done)
  cases h
  cases r
  exact ⟨rfl, rfl, rfl⟩
theorem eo_not (ha : EO X pw .val a fa) : EO X pw .val (.UnaryOp .Not a pos) (fnot fa) := ⟨fun pins s σ H0 F H Γ R I B hf => by
  refine UnaryOp_ (thn (ha.run pins s σ H0 F H Γ _ I B hf) fun u s1 ⟨v, F1, H1, x, I1, r1, st1, rs1, hr1⟩ => ?_)
  obtain ⟨k, hk, hr⟩ := opt_some hr1
  obtain ⟨rfl, rfl, rfl⟩ := boolRp rs1 r1 hk
  exact not_of (wpAny_truthy_bool ⟨.bl (!k), F1, H1, _, I1, rfl, st1, .bl _, hr⟩)⟩
theorem tw_not (ha : TO X pw a fa) : TW X pw (.UnaryOp .Not a pos) (fnot fa) := ⟨fun wh pins s σ H0 F H Γ R I B hf =>
  isTrue_not (thn (ha.run pins s σ H0 F H Γ (fun c => ∃ c', boolD (.bool (!c)) = some c' ∧ R c') I B hf) fun k s1 ⟨F1, H1, I1, st1, c', e, h1⟩ => by
    cases e
    exact ⟨F1, H1, I1, st1, h1⟩)⟩
theorem eo_and {rest : List Expr} (ha : EO X pw .val a fa) (hb : EO X pw .val (.BoolOp .And (b :: rest) pos) fb) : EO X pw .val (.BoolOp .And (a :: b :: rest) pos) (fand fa fb) := ⟨fun pins s σ H0 F H Γ R I B hf => by
  refine BoolOp_and (thn (ha.run pins s σ H0 F H Γ _ I B hf) fun u s1 ⟨v, F1, H1, x, I1, r1, st1, rs1, hr1⟩ => ?_)
  obtain ⟨k, hk, hr⟩ := opt_some hr1
  obtain ⟨rfl, rfl, rfl⟩ := boolRp rs1 r1 hk
  refine wpAny_truthy_bool ?_
  cases k with
  | false => exact ⟨.bl false, F1, H1, _, I1, rfl, st1, .bl false, hr⟩
  | true => exact thn (hb.run pins s1 σ H0 F1 H1 Γ R I1 (B.step st1) hr) fun u2 s2 ⟨v2, F2, H2, y, I2, r2, st2, rs2, hr2⟩ => ⟨v2, F2, H2, y, I2, r2, st1.trans st2, rs2, hr2⟩⟩
theorem eo_or {rest : List Expr} (ha : EO X pw .val a fa) (hb : EO X pw .val (.BoolOp .Or (b :: rest) pos) fb) : EO X pw .val (.BoolOp .Or (a :: b :: rest) pos) (for_ fa fb) := ⟨fun pins s σ H0 F H Γ R I B hf => by
  refine BoolOp_or (thn (ha.run pins s σ H0 F H Γ _ I B hf) fun u s1 ⟨v, F1, H1, x, I1, r1, st1, rs1, hr1⟩ => ?_)
  obtain ⟨k, hk, hr⟩ := opt_some hr1
  obtain ⟨rfl, rfl, rfl⟩ := boolRp rs1 r1 hk
  refine wpAny_truthy_bool ?_
  cases k with
  | true => exact ⟨.bl true, F1, H1, _, I1, rfl, st1, .bl true, hr⟩
  | false => exact thn (hb.run pins s1 σ H0 F1 H1 Γ R I1 (B.step st1) hr) fun u2 s2 ⟨v2, F2, H2, y, I2, r2, st2, rs2, hr2⟩ => ⟨v2, F2, H2, y, I2, r2, st1.trans st2, rs2, hr2⟩⟩
theorem eo_one {op : BoolOp} (ha : EO X pw .val a fa) : EO X pw .val (.BoolOp op [a] pos) fa := ⟨fun pins s σ H0 F H Γ R I B hf => BoolOp_one (ha.run pins s σ H0 F H Γ R I B hf)⟩
theorem PostB.trans {pins : List (Addr × Obj)} {σ : St} {F H F1 H1 : Hp} {R : Bool → Prop} {k : Bool} {s' : Shared} (st : Step pw F H F1 H1) (h : PostB X pins σ pw F1 H1 R k s') : PostB X pins σ pw F H R k s' :=
  let ⟨F', H', I, st2, hr⟩ := h
  ⟨F', H', I, st.trans st2, hr⟩
theorem tw_and1 {op : BoolOp} (ha : TO X pw a fa) : TW X pw (.BoolOp op [a] pos) fa := ⟨fun wh pins s σ H0 F H Γ R I B hf => by
  cases op with
  | And =>
    refine isTrue_and (thn (ha.run pins s σ H0 F H Γ R I B hf) fun k s1 h1 => ?_)
    cases k with
    | true => exact isTrue_and_nil h1
    | false => exact h1
  | Or =>
    refine isTrue_or (thn (ha.run pins s σ H0 F H Γ R I B hf) fun k s1 h1 => ?_)
    cases k with
    | false => exact isTrue_or_nil h1
    | true => exact h1⟩
theorem tw_and {rest : List Expr} (ha : TO X pw a fa) (hb : TW X pw (.BoolOp .And (b :: rest) pos) fb) : TW X pw (.BoolOp .And (a :: b :: rest) pos) (fand fa fb) := ⟨fun wh pins s σ H0 F H Γ R I B hf => by
  refine isTrue_and (thn (ha.run pins s σ H0 F H Γ _ I B hf) fun k s1 ⟨F1, H1, I1, st1, h1⟩ => ?_)
  cases k with
  | true => exact thn (hb.run wh pins s1 σ H0 F1 H1 Γ R I1 (B.step st1) h1) fun k2 s2 h2 => PostB.trans st1 h2
  | false =>
    obtain ⟨c, hc, h1⟩ := h1
    cases hc
    exact ⟨F1, H1, I1, st1, h1⟩⟩
theorem tw_or {rest : List Expr} (ha : TO X pw a fa) (hb : TW X pw (.BoolOp .Or (b :: rest) pos) fb) : TW X pw (.BoolOp .Or (a :: b :: rest) pos) (for_ fa fb) := ⟨fun wh pins s σ H0 F H Γ R I B hf => by
  refine isTrue_or (thn (ha.run pins s σ H0 F H Γ _ I B hf) fun k s1 ⟨F1, H1, I1, st1, h1⟩ => ?_)
  cases k with
  | false => exact thn (hb.run wh pins s1 σ H0 F1 H1 Γ R I1 (B.step st1) h1) fun k2 s2 h2 => PostB.trans st1 h2
  | true =>
    obtain ⟨c, hc, h1⟩ := h1
    cases hc
    exact ⟨F1, H1, I1, st1, h1⟩⟩
theorem TW.to (h : TW X pw a fa) : TO X pw a fa := ⟨h.run _⟩
def plainT : Expr → Bool
  | .UnaryOp .Not _ _ => false
  | .BoolOp .. => false
  | .IfExp .. => false
  | .Compare .. => false
  | _ => true
theorem plainT_eq {e : Expr} {env : PySem.Env} (h : plainT e = true) (wh : Sem Value) : isTrue e env wh = (do let v ← wh; standAt e.pos; holding [v] (truthy v)) := by
  cases e <;> try rfl
  case UnaryOp op _ _ => cases op <;> first | rfl | (simp [plainT] at h)
  all_goals (simp [plainT] at h)
theorem to_plain (h : EO X pw .val a fa) (hp : plainT a = true) : TO X pw a fa := ⟨fun pins s σ H0 F H Γ R I B hf =>
  isTrue_plain (thn (h.run pins s σ H0 F H Γ _ I B hf) fun u s1 h1 => h1.tests) (plainT_eq hp _)⟩
theorem eo_ite {md : Md} (hc : TO X pw c fc) (ha : EO X pw .val a fa) (hb : EO X pw .val b fb) : EO X pw .val (.IfExp c a b pos) (fite fc fa fb) := ⟨fun pins s σ H0 F H Γ R I B hf => by
  refine wpAny_IfExp (thn (hc.run pins s σ H0 F H Γ _ I B hf) fun k s1 ⟨F1, H1, I1, st1, h1⟩ => ?_)
  cases k with
  | true => exact thn (ha.run pins s1 σ H0 F1 H1 Γ R I1 (B.step st1) h1) fun u2 s2 ⟨v2, F2, H2, y, I2, r2, st2, rs2, hr2⟩ => ⟨v2, F2, H2, y, I2, r2, st1.trans st2, rs2, hr2⟩
  | false => exact thn (hb.run pins s1 σ H0 F1 H1 Γ R I1 (B.step st1) h1) fun u2 s2 ⟨v2, F2, H2, y, I2, r2, st2, rs2, hr2⟩ => ⟨v2, F2, H2, y, I2, r2, st1.trans st2, rs2, hr2⟩⟩
theorem tw_ite (hc : TO X pw c fc) (ha : TO X pw a fa) (hb : TO X pw b fb) : TW X pw (.IfExp c a b pos) (fite fc fa fb) := ⟨fun wh pins s σ H0 F H Γ R I B hf => by
  refine isTrue_IfExp (thn (hc.run pins s σ H0 F H Γ _ I B hf) fun k s1 ⟨F1, H1, I1, st1, h1⟩ => ?_)
  cases k with
  | true => exact thn (ha.run pins s1 σ H0 F1 H1 Γ R I1 (B.step st1) h1) fun k2 s2 h2 => PostB.trans st1 h2
  | false => exact thn (hb.run pins s1 σ H0 F1 H1 Γ R I1 (B.step st1) h1) fun k2 s2 h2 => PostB.trans st1 h2⟩
def fneg (fa : Env → W D) : Env → W D := fun Γ => W.bind (fa Γ) fun x => W.bind (W.opt (intD x)) fun i => W.ok (.int (-i))
theorem intRp {K : Frag} {F : Hp} {v : V} {d : D} {k : Int} (rs : Rp K F v d) (h : intD d = some k) : d = .int k ∧ v = .int k := by
  cases rs <;> try (exfalso; revert h; simp [intD]; done)
  cases h
  exact ⟨rfl, rfl⟩
theorem eo_neg (ha : EO X pw .val a fa) : EO X pw .val (.UnaryOp .USub a pos) (fneg fa) := ⟨fun pins s σ H0 F H Γ R I B hf => by
  refine UnaryOp_ (thn (ha.run pins s σ H0 F H Γ _ I B hf) fun u s1 ⟨v, F1, H1, x, I1, r1, st1, rs1, hr1⟩ => ?_)
  obtain ⟨k, hk, hr⟩ := opt_some hr1
  obtain ⟨rfl, rfl⟩ := intRp rs1 hk
  exact thn (un_neg pins s1 σ H1 (.int k) u (fun v H2 => v = .int (-k) ∧ H2 = H1) I1 r1 ⟨k, rfl, rfl, rfl⟩) fun u2 s2 ⟨v, H2, I2, r2, ev, eh⟩ => by
    subst ev eh
    exact ⟨.int (-k), F1, _, _, I2, r2, st1, .int _, hr⟩⟩
end
end Ly

set_option maxRecDepth 100000
set_option maxHeartbeats 1000000
/-! Subscripts. -/
namespace Ly
open PySem PySem.Spec PyProof.Rows L2
section
variable {X : Cx} {pw : Option Addr} {a b c : Expr} {fa fb fc : Env → W D} {pos : Pos} {md : Md}
def IxOk (X : Cx) (pw : Option Addr) (g : D → D → Option D) : Prop :=
  ∀ (value slice : Expr) (pins : List (Addr × Obj)) (s : Shared) (σ : St) (F H : Hp) (a b : V) (v u : Value) (x y z : D), Inv X pins σ H s → Same F H → WOk F H pw → RelV a v → RelV b u → RpH X.K pw F H a x → Rp X.K F b y → g x y = some z →
    subscripted slice false v u = operate [v, u] (getItem v u) → wpAny (model X.prog X.w) X.A (subscriptTail value slice v u) (PostV X pins σ pw .val F H z) X.xe s
theorem IxOk.split {g g1 g2 : D → D → Option D} (h1 : IxOk X pw g1) (h2 : IxOk X pw g2) (e : ∀ x y z, g x y = some z → g1 x y = some z ∨ g2 x y = some z) : IxOk X pw g :=
  fun va sl pins s σ F H a b v u x y z I hs hw ra rb rx ry q hh => (e x y z q).elim (fun q => h1 va sl pins s σ F H a b v u x y z I hs hw ra rb rx ry q hh) fun q => h2 va sl pins s σ F H a b v u x y z I hs hw ra rb rx ry q hh
def idxS : D → D → Option D
  | .list ds, .int i => (ixN ds.length i).bind fun k => ds[k]?
  | .tuple ds, .int i => (ixN ds.length i).bind fun k => ds[k]?
  | .str s, .int i => gd (decide (s.length ≤ lim)) () >>= fun _ => (ixN s.length i).bind fun k => sgn s k
  | _, _ => none
def idxK : D → D → Option D
  | .dict kvs, k => gd (keyB k) () >>= fun _ => getD kvs k
  | _, _ => none
theorem ixN_eq (n : Nat) (i : Int) : ixN n i = L2.ixN n i := rfl
theorem at_of {vs : List V} {ds : List D} {i : Int} {z : D} {K : Frag} {F : Hp} (r : RpL K F vs ds) (h : ((ixN ds.length i).bind fun k => ds[k]?) = some z) : ∃ v, L2.atI vs i = some v ∧ Rp K F v z := by
  obtain ⟨k, hk, hz⟩ := Option.bind_eq_some_iff.mp h
  obtain ⟨v, hv, rv⟩ := r.get hz
  refine ⟨v, ?_, rv⟩
  unfold L2.atI
  rw [r.length, ← ixN_eq, hk]
  exact hv
theorem ok_idxS : IxOk X pw idxS := by
  intro va sl pins s σ F H a b v u x y z I hs hw ra rb rx ry q hh
  have fin : ∀ w : V, Rp X.K F w z → ∀ u' s', EP X pins σ (fun v' H' => v' = w ∧ H' = H) u' s' → PostV X pins σ pw .val F H z u' s' := fun w rw' u' s' ⟨v', H', I', r', e1, e2⟩ => by
    subst e1 e2
    exact ⟨v', F, H', I', r', .refl hs hw, rw'⟩
  cases ry <;> try (exfalso; revert q; cases rx <;> simp [idxS]; done)
  rename_i i
  cases rx <;> try (exfalso; revert q; simp [idxS]; done)
  · rename_i st
    have q : (gd (decide (st.length ≤ lim)) () >>= fun _ => (ixN st.length i).bind fun k => sgn st k) = some z := q
    obtain ⟨_, h1, h2⟩ := Option.bind_eq_some_iff.mp q
    obtain ⟨h1, _⟩ := gd_some h1
    obtain ⟨k, hk, hz⟩ := Option.bind_eq_some_iff.mp h2
    unfold sgn at hz
    obtain ⟨c, hc, rfl⟩ := Option.map_eq_some_iff.mp hz
    refine thn (ix_str va sl pins s σ H _ _ v u (fun v' H' => v' = .str ⟨#[c]⟩ ∧ H' = H) I ra rb ⟨st, i, c, rfl, rfl, by rw [← lim_eq]; exact of_decide_eq_true h1, ?_, rfl, rfl⟩ hh) (fin _ (.str _))
    unfold L2.atI
    have e : st.cps.toList.length = st.length := by simp [Str.length]
    rw [e, ← ixN_eq, hk]
    simpa using hc
  · rename_i p xs ds h1 r1
    obtain ⟨w, hw', rw'⟩ := at_of r1 q
    exact thn (ix_list va sl pins s σ H _ _ v u (fun v' H' => v' = w ∧ H' = H) I ra rb ⟨p, xs, i, w, rfl, rfl, .of h1, hw', rfl, rfl⟩ hh) (fin _ rw')
  · rename_i p xs ds h1 r1
    obtain ⟨w, hw', rw'⟩ := at_of r1 q
    exact thn (ix_tup va sl pins s σ H _ _ v u (fun v' H' => v' = w ∧ H' = H) I ra rb ⟨p, xs, i, w, rfl, rfl, Same.sqT hs h1, hw', rfl, rfl⟩ hh) (fin _ rw')
theorem ok_idxK (hu : X.A.units + 1 < cLine) : IxOk X pw idxK := by
  intro va sl pins s σ F H a b v u x y z I hs hw ra rb rx ry q hh
  cases rx <;> try (exfalso; revert q; simp [idxK]; done)
  rename_i p kvs ps h1 n1 r1
  have q : (gd (keyB y) () >>= fun _ => getD ps y) = some z := q
  obtain ⟨_, hk, hz⟩ := Option.bind_eq_some_iff.mp q
  obtain ⟨hk, _⟩ := gd_some hk
  obtain ⟨k, rfl, rfl⟩ := key_of_rp ry hk
  cases ra
  rcases r1.get k with ⟨e1, e2⟩ | ⟨w, d2, e1, e2, r2⟩
  · rw [e2] at hz; cases hz
  · rw [e2] at hz
    cases hz
    have g : DGet H p (kV k) (some w) := .inl ⟨kvs, k, h1, rfl, e1.symm⟩
    exact tail_any (dict_typeIs I g) PySem.F.slot_dict_getitem.lookup (d_getItem hu I g rb fun w' s' I' rw' => ⟨w, F, H, I', rw', .refl hs hw, r2⟩) hh
theorem ok_idx (hu : X.A.units + 66 < cLine) : IxOk X pw idxD :=
  .split (g1 := idxS) (g2 := idxK) ok_idxS (ok_idxK (by omega)) fun x y z h => by
    cases x <;> first | exact .inr h | (cases y <;> first | exact .inl h | (simp [idxD] at h; done))
def notSlice : Expr → Bool
  | .Slice .. => false
  | _ => true
theorem notSlice_eq {i : Expr} (h : notSlice i = true) (o v : Value) : subscripted i false o v = operate [o, v] (getItem o v) := by
  cases i <;> first | rfl | (simp [notSlice] at h)
theorem eo_idx (hu : X.A.units + 66 < cLine) (ha : EO X pw .peek a fa) (hb : EO X pw .val b fb) (hs : notSlice b = true) : EO X pw .val (.Subscript a b pos) (fun Γ => W.bind (fa Γ) fun x => W.bind (fb Γ) fun y => W.opt (idxD x y)) := ⟨fun pins s σ H0 F H Γ R I B hf => by
  refine Subscript_ (thn (ha.run pins s σ H0 F H Γ _ I B hf) fun u s1 ⟨v, F1, H1, x, I1, r1, st1, rs1, hr1⟩ => ?_)
  refine thn (hb.run pins s1 σ H0 F1 H1 Γ _ I1 (B.step st1) hr1) fun u2 s2 ⟨v2, F2, H2, y, I2, r2, st2, rs2, hr2⟩ => ?_
  obtain ⟨z, hz, hr⟩ := hr2
  exact thn (ok_idx hu a b pins s2 σ F2 H2 v v2 u u2 x y z I2 st2.fh st2.w r1 r2 (RpH.step rs1 st2 st1.w) rs2 hz (notSlice_eq hs _ _)) fun u3 s3 h3 => h3.post (st1.trans st2) hr⟩

/-! ### slices -/
def OO (X : Cx) (pw : Option Addr) (lo : Option Expr) (g : Env → W (Option Int)) : Prop :=
  ∃ t, PO X lo t ∧ ∀ (σ : St) (H0 F H : Hp) (Γ : Env) (R : Option Int → Prop) (Q : Option Int → Hp → Prop), Base X.K pw H0 F H σ Γ → g Γ R → (∀ o F' H', R o → Step pw F H F' H' → Q o H') → t σ H Q
theorem oo_none : OO X pw none (fun _ => W.ok none) := ⟨_, po_none, fun σ H0 F H Γ R Q B hf k => k none F H hf B.refl⟩
theorem oo_some (h : EO X pw .val a fa) : OO X pw (some a) (fun Γ => W.bind (fa Γ) fun d => W.opt ((intD d).map some)) := ⟨_, po_some h.pe, fun σ H0 F H Γ R Q B hf k => ⟨H0, F, Γ, _, B, hf, fun d F' H' v hr st rs => by
  obtain ⟨o, ho, hr⟩ := hr
  obtain ⟨j, hj, rfl⟩ := Option.map_eq_some_iff.mp ho
  obtain ⟨rfl, rfl⟩ := intRp rs hj
  exact ⟨j, rfl, k _ F' H' hr st⟩⟩⟩
theorem sIx_eq (n d : Nat) (o : Option Int) : sIx n d o = HT.sIx n d o := by cases o <;> rfl
theorem RpL.cut {K : Frag} {F : Hp} {vs : List V} {ds : List D} (r : RpL K F vs ds) (lo hi : Option Int) : RpL K F (L2.cutV vs lo hi) (cutL ds lo hi) := by
  unfold L2.cutV cutL
  rw [sIx_eq, sIx_eq, r.length]
  exact (r.drop _).take _
def rCut (X : Cx) : V → Option Int → Option Int → Hp → VK → Prop := fun x lo hi H Q => rSlL X.K x lo hi H Q ∨ rSlA X.K x lo hi H Q ∨ rSlS x lo hi H Q
theorem sl_cut : SlR X (rCut X) := sl_list.or (sl_tupA.or sl_str)
theorem cutL_all {α : Type} {xs : List α} {lo hi : Option Int} (h : sIx xs.length 0 lo = 0 ∧ sIx xs.length xs.length hi = xs.length) : cutL xs lo hi = xs := by
  unfold cutL
  rw [h.1, h.2]
  simp
/-- behind an operation that makes a list -/
theorem list_res {F H H2 : Hp} {p : Addr} {xs : List V} {ds : List D} (st : Step pw F H F H2) (hp : H2 p = none) (rl : RpL X.K F xs ds) : Step pw F H (L2.upd F p (.lst xs)) (L2.upd H2 p (.lst xs)) ∧ Rp X.K (L2.upd F p (.lst xs)) (.ref p) (.list ds) := by
  have s2 := Step.laidF (pw := pw) (o := .lst xs) st.fh st.w hp
  exact ⟨st.trans s2, .lst upd_same (rl.mono s2.f)⟩
theorem eo_cut {lo hi : Option Expr} {gl gh : Env → W (Option Int)} {p2 : Pos} (ha : EO X pw .peek a fa) (hl : OO X pw lo gl) (hh : OO X pw hi gh) :
    EO X pw .val (.Subscript a (.Slice lo hi none p2) pos) (fun Γ => W.bind (fa Γ) fun x => W.bind (gl Γ) fun l => W.bind (gh Γ) fun h => W.opt (cutD x l h)) := by
  obtain ⟨tl, pl, kl⟩ := hl
  obtain ⟨th, ph, kh⟩ := hh
  refine .by (pe_slice sl_cut ha.pe pl ph) fun σ H0 F H Γ R B hf => ?_
  refine ⟨H0, F, Γ, _, B, hf, fun d F1 H1 v hr st rs => ?_⟩
  refine kl σ H0 F1 H1 Γ _ _ (B.step st) hr fun l F2 H2 hr2 st2 => ?_
  refine kh σ H0 F2 H2 Γ _ _ (B.step (st.trans st2)) hr2 fun h F3 H3 hr3 st3 => ?_
  obtain ⟨z, hz, hr⟩ := hr3
  have st4 := (st.trans st2).trans st3
  have rs : RpH X.K pw F3 H3 v d := RpH.step rs (st2.trans st3) st.w
  cases rs <;> try (exfalso; revert hz; simp [cutD]; done)
  · rename_i zz
    obtain ⟨h1, rfl⟩ := gd_some hz
    refine .inr (.inr ⟨zz, rfl, by rw [← lim_eq]; exact of_decide_eq_true h1, F3, _, st4, ?_, hr⟩)
    have e : cutS zz l h = ⟨(cutL zz.cps.toList l h).toArray⟩ := by
      unfold cutS cutL
      have e : zz.cps.toList.length = zz.length := by simp [Str.length]
      rw [sIx_eq, sIx_eq, e]
    rw [e]
    exact .str _
  · rename_i p xs ds h1 r1
    cases hz
    refine .inl ⟨p, xs, rfl, .of h1, fun q hq => ?_⟩
    have s2 := Step.laidF (pw := pw) (o := .lst (cutV xs l h)) st4.fh st4.w hq
    exact ⟨_, _, st4.trans s2, .lst upd_same ((r1.cut l h).mono s2.f), hr⟩
  · rename_i p xs ds h1 r1
    cases hz
    refine .inr (.inl ⟨p, xs, rfl, Same.sqT st4.fh h1, fun hw => ?_, fun hw q hq => ?_⟩)
    · rw [← sIx_eq, ← sIx_eq, r1.length] at hw
      rw [cutL_all hw] at hr
      exact ⟨F3, _, st4, .tup h1 r1, hr⟩
    · have s2 := Step.laidF (pw := pw) (o := .tup (cutV xs l h)) st4.fh st4.w hq
      exact ⟨_, _, st4.trans s2, .tup (.of upd_same) ((r1.cut l h).mono s2.f), hr⟩
end
end Ly

set_option maxRecDepth 100000
set_option maxHeartbeats 1000000
/-! What is walked. -/
namespace Ly
open PySem PySem.Spec PyProof.Rows L2
/-- the later states of a walk -/
def Sat (pw : Option Addr) (k : Bool) (F1 H1 F H : Hp) : Prop := if k then Step pw F1 H1 F H else Same F1 F ∧ Same F H ∧ WOk F H pw
theorem Sat.get {pw : Option Addr} {k : Bool} {F1 H1 F H : Hp} (h : Sat pw k F1 H1 F H) : Same F1 F ∧ Same F H ∧ WOk F H pw := by
  cases k with
  | true => exact ⟨Step.f h, Step.fh h, Step.w h⟩
  | false => exact h
theorem len_walk {J : It} {n m : Nat} {G : Hp → Prop} {Y : Nat → Hp → V → Hp → Prop} (w : Walk J m G Y) (e : n = m) : Walk J n G Y := e ▸ w
structure ItOk (K : Frag) (pw : Option Addr) (S : Hp → Hp → Prop) (J : It) (items : List D) : Prop where
  ex : ∃ (G : Hp → Prop) (Y : Nat → Hp → V → Hp → Prop), Walk J items.length G Y ∧ (∀ F H, S F H → G H) ∧ ∀ i x F H H', i < items.length → S F H → Y i H x H' → ∃ F' d, items[i]? = some d ∧ Step pw F H F' H' ∧ Rp K F' x d
def IO (X : Cx) (pw : Option Addr) (tg iter : Expr) (k : Bool) (f : Env → W (List D)) : Prop :=
  ∃ wi, PI X tg iter wi ∧ ∀ (σ : St) (H0 F H : Hp) (Γ : Env) (R : List D → Prop) (Q : It → Hp → Prop), Base X.K pw H0 F H σ Γ → f Γ R →
    (∀ items F1 H1 J, R items → Step pw F H F1 H1 → ItOk X.K pw (Sat pw k F1 H1) J items → Q J H1) → wi σ H Q
section
variable {X : Cx} {pw : Option Addr} {tg e e2 e3 : Expr} {fe : Env → W D} {k : Bool} {pos : Pos}
def iSeq (K : Frag) (te : TE) : TI := fun σ H R => te σ H fun x H1 => (∃ a, x = .ref a ∧ (∃ xs, SqL K H1 a xs) ∧ R (Itl K a) H1) ∨ (∃ a, x = .ref a ∧ (∃ xs, SqT K H1 a xs) ∧ R (Itt K a) H1) ∨ ∃ z, x = .str z ∧ R (Its z) H1
theorem pi_seq {te : TE} (he : PE X e te) : PI X tg e (iSeq X.K te) := ⟨fun pins s σ H R I h => thn (he.run pins s σ H _ I h) fun v s1 ⟨x, H1, I1, r1, q1⟩ => by
  rcases q1 with ⟨a, rfl, ⟨xs, hq⟩, q⟩ | ⟨a, rfl, ⟨xs, hq⟩, q⟩ | ⟨z, rfl, q⟩
  · cases r1
    obtain ⟨us, _, pl, _⟩ := I1.list hq
    exact wpAny_pyIter_list pl.isList (pi_one (tk := s1.toks) I1 _ (turn_list a _) ⟨_, Heap.get?_push_size _ rfl, rfl, rfl⟩ q)
  · cases r1
    obtain ⟨us, _, pl, _⟩ := I1.tuple hq
    exact wpAny_pyIter_tuple (show s1.heap.IsTuple a us.toArray from pl) (pi_one (tk := s1.toks) I1 _ (turn_tuple a _) ⟨_, Heap.get?_push_size _ rfl, rfl, rfl⟩ q)
  · obtain ⟨t, rfl⟩ := r1
    cases hz : z.cps.all (· < 128) with
    | true => exact wpAny_pyIter_ascii hz (pi_one (tk := s1.toks) I1 _ (turn_str _ z t _ (.inl rfl)) ⟨_, Heap.get?_push_size _ rfl, rfl, rfl⟩ q)
    | false => exact wpAny_pyIter_wide hz (pi_one (tk := s1.toks) I1 _ (turn_str _ z t _ (.inr rfl)) ⟨_, Heap.get?_push_size _ rfl, rfl, rfl⟩ q)⟩
theorem it_list {K : Frag} {F1 : Hp} {S : Hp → Hp → Prop} {a : Addr} {xs : List V} {ds : List D} (r : RpL K F1 xs ds) (hS : ∀ F H, S F H → Same F1 F ∧ Same F H ∧ WOk F H pw) (h : ∀ F H, S F H → H a = some (.lst xs)) : ItOk K pw S (Itl K a) ds :=
  ⟨⟨_, _, r.length ▸ walk_list (xs := xs), fun F H s => .of (h F H s), fun i x F H H' hi s ⟨e, ex⟩ => by
    subst e
    obtain ⟨d, hd, rd⟩ := r.getV ex
    obtain ⟨s1, s2, s3⟩ := hS _ _ s
    exact ⟨F, d, hd, .refl s2 s3, rd.mono s1⟩⟩⟩
theorem it_tup {K : Frag} {F1 : Hp} {S : Hp → Hp → Prop} {a : Addr} {xs : List V} {ds : List D} (r : RpL K F1 xs ds) (hS : ∀ F H, S F H → Same F1 F ∧ Same F H ∧ WOk F H pw) (h : SqT K F1 a xs) : ItOk K pw S (Itt K a) ds :=
  ⟨⟨_, _, r.length ▸ walk_tup (xs := xs), fun F H s => Same.sqT (hS _ _ s).2.1 (Same.sqT (hS _ _ s).1 h), fun i x F H H' hi s ⟨e, ex⟩ => by
    subst e
    obtain ⟨d, hd, rd⟩ := r.getV ex
    obtain ⟨s1, s2, s3⟩ := hS _ _ s
    exact ⟨F, d, hd, .refl s2 s3, rd.mono s1⟩⟩⟩
theorem it_str {K : Frag} {F1 : Hp} {S : Hp → Hp → Prop} {z : Str} (hS : ∀ F H, S F H → Same F1 F ∧ Same F H ∧ WOk F H pw) : ItOk K pw S (Its z) (z.cps.toList.map fun c => .str ⟨#[c]⟩) := by
  have e : (z.cps.toList.map fun c => PyData.str ⟨#[c]⟩).length = z.cps.size := by simp
  refine ⟨⟨_, _, e ▸ walk_str (z := z), fun F H s => trivial, fun i x F H H' hi s ⟨e, c, hc, ex⟩ => ?_⟩⟩
  subst e ex
  obtain ⟨s1, s2, s3⟩ := hS _ _ s
  refine ⟨F, _, ?_, .refl s2 s3, .str ⟨#[c]⟩⟩
  rw [List.getElem?_map]
  simp only [Array.getElem?_toList, hc, Option.map_some]
theorem io_seq (he : EO X pw (if k then .peek else .val) e fe) : IO X pw tg e k (fun Γ => W.bind (W.bind (fe Γ) fun d => W.ok [d]) fun as => W.opt (walkD .seq as)) := ⟨_, pi_seq he.pe, fun σ H0 F H Γ R Q B hf kk => ⟨H0, F, Γ, _, B, hf, fun d F1 H1 v hr st rs => by
  obtain ⟨items, hi, hr⟩ := hr
  have hS : ∀ F H, Sat pw k F1 H1 F H → Same F1 F ∧ Same F H ∧ WOk F H pw := fun _ _ => Sat.get
  have nl : ∀ a xs, H1 a = some (.lst xs) → ∀ F H, Step pw F1 H1 F H → H a = some (.lst xs) := fun a xs e F H st2 => st2.keep a _ e fun z => by
    have w := st.w
    subst z
    obtain ⟨_, l, m, ns, q, _⟩ := w
    rw [e] at q
    cases q
  cases k with
  | true =>
    have rs : RpH X.K pw F1 H1 v d := rs
    cases rs <;> try (exfalso; revert hi; simp [walkD]; done)
    · cases hi
      exact .inr (.inr ⟨_, rfl, kk _ F1 H1 _ hr st (it_str hS)⟩)
    · rename_i a xs ds h1 r1
      cases hi
      exact .inl ⟨a, rfl, ⟨xs, .of h1⟩, kk _ F1 H1 _ hr st (it_list r1 hS fun F H s => nl a xs h1 F H s)⟩
    · rename_i a xs ds h1 r1
      cases hi
      exact .inr (.inl ⟨a, rfl, ⟨xs, Same.sqT st.fh h1⟩, kk _ F1 H1 _ hr st (it_tup r1 hS h1)⟩)
  | false =>
    have rs : Rp X.K F1 v d := rs
    cases rs <;> try (exfalso; revert hi; simp [walkD]; done)
    · cases hi
      exact .inr (.inr ⟨_, rfl, kk _ F1 H1 _ hr st (it_str hS)⟩)
    · rename_i a xs ds h1 r1
      cases hi
      exact .inl ⟨a, rfl, ⟨xs, .of (st.fh _ _ h1)⟩, kk _ F1 H1 _ hr st (it_list r1 hS fun F H s => s.2.1 _ _ (s.1 _ _ h1))⟩
    · rename_i a xs ds h1 r1
      cases hi
      exact .inr (.inl ⟨a, rfl, ⟨xs, Same.sqT st.fh h1⟩, kk _ F1 H1 _ hr st (it_tup r1 hS h1)⟩)⟩⟩
theorem RpK.getV {K : Frag} {F : Hp} : ∀ {kvs : List (Key × V)} {ps : List (D × D)} {i : Nat} {kv : Key × V}, RpK K F kvs ps → kvs[i]? = some kv → ∃ d, ps[i]? = some (kD kv.1, d) ∧ Rp K F kv.2 d
  | _, _, i, kv, .nil, e => by simp at e
  | _, _, 0, kv, .cons h _, e => by simp at e; subst e; exact ⟨_, rfl, h⟩
  | _, _, i + 1, kv, .cons _ r, e => by
    obtain ⟨d, h1, h2⟩ := RpK.getV (i := i) r (by simpa using e)
    exact ⟨d, by simpa using h1, h2⟩
theorem io_keys (he : EO X pw .val e fe) : IO X pw tg e k (fun Γ => W.bind (W.bind (fe Γ) fun d => W.ok [d]) fun as => W.opt (walkD .keys as)) := ⟨_, pi_keys he.pe, fun σ H0 F H Γ R Q B hf kk => ⟨H0, F, Γ, _, B, hf, fun d F1 H1 v hr st rs => by
  obtain ⟨items, hi, hr⟩ := hr
  have rs : Rp X.K F1 v d := rs
  cases rs <;> try (exfalso; revert hi; simp [walkD]; done)
  rename_i a o kvs ps h1 r1
  cases hi
  refine ⟨a, o, rfl, .inl ⟨kvs, st.fh _ _ h1, kk _ F1 H1 _ hr st ⟨_, _, len_walk walk_keys (by rw [List.length_map, r1.length]), fun F H s => (Sat.get s).2.1 _ _ ((Sat.get s).1 _ _ h1), fun i x F H H' hi s ⟨e, kx, vx, ex, ek⟩ => ?_⟩⟩⟩
  · subst e ek
    obtain ⟨s1, s2, s3⟩ := Sat.get s
    obtain ⟨d, hd, rd⟩ := r1.getV ex
    exact ⟨F, kD kx, by rw [List.getElem?_map, hd]; rfl, .refl s2 s3, rp_key kx⟩⟩⟩
theorem io_values {apos cpos : Pos} (he : EO X pw .val e fe) (hbase : attributeBase e "values" X.env (eval e X.env) = eval e X.env) (hline : (apos.endLine == cpos.line) = true) :
    IO X pw tg (.Call (.Attribute e "values" apos) [] [] cpos) k (fun Γ => W.bind (W.bind (fe Γ) fun d => W.ok [d]) fun as => W.opt (walkD .values as)) := ⟨_, pi_values he.pe hbase hline, fun σ H0 F H Γ R Q B hf kk => ⟨H0, F, Γ, _, B, hf, fun d F1 H1 v hr st rs => by
  obtain ⟨items, hi, hr⟩ := hr
  have rs : Rp X.K F1 v d := rs
  cases rs <;> try (exfalso; revert hi; simp [walkD]; done)
  rename_i a o kvs ps h1 r1
  cases hi
  refine ⟨a, o, kvs, rfl, st.fh _ _ h1, kk _ F1 H1 _ hr st ⟨_, _, len_walk walk_values (by rw [List.length_map, r1.length]), fun F H s => (Sat.get s).2.1 _ _ ((Sat.get s).1 _ _ h1), fun i x F H H' hi s ⟨e, kx, ex⟩ => ?_⟩⟩
  · subst e
    obtain ⟨s1, s2, s3⟩ := Sat.get s
    obtain ⟨d, hd, rd⟩ := r1.getV ex
    exact ⟨F, d, by rw [List.getElem?_map, hd]; rfl, .refl s2 s3, rd.mono s1⟩⟩⟩
/-- a new pair that nobody changes -/
theorem pair_step {K : Frag} {F H : Hp} {T : Addr} {x y : V} {a b : D} (s2 : Same F H) (s3 : WOk F H pw) (hT : H T = none) (rx : Rp K F x a) (ry : Rp K F y b) : Step pw F H (L2.upd F T (.tup [x, y])) (L2.upd H T (.tup [x, y])) ∧ Rp K (L2.upd F T (.tup [x, y])) (.ref T) (.tuple [a, b]) := by
  have st := Step.laidF (pw := pw) (o := .tup [x, y]) s2 s3 hT
  exact ⟨st, .tup (.of upd_same) (.cons (rx.mono st.f) (.cons (ry.mono st.f) .nil))⟩
theorem io_items {apos cpos tpos : Pos} {elts : List Expr} {kk : Nat} (he : EO X pw .val e fe) (hbase : attributeBase e "items" X.env (eval e X.env) = eval e X.env) (hline : (apos.endLine == cpos.line) = true) :
    IO X pw (.Tuple elts kk tpos) (.Call (.Attribute e "items" apos) [] [] cpos) k (fun Γ => W.bind (W.bind (fe Γ) fun d => W.ok [d]) fun as => W.opt (walkD .items as)) := ⟨_, pi_items he.pe hbase hline, fun σ H0 F H Γ R Q B hf kk => ⟨H0, F, Γ, _, B, hf, fun d F1 H1 v hr st rs => by
  obtain ⟨items, hi, hr⟩ := hr
  have rs : Rp X.K F1 v d := rs
  cases rs <;> try (exfalso; revert hi; simp [walkD]; done)
  rename_i a o kvs ps h1 r1
  cases hi
  refine ⟨a, o, kvs, rfl, st.fh _ _ h1, kk _ F1 H1 _ hr st ⟨_, _, len_walk walk_items (by rw [List.length_map, r1.length]), fun F H s => (Sat.get s).2.1 _ _ ((Sat.get s).1 _ _ h1), fun i x F H H' hi s ⟨T, kx, vx, e1, hT, e2, ex, ey⟩ => ?_⟩⟩
  · subst e1 e2
    obtain ⟨s1, s2, s3⟩ := Sat.get s
    obtain ⟨kv, hkv, ekv⟩ := Option.map_eq_some_iff.mp ex
    subst ekv
    have ey : kvs[i]?.map Prod.snd = some vx := ey
    rw [hkv] at ey
    cases ey
    obtain ⟨d, hd, rd⟩ := r1.getV hkv
    obtain ⟨t1, t2⟩ := pair_step (pw := pw) s2 s3 hT (rp_key (K := X.K) (F := F) kv.1) (rd.mono s1)
    exact ⟨_, _, by rw [List.getElem?_map, hd]; rfl, t1, t2⟩⟩⟩
theorem it_range {K : Frag} {F1 : Hp} {S : Hp → Hp → Prop} {a b : Int} (hS : ∀ F H, S F H → Same F1 F ∧ Same F H ∧ WOk F H pw) : ItOk K pw S (Itr a (b - a).toNat) (rangeL a b) := by
  have e : (rangeL a b).length = (b - a).toNat := by simp [rangeL]
  refine ⟨⟨_, _, len_walk (walk_range (lo := a)) e, fun F H s => trivial, fun i x F H H' hi s ⟨e1, ex⟩ => ?_⟩⟩
  subst e1 ex
  obtain ⟨s1, s2, s3⟩ := hS _ _ s
  refine ⟨F, _, ?_, .refl s2 s3, .int (a + i)⟩
  rw [e] at hi
  unfold rangeL
  rw [List.getElem?_map, List.getElem?_range hi]
  rfl
theorem rp1 {K : Frag} {F : Hp} : ∀ {vs : List V} {ds : List D}, RpL K F vs ds → vs.length = 1 → ∃ v d, vs = [v] ∧ ds = [d] ∧ Rp K F v d
  | _, _, .nil, h => by simp at h
  | _, _, .cons r .nil, _ => ⟨_, _, rfl, rfl, r⟩
  | _, _, .cons _ (.cons _ _), h => by simp at h
theorem rp2 {K : Frag} {F : Hp} : ∀ {vs : List V} {ds : List D}, RpL K F vs ds → vs.length = 2 → ∃ v v2 d d2, vs = [v, v2] ∧ ds = [d, d2] ∧ Rp K F v d ∧ Rp K F v2 d2
  | _, _, .nil, h => by simp at h
  | _, _, .cons _ .nil, h => by simp at h
  | _, _, .cons r (.cons r2 .nil), _ => ⟨_, _, _, _, rfl, rfl, r, r2⟩
  | _, _, .cons _ (.cons _ (.cons _ _)), h => by simp at h
theorem small_get {a : Int} (h : smallI a = true) : -(2 ^ 62) ≤ a ∧ a < 2 ^ 62 := by
  unfold smallI at h
  simp only [Bool.and_eq_true, decide_eq_true_eq] at h
  omega
theorem io_range1 {p : Pos} (hg : Gl X "range") (hm : X.mg "range" = none) {fa : Env → W (List D)} (ha : AO X pw false [e] fa) (hs : starEach [e] X.env = [(false, eval e X.env)]) :
    IO X pw tg (.Call (.Name "range" p) [e] [] pos) k (fun Γ => W.bind (fa Γ) fun as => W.opt (walkD .range as)) := ⟨_, pi_range1 hg hm ha.pa hs, fun σ H0 F H Γ R Q B hf kk => ⟨H0, F, Γ, _, B, hf, fun ds F1 H1 vs hr st rs hl => by
  obtain ⟨items, hi, hr⟩ := hr
  obtain ⟨v, d, rfl, rfl, r1⟩ := rp1 rs hl
  cases r1 <;> try (exfalso; revert hi; simp [walkD]; done)
  rename_i b
  obtain ⟨hb, rfl⟩ := gd_some hi
  obtain ⟨h1, h2⟩ := small_get hb
  refine ⟨b, rfl, h1, h2, kk _ F1 H1 _ hr st ?_⟩
  have := it_range (K := X.K) (pw := pw) (F1 := F1) (S := Sat pw k F1 H1) (a := 0) (b := b) fun _ _ => Sat.get
  rw [Int.sub_zero] at this
  exact this⟩⟩
theorem io_range2 {p : Pos} (hg : Gl X "range") (hm : X.mg "range" = none) {fa : Env → W (List D)} (ha : AO X pw false [e, e2] fa) (hs : starEach [e, e2] X.env = [(false, eval e X.env), (false, eval e2 X.env)]) (hs2 : starEach [e2] X.env = [(false, eval e2 X.env)]) :
    IO X pw tg (.Call (.Name "range" p) [e, e2] [] pos) k (fun Γ => W.bind (fa Γ) fun as => W.opt (walkD .range as)) := ⟨_, pi_range2 hg hm ha.pa hs hs2, fun σ H0 F H Γ R Q B hf kk => ⟨H0, F, Γ, _, B, hf, fun ds F1 H1 vs hr st rs hl => by
  obtain ⟨items, hi, hr⟩ := hr
  obtain ⟨v, v2, d, d2, rfl, rfl, r1, r2⟩ := rp2 rs hl
  · skip
    cases r1 <;> try (exfalso; revert hi; simp [walkD]; done)
    cases r2 <;> try (exfalso; revert hi; simp [walkD]; done)
    rename_i a b
    obtain ⟨hb, rfl⟩ := gd_some hi
    rw [Bool.and_eq_true] at hb
    obtain ⟨h1, h2⟩ := small_get hb.1
    obtain ⟨h3, h4⟩ := small_get hb.2
    exact ⟨a, b, rfl, ⟨h1, h2, h3, h4⟩, kk _ F1 H1 _ hr st (it_range fun _ _ => Sat.get)⟩⟩⟩
theorem io_zip {p tpos : Pos} {elts : List Expr} {kq : Nat} (hg : Gl X "zip") (hm : X.mg "zip" = none) {fa : Env → W (List D)} (ha : AO X pw false [e, e2] fa) (hs : starEach [e, e2] X.env = (false, eval e X.env) :: starEach [e2] X.env) (hpl : (backTo pos (starEach [e2] X.env)).any (·.1) = false) :
    IO X pw (.Tuple elts kq tpos) (.Call (.Name "zip" p) [e, e2] [] pos) k (fun Γ => W.bind (fa Γ) fun as => W.opt (walkD .zip as)) := ⟨_, RZ.pi_zipA hg hm ha.pa hs hpl, fun σ H0 F H Γ R Q B hf kk => ⟨H0, F, Γ, _, B, hf, fun ds F1 H1 vs hr st rs hl => by
  obtain ⟨items, hi, hr⟩ := hr
  obtain ⟨v, v2, d, d2, rfl, rfl, r1, r2⟩ := rp2 rs hl
  · skip
    cases r1 <;> try (exfalso; revert hi; simp [walkD]; done)
    · cases r2 <;> try (exfalso; revert hi; simp [walkD]; done)
      rename_i a xs ds h1 r1 b ys es h2 r2
      cases hi
      refine ⟨a, b, xs, ys, rfl, .inl ⟨.of (st.fh _ _ h1), .of (st.fh _ _ h2), kk _ F1 H1 _ hr st ⟨_, _, walk_zip (xs := xs) (ys := ys) (by rw [List.length_zipWith, r1.length, r2.length]), fun F H s => ?_, fun i x F H H' hi s ⟨T, x1, x2, e1, hT, e2, ex, ey⟩ => ?_⟩⟩⟩
      · obtain ⟨s1, s2, _⟩ := Sat.get s
        exact ⟨.of (s2 _ _ (s1 _ _ h1)), .of (s2 _ _ (s1 _ _ h2))⟩
      · subst e1 e2
        obtain ⟨s1, s2, s3⟩ := Sat.get s
        obtain ⟨d1, hd1, rd1⟩ := r1.getV ex
        obtain ⟨d2, hd2, rd2⟩ := r2.getV ey
        obtain ⟨t1, t2⟩ := pair_step (pw := pw) s2 s3 hT (rd1.mono s1) (rd2.mono s1)
        exact ⟨_, _, by rw [List.getElem?_zipWith, hd1, hd2], t1, t2⟩
    · cases r2 <;> try (exfalso; revert hi; simp [walkD]; done)
      rename_i a xs ds h1 r1 b ys es h2 r2
      cases hi
      have wz : Walk (RZ.ItzT X.K a b) (min xs.length ys.length) (fun H => SqT X.K H a xs ∧ SqT X.K H b ys) (YPair (fun i => xs[i]?) (fun i => ys[i]?)) := by
        refine ⟨fun i _ hi q => ?_, fun _ q => ⟨xs, ys, q.1, q.2, by omega⟩, fun i H v H' _ q y => ?_⟩
        · have h1 : i < xs.length := by omega
          have h2 : i < ys.length := by omega
          exact ⟨xs, ys, xs[i], ys[i], q.1, q.2, by simp [h1], by simp [h2]⟩
        · obtain ⟨T, x, z, e1, e2, e3, e4, e5⟩ := y
          exact ⟨T, x, z, e1, e2, e3, e4 xs q.1, e5 ys q.2⟩
      refine ⟨a, b, xs, ys, rfl, .inr ⟨Same.sqT st.fh h1, Same.sqT st.fh h2, kk _ F1 H1 _ hr st ⟨_, _, len_walk wz (by rw [List.length_zipWith, r1.length, r2.length]), fun F H s => ?_, fun i x F H H' hi s ⟨T, x1, x2, e1, hT, e2, ex, ey⟩ => ?_⟩⟩⟩
      · obtain ⟨s1, s2, _⟩ := Sat.get s
        exact ⟨Same.sqT s2 (Same.sqT s1 h1), Same.sqT s2 (Same.sqT s1 h2)⟩
      · subst e1 e2
        obtain ⟨s1, s2, s3⟩ := Sat.get s
        obtain ⟨d1, hd1, rd1⟩ := r1.getV ex
        obtain ⟨d2, hd2, rd2⟩ := r2.getV ey
        obtain ⟨t1, t2⟩ := pair_step (pw := pw) s2 s3 hT (rd1.mono s1) (rd2.mono s1)
        exact ⟨_, _, by rw [List.getElem?_zipWith, hd1, hd2], t1, t2⟩⟩⟩
theorem io_enum {p tpos : Pos} {elts : List Expr} {kq : Nat} (hg : Gl X "enumerate") (hm : X.mg "enumerate" = none) {fa : Env → W (List D)} (ha : AO X pw false [e] fa) (hs : starEach [e] X.env = [(false, eval e X.env)]) :
    IO X pw (.Tuple elts kq tpos) (.Call (.Name "enumerate" p) [e] [] pos) k (fun Γ => W.bind (fa Γ) fun as => W.opt (walkD .enum as)) := ⟨_, pi_enum hg hm ha.pa hs, fun σ H0 F H Γ R Q B hf kk => ⟨H0, F, Γ, _, B, hf, fun ds F1 H1 vs hr st rs hl => by
  obtain ⟨items, hi, hr⟩ := hr
  obtain ⟨v, d, rfl, rfl, r1⟩ := rp1 rs hl
  · skip
    cases r1 <;> try (exfalso; revert hi; simp [walkD]; done)
    rename_i a xs ds h1 r1
    cases hi
    refine ⟨a, xs, rfl, .of (st.fh _ _ h1), kk _ F1 H1 _ hr st ⟨_, _, len_walk (walk_enum (xs := xs)) (by rw [List.length_map, List.length_zipIdx, r1.length]), fun F H s => .of ((Sat.get s).2.1 _ _ ((Sat.get s).1 _ _ h1)), fun i x F H H' hi s ⟨T, x1, x2, e1, hT, e2, ex, ey⟩ => ?_⟩⟩
    subst e1 e2
    obtain ⟨s1, s2, s3⟩ := Sat.get s
    cases ex
    obtain ⟨d2, hd2, rd2⟩ := r1.getV ey
    obtain ⟨t1, t2⟩ := pair_step (pw := pw) s2 s3 hT (Rp.int (K := X.K) (F := F) (i : Nat)) (rd2.mono s1)
    exact ⟨_, _, by rw [List.getElem?_map, List.getElem?_zipIdx, hd2]; simp, t1, t2⟩⟩⟩
end
end Ly

set_option maxRecDepth 100000
set_option maxHeartbeats 1000000
/-! Targets, comprehensions. -/
namespace Ly
open PySem PySem.Spec PyProof.Rows L2
theorem wipe_at (σ : St) (j : Nat) : ∀ vs : List Nat, (wipe σ vs)[j]? = if j ∈ vs then (if j < σ.length then some none else none) else σ[j]?
  | [] => by simp [wipe]
  | v :: vs => by
    have ih := wipe_at σ j vs
    unfold wipe
    by_cases e : v = j
    · subst e
      by_cases h : v < σ.length
      · rw [List.getElem?_set_self (by rw [wipe_length]; exact h)]; simp [h]
      · rw [List.getElem?_eq_none (by rw [List.length_set, wipe_length]; omega)]; simp [h]
    · rw [List.getElem?_set_ne e, ih]
      simp [Ne.symm e]
theorem wipe_set {σ : St} {i : Nat} {o : Option V} {vs : List Nat} (h : i ∈ vs) : wipe (σ.set i o) vs = wipe σ vs := by
  apply List.ext_getElem?
  intro j
  rw [wipe_at, wipe_at]
  by_cases e : j ∈ vs
  · simp [e]
  · rw [if_neg e, if_neg e, List.getElem?_set_ne (fun z => e (by rw [← z]; exact h))]
theorem kill_get (i : Nat) : ∀ (ks : List Nat) (Γ : Env), get (kill ks Γ) i = if i ∈ ks then .non else get Γ i
  | [], Γ => by simp [kill]
  | k :: ks, Γ => by
    have ih := kill_get i ks (Γ.set k .non)
    have e : kill (k :: ks) Γ = kill ks (Γ.set k .non) := rfl
    rw [e, ih]
    by_cases h : i ∈ ks
    · simp [h]
    · by_cases z : i = k
      · subst z
        rcases Nat.lt_or_ge i Γ.length with q | q
        · rw [get_set q]; simp
        · rw [List.set_eq_of_length_le q, get_out q]; simp
      · rcases Nat.lt_or_ge k Γ.length with q | q
        · rw [get_set q]; simp [z, h]
        · rw [List.set_eq_of_length_le q]; simp [z, h]
theorem kill_length : ∀ (ks : List Nat) (Γ : Env), (kill ks Γ).length = Γ.length
  | [], Γ => rfl
  | k :: ks, Γ => by
    have e : kill (k :: ks) Γ = kill ks (Γ.set k .non) := rfl
    rw [e, kill_length ks]; simp
section
variable {K : Frag} {pw : Option Addr} {H0 F H F' H' : Hp} {σ : St} {Γ : Env}
theorem EnvOk.wipe (E : EnvOk K pw H0 F H σ Γ) (vs : List Nat) : EnvOk K pw H0 F H (L2.wipe σ vs) (Ly.kill vs Γ) where
  len := by rw [kill_length, wipe_length, E.len]
  slot := fun i => by
    rw [kill_get]
    by_cases h : i ∈ vs
    · rw [if_pos h]; trivial
    · rw [if_neg h]
      have q := E.slot i
      have e : (L2.wipe σ vs)[i]? = σ[i]? := by rw [wipe_at, if_neg h]
      generalize get Γ i = sl at q ⊢
      cases sl with
      | non => trivial
      | val d => obtain ⟨v, e1, r⟩ := q; exact ⟨v, e.trans e1, r⟩
      | own d => obtain ⟨p, e1, r⟩ := q; exact ⟨p, e.trans e1, r⟩
      | obj => obtain ⟨p, e1, r⟩ := q; exact ⟨p, e.trans e1, r⟩
      | scr ns => obtain ⟨p, e1, r⟩ := q; exact ⟨p, e.trans e1, r⟩
  apart := fun i j d d' p h1 h2 e1 e2 => by
    rw [kill_get] at h1 h2
    by_cases hi : i ∈ vs
    · rw [if_pos hi] at h1; cases h1
    · by_cases hj : j ∈ vs
      · rw [if_pos hj] at h2; cases h2
      · rw [if_neg hi] at h1
        rw [if_neg hj] at h2
        rw [wipe_at, if_neg hi] at e1
        rw [wipe_at, if_neg hj] at e2
        exact E.apart i j d d' p h1 h2 e1 e2
theorem Base.wipe (B : Base K pw H0 F H σ Γ) (vs : List Nat) : Base K pw H0 F H (L2.wipe σ vs) (Ly.kill vs Γ) := ⟨B.s, B.w, B.e.wipe vs⟩
end
/-! ### targets -/
section
variable {X : Cx} {pw : Option Addr} {tg e e2 e3 : Expr} {fe : Env → W D} {k : Bool} {pos : Pos}
def GO (X : Cx) (pw : Option Addr) (tg : Expr) (t : Tg) : Prop :=
  ∃ g, PG X tg g ∧ ∀ (σ : St) (H0 F H : Hp) (Γ : Env) (v : V) (d : D) (Γ' : Env) (Q : St → Hp → Prop), σ.length = X.N.length → Base X.K pw H0 F H σ Γ → Rp X.K F v d → tgB t d Γ = some Γ' →
    (∀ σ', Base X.K pw H0 F H σ' Γ' → σ'.length = X.N.length → (∀ vs, (∀ i ∈ tgs t, i ∈ vs) → wipe σ' vs = wipe σ vs) → Q σ' H) → g v σ H Q
theorem go_name {i : Nat} {x : Str} (hN : X.N.Nodup) (hi : X.N[i]? = some x) (hx : Loc X.env.scope x) (hf : X.fn x = true ∨ X.env.scope.names.lookup x = some .local) : GO X pw (.Name x pos) (.name i) :=
  ⟨_, pg_name hN hi hx hf, fun σ H0 F H Γ v d Γ' Q hl B r e q => by
    have hi' : i < σ.length := by rw [hl]; exact (List.getElem?_eq_some_iff.mp hi).1
    cases e
    exact q _ ⟨B.s, B.w, B.e.put hi' r⟩ (by rw [List.length_set, hl]) fun vs h => wipe_set (h i (by simp [tgs]))⟩
def GOs (X : Cx) (pw : Option Addr) (es : List Expr) (ts : List Nat) : Prop :=
  ∃ g, PGs X es g ∧ es.length = ts.length ∧ ∀ (σ : St) (H0 F H : Hp) (Γ : Env) (vs : List V) (ds : List D) (Q : St → Hp → Prop), σ.length = X.N.length → Base X.K pw H0 F H σ Γ → RpL X.K F vs ds → vs.length = ts.length →
    (∀ σ', Base X.K pw H0 F H σ' ((ts.zip ds).foldl (fun Γ p => Γ.set p.1 (.val p.2)) Γ) → σ'.length = X.N.length → (∀ ws, (∀ i ∈ ts, i ∈ ws) → wipe σ' ws = wipe σ ws) → Q σ' H) → g vs σ H Q
theorem gos_nil : GOs X pw [] [] := ⟨_, pgs_nil, rfl, fun σ H0 F H Γ vs ds Q hl B r hv q => by
  cases r with
  | nil => exact ⟨rfl, q σ B hl fun _ _ => rfl⟩
  | cons _ _ => simp at hv⟩
theorem gos_cons {x : Str} {p : Pos} {es : List Expr} {i : Nat} {ts : List Nat} (h : GO X pw (.Name x p) (.name i)) (hs : GOs X pw es ts) : GOs X pw (.Name x p :: es) (i :: ts) := by
  obtain ⟨g, pg, hg⟩ := h
  obtain ⟨gs, pgs, hl2, hgs⟩ := hs
  refine ⟨_, pgs_cons pg pgs, by simp [hl2], fun σ H0 F H Γ vs ds Q hl B r hv q => ?_⟩
  cases r with
  | nil => simp at hv
  | @cons v vr d dr r1 r2 =>
    refine ⟨v, vr, rfl, hg σ H0 F H Γ v d _ _ hl B r1 rfl fun σ1 B1 hl1 w1 => hgs σ1 H0 F H _ vr dr Q hl1 B1 r2 (by simpa using hv) fun σ2 B2 hl2 w2 => q σ2 B2 hl2 fun ws hw => ?_⟩
    rw [w2 ws fun j hj => hw j (by simp [hj]), w1 ws fun j hj => hw j (by
      have : j = i := by simpa [tgs] using hj
      simp [this])]
def allNames : List Expr → Bool
  | [] => true
  | .Name _ _ :: r => allNames r
  | _ :: _ => false
theorem names_len {env : PySem.Env} : ∀ {es : List Expr}, allNames es = true → (assignEach es env).length = es.length ∧ (assignEach es env).findIdx? (·.1) = none
  | [], _ => ⟨rfl, rfl⟩
  | e :: r, h => by
    cases e <;> try (simp [allNames] at h; done)
    obtain ⟨h1, h2⟩ := names_len (env := env) (es := r) h
    rename_i x p
    have e1 : assignEach (.Name x p :: r) env = (false, assign (.Name x p) env) :: assignEach r env := rfl
    rw [e1]
    refine ⟨by simp [h1], ?_⟩
    rw [List.findIdx?_cons, h2]
    rfl
theorem go_tup {es : List Expr} {ts : List Nat} {kk : Nat} (hc : X.calm = true) (hn : allNames es = true) (h : GOs X pw es ts) : GO X pw (.Tuple es kk pos) (.tup ts) := by
  obtain ⟨gs, pgs, hl2, hgs⟩ := h
  obtain ⟨n1, n2⟩ := names_len (env := X.env) hn
  refine ⟨_, pg_tup (n := es.length) hc pgs n1 n2, fun σ H0 F H Γ v d Γ' Q hl B r e q => ?_⟩
  cases r <;> try (exfalso; revert e; simp [tgB]; done)
  rename_i a xs ds h1 r1
  obtain ⟨h2, rfl⟩ := gd_some e
  have h2 := of_decide_eq_true h2
  exact ⟨a, xs, rfl, Same.sqT B.s h1, by rw [hl2, h2, r1.length], hgs σ H0 F H Γ xs ds Q hl B r1 (by rw [h2, r1.length]) q⟩
/-! ### comprehensions -/
def tT (K : Frag) (pw : Option Addr) (f : Env → W D) : TT := fun σ H Q => ∃ H0 F Γ, ∃ R : Bool → Prop, Base K pw H0 F H σ Γ ∧ f Γ (fun d => ∃ c, boolD d = some c ∧ R c) ∧ ∀ c F' H', R c → Step pw F H F' H' → Q c H'
theorem TO.pt {f : Env → W D} (h : TO X pw e f) : PT X e (tT X.K pw f) := ⟨fun pins s σ H Q I ⟨H0, F, Γ, R, B, hf, k⟩ =>
  thn (h.run pins s σ H0 F H Γ R I B hf) fun u s' ⟨F', H', I', st, hr⟩ => ⟨H', I', k u F' H' hr st⟩⟩
/-- the tests of a clause -/
def IfO (X : Cx) (pw : Option Addr) (ifs : List Expr) (f : Env → W Bool) : Prop :=
  ∃ t, PTs X ifs t ∧ ∀ (σ : St) (H0 F H : Hp) (Γ : Env) (R : Bool → Prop) (Q : Bool → Hp → Prop), Base X.K pw H0 F H σ Γ → f Γ R → (∀ c F' H', R c → Step pw F H F' H' → Q c H') → t σ H Q
theorem ifo_nil : IfO X pw [] (fun _ => W.ok true) := ⟨_, pts_nil, fun σ H0 F H Γ R Q B hf k => k true F H hf B.refl⟩
theorem ifo_one {f : Env → W D} (h : TO X pw e f) : IfO X pw [e] (fun Γ => W.bind (f Γ) fun x => W.bind (W.opt (boolD x)) fun c => if c then W.ok true else W.ok false) :=
  ⟨_, pts_one h.pt, fun σ H0 F H Γ R Q B hf k => ⟨H0, F, Γ, R, B, by
    have e : (fun d => ∃ c, boolD d = some c ∧ R c) = fun x => (W.bind (W.opt (boolD x)) fun c => if c then W.ok true else W.ok false) R := by
      funext x
      apply propext
      constructor
      · rintro ⟨c, hc, hr⟩
        exact ⟨c, hc, by cases c <;> exact hr⟩
      · rintro ⟨c, hc, hr⟩
        exact ⟨c, hc, by cases c <;> exact hr⟩
    rw [e]
    exact hf, k⟩⟩
/-- a clause over its items, the invariant -/
structure CInv (K : Frag) (pw : Option Addr) (F1 H1 : Hp) (L : Addr) (acc : List D) (F H : Hp) : Prop where
  st : Step pw F1 H1 F H
  fd : F L = none
  hd : ∃ vs, H L = some (.lst vs) ∧ RpL K F vs acc
theorem CInv.step {K : Frag} {F1 H1 F H F' H' : Hp} {L : Addr} {acc : List D} (c : CInv K pw F1 H1 L acc F H) (st : Step pw F H F' H') : CInv K pw F1 H1 L acc F' H' := by
  obtain ⟨vs, h1, h2⟩ := c.hd
  have np : some L ≠ pw := fun z => by
    have w := c.st.w
    subst z
    obtain ⟨_, l, m, ns, q, _⟩ := w
    rw [h1] at q
    cases q
  refine ⟨c.st.trans st, ?_, vs, st.keep _ _ h1 np, h2.mono st.f⟩
  cases q : F' L with
  | none => rfl
  | some o =>
    have := st.new L c.fd (by rw [q]; exact fun z => nomatch z)
    rw [h1] at this
    cases this
theorem CInv.push {K : Frag} {F1 H1 F H : Hp} {L : Addr} {acc : List D} {v : V} {d : D} (c : CInv K pw F1 H1 L acc F H) (hD : H1 L = none) (r : Rp K F v d) : ∃ vs, H L = some (.lst vs) ∧ vs.length = acc.length ∧ CInv K pw F1 H1 L (acc ++ [d]) F (L2.upd H L (.lst (vs ++ [v]))) := by
  obtain ⟨vs, h1, h2⟩ := c.hd
  have np : some L ≠ pw := fun z => by
    have w := c.st.w
    subst z
    obtain ⟨_, l, m, ns, q, _⟩ := w
    rw [h1] at q
    cases q
  refine ⟨vs, h1, h2.length, ⟨⟨c.st.f, fun a o e => ?_, fun a o e n => ?_, c.st.new, ?_⟩, c.fd, _, upd_same, h2.append (.cons r .nil)⟩⟩
  · rw [upd_ne]
    · exact c.st.fh a o e
    · intro z
      rw [z, c.fd] at e
      cases e
  · rw [upd_ne (ne_of_none e hD)]
    exact c.st.keep a o e n
  · have w := c.st.w
    cases pw with
    | none => trivial
    | some q =>
      obtain ⟨w0, l, n, ns, w1, w2, w3⟩ := w
      refine ⟨w0, l, n, ns, ?_, w2, w3⟩
      rw [upd_ne]
      · exact w1
      · intro z
        exact np (by rw [z])
end
end Ly

set_option maxRecDepth 100000
set_option maxHeartbeats 1000000
/-! Comprehensions. -/
namespace Ly
open PySem PySem.Spec PyProof.Rows L2
def tI (K : Frag) (pw : Option Addr) (k : Bool) (f : Env → W (List D)) : TI := fun σ H Q => ∃ H0 F Γ, ∃ R : List D → Prop, Base K pw H0 F H σ Γ ∧ f Γ R ∧ ∀ items F1 H1 J, R items → Step pw F H F1 H1 → ItOk K pw (Sat pw k F1 H1) J items → Q J H1
def tTs (K : Frag) (pw : Option Addr) (f : Env → W Bool) : TT := fun σ H Q => ∃ H0 F Γ, ∃ R : Bool → Prop, Base K pw H0 F H σ Γ ∧ f Γ R ∧ ∀ c F' H', R c → Step pw F H F' H' → Q c H'
def tGo (K : Frag) (pw : Option Addr) (n : Nat) (t : Tg) : TG := fun v σ H Q => ∃ H0 F Γ d Γ', σ.length = n ∧ Base K pw H0 F H σ Γ ∧ Rp K F v d ∧ tgB t d Γ = some Γ' ∧ ∀ σ', Base K pw H0 F H σ' Γ' → σ'.length = n → (∀ vs, (∀ i ∈ tgs t, i ∈ vs) → wipe σ' vs = wipe σ vs) → Q σ' H
section
variable {X : Cx} {pw : Option Addr} {tg iter elt tg1 iter1 : Expr} {k : Bool} {pos : Pos}
theorem IO.pi {f : Env → W (List D)} (h : IO X pw tg iter k f) : PI X tg iter (tI X.K pw k f) :=
  let ⟨_, p, q⟩ := h
  ⟨fun pins s σ H R I ⟨H0, F, Γ, R1, B, hf, kk⟩ => p.run pins s σ H R I (q σ H0 F H Γ R1 R B hf kk)⟩
theorem IfO.pts {ifs : List Expr} {f : Env → W Bool} (h : IfO X pw ifs f) : PTs X ifs (tTs X.K pw f) :=
  let ⟨_, p, q⟩ := h
  ⟨fun pins s σ H Q I ⟨H0, F, Γ, R1, B, hf, kk⟩ => p.run pins s σ H Q I (q σ H0 F H Γ R1 Q B hf kk)⟩
theorem GO.pg {t : Tg} (h : GO X pw tg t) : PG X tg (tGo X.K pw X.N.length t) :=
  let ⟨_, p, q⟩ := h
  ⟨fun pins s σ H v u Q I r ⟨H0, F, Γ, d, Γ', hl, B, rd, e, kk⟩ => p.run pins s σ H v u Q I r (q σ H0 F H Γ v d Γ' Q hl B rd e kk)⟩
/-- what one clause does with an item -/
def turnF (t : Tg) (own : List Nat) (fi : Env → W Bool) (fr : Env → List D → W (List D)) (Γ : Env) (d : D) (acc : List D) : W (List D) :=
  W.bind (W.opt (tgB t d (kill own Γ))) fun Γ' => W.bind (fi Γ') fun c => if c then fr Γ' acc else W.ok acc
def eltF (fe : Env → W D) (Γ : Env) (acc : List D) : W (List D) := W.bind (fe Γ) fun d => W.opt (gd (decide (acc.length < lim)) (acc ++ [d]))
theorem acc_lt {n : Nat} (h : decide (n < lim) = true) : n < sizeLine := by rw [← lim_eq]; exact of_decide_eq_true h
theorem drop_cons {α : Type} {xs : List α} {i : Nat} {x : α} (h : xs[i]? = some x) : xs.drop i = x :: xs.drop (i + 1) := by
  obtain ⟨h1, h2⟩ := List.getElem?_eq_some_iff.mp h
  rw [List.drop_eq_getElem_cons h1, h2]
theorem lc_wish {K : Frag} {n : Nat} {own : List Nat} {t : Tg} {fit : Env → W (List D)} {fi : Env → W Bool} {fe : Env → W D} (hw : ∀ i ∈ tgs t, i ∈ own) {σ : St} {H0 F H : Hp} {Γ : Env} {R : D → Prop} {Q : VK} (hlen : σ.length = n) (B : Base K pw H0 F H σ Γ)
    (hf : (W.bind (fit Γ) fun items => W.bind (flatA (turnF t own fi (eltF fe) Γ) items []) fun ds => W.ok (.list ds)) R) (kq : ∀ v F' H' d, Step pw F H F' H' → Res K pw .fresh F' H H' v d → R d → Q v H') :
    tLc (tI K pw k fit) (tGo K pw n t) (tTs K pw fi) (tE K pw .val fe) own σ H Q := by
  refine ⟨H0, F, Γ, _, B, hf, fun items F1 H1 J hr st ⟨⟨G, Y, wk, hG, hY⟩⟩ L hL => ?_⟩
  have hr : flatA (turnF t own fi (eltF fe) Γ) items [] (fun ds => R (.list ds)) := hr
  have sat : ∀ {acc F2 H2}, CInv K pw F1 H1 L acc F2 H2 → Sat pw k F1 H1 F2 H2 := fun {acc F2 H2} c => by
    cases k with
    | true => exact c.st
    | false => exact ⟨c.st.f, c.st.fh, c.st.w⟩
  have init : CInv K pw F1 H1 L [] F1 (L2.upd H1 L (.lst [])) := ⟨.laid st.fh st.w hL, none_of_same st.fh hL, [], upd_same, .nil⟩
  refine lc_it wk (Pv := fun i H2 => ∃ F2 acc, CInv K pw F1 H1 L acc F2 H2 ∧ flatA (turnF t own fi (eltF fe) Γ) (items.drop i) acc (fun ds => R (.list ds))) ⟨F1, [], init, hr⟩ (fun i H2 _ ⟨F2, acc, c, _⟩ => hG _ _ (sat c)) ?_ ?_
  · rintro i x H2 H3 hi ⟨F2, acc, c, hq⟩ y
    obtain ⟨F3, d, hd, st3, rd⟩ := hY i x F2 H2 H3 hi (sat c) y
    rw [drop_cons hd] at hq
    obtain ⟨Γ', hΓ, hq⟩ := hq
    have c3 := c.step st3
    have B3 : Base K pw H0 F3 H3 (wipe σ own) (kill own Γ) := (B.step (st.trans c3.st)).wipe _
    refine ⟨H0, F3, _, d, Γ', by rw [wipe_length]; exact hlen, B3, rd, hΓ, fun σ' B' hl' hws => ⟨?_, ?_⟩⟩
    · rw [hws _ hw]
      apply List.ext_getElem?
      intro j
      rw [wipe_at, wipe_at, wipe_length]
      by_cases e : j ∈ own <;> simp only [e, if_true, if_false]
    · refine ⟨H0, F3, Γ', _, B', hq, fun b F4 H4 hb st4 => ?_⟩
      have c4 := c3.step st4
      cases b with
      | false => exact ⟨F4, acc, c4, hb⟩
      | true =>
        refine ⟨H0, F4, Γ', _, B'.step st4, hb, fun d' F5 H5 v' hd' st5 rs5 => ?_⟩
        obtain ⟨acc', ha', hq'⟩ := hd'
        obtain ⟨hlt, rfl⟩ := gd_some ha'
        obtain ⟨vs, e1, e2, c5⟩ := (c4.step st5).push hL rs5
        exact ⟨vs, e1, by rw [e2]; exact acc_lt hlt, F5, _, c5, hq'⟩
  · rintro H2 ⟨F2, acc, c, hq⟩
    rw [List.drop_length] at hq
    obtain ⟨vs, e1, e2⟩ := c.hd
    have hLH : H L = none := none_back B.w st hL
    exact kq _ F2 H2 _ (st.trans c.st) ⟨L, rfl, hLH, c.fd, ne_pw st.w hL, .lst e1 e2⟩ hq
theorem eo_lc {ifs : List Expr} {scope : Scope} {own : List (Str × Nat)} {t : Tg} {fit : Env → W (List D)} {fi : Env → W Bool} {fe : Env → W D} (hc : X.calm = true) (hN : X.N.Nodup) (hio : IO X pw tg iter k fit) (ok : BlkOk X.N X.env.scope scope own)
    (hg : ∀ (s : Shared) (H : Hp) (C : Addr) (cl : List (Str × Addr)) (fp : List Addr), GO (X.blk s H scope (compEnvC scope cl C X.env) fp) pw tg t) (ht : ∀ (s : Shared) (H : Hp) (C : Addr) (cl : List (Str × Addr)) (fp : List Addr), IfO (X.blk s H scope (compEnvC scope cl C X.env) fp) pw ifs fi)
    (he : ∀ (s : Shared) (H : Hp) (C : Addr) (cl : List (Str × Addr)) (fp : List Addr), EO (X.blk s H scope (compEnvC scope cl C X.env) fp) pw .val elt fe) (hs : ∀ x, foldedSetIterable iter X.env x = pure x) (hw : ∀ i ∈ tgs t, i ∈ own.map (·.2)) :
    EO X pw .fresh (.ListComp elt [⟨tg, iter, ifs, 0⟩] scope pos) (fun Γ => W.bind (fit Γ) fun items => W.bind (flatA (turnF t (own.map (·.2)) fi (eltF fe) Γ) items []) fun ds => W.ok (.list ds)) := ⟨fun pins s σ H0 F H Γ R I B hf => by
  have main := pe_lc (pos := pos) (te := tE X.K pw .val fe) (tt := tTs X.K pw fi) (g := tGo X.K pw X.N.length t) hc hN hio.pi ok (fun s H C cl fp => (hg s H C cl fp).pg) (fun s H C cl fp => (ht s H C cl fp).pts) (fun s H C cl fp => (he s H C cl fp).pe) hs
  exact thn (main.run pins s σ H (fun v H' => ∃ F' d, Step pw F H F' H' ∧ Res X.K pw .fresh F' H H' v d ∧ R d) I (lc_wish hw I.len B hf fun v F' H' d st rs hr => ⟨F', d, st, rs, hr⟩)) fun u s' ⟨v, H', I', r, F', d, st, rs, hr⟩ => ⟨v, F', H', d, I', r, st, rs, hr⟩⟩
/-- the inner clause's walk -/
theorem in_it {J : It} {n : Nat} {G : Hp → Prop} {Y : Nat → Hp → V → Hp → Prop} (w : Walk J n G Y) {B : V → Hp → (Hp → Prop) → Prop} {H4 : Hp} {Nx : Hp → Prop} (Pv : Nat → Hp → Prop) (h0 : Pv 0 H4) (hG : ∀ i H, Pv i H → G H)
    (hs : ∀ i x H H', i < n → Pv i H → Y i H x H' → B x H' (Pv (i + 1))) (hd : ∀ H, Pv n H → Nx H) :
    ∃ W1 : Nat → Nat → Hp → Prop, (∃ m, W1 0 m H4) ∧ ∀ j k H, W1 j k H → (J.stop j H ∧ Nx H) ∨ (J.go j H ∧ ∃ Nx1 : Hp → Prop, (∀ H', Nx1 H' → ∃ k', k' < k ∧ W1 (j + 1) k' H') ∧ ∀ x H', J.yld j H x H' → B x H' Nx1) := by
  refine ⟨fun j m H => m + j = n ∧ Pv j H, ⟨n, rfl, h0⟩, ?_⟩
  rintro j m H ⟨e, p⟩
  have q := hG j H p
  rcases Nat.lt_or_ge j n with h | h
  · exact .inr ⟨w.goes j H h q, Pv (j + 1), fun H' p' => ⟨n - (j + 1), by omega, by omega, p'⟩, fun x H' y => hs j x H H' h p (w.yields j H x H' h q y)⟩
  · have e2 : j = n := by omega
    rw [e2] at p ⊢
    exact .inl ⟨w.stops H q, hd H p⟩
theorem foldl_own {i : Nat} {x : D} : ∀ (ps : List (Nat × D)) {Γ : Env}, get (ps.foldl (fun Γ p => Γ.set p.1 (.val p.2)) Γ) i = .own x → get Γ i = .own x
  | [], _, e => e
  | p :: ps, Γ, e => by
    have e2 := foldl_own ps (Γ := Γ.set p.1 (.val p.2)) e
    rcases Nat.lt_or_ge p.1 Γ.length with q | q
    · rw [get_set q] at e2
      by_cases z : i = p.1
      · rw [if_pos z] at e2; cases e2
      · rw [if_neg z] at e2; exact e2
    · rw [List.set_eq_of_length_le q] at e2; exact e2
theorem tgB_own {t : Tg} {d : D} {Γ Γ' : Env} {i : Nat} {x : D} (h : tgB t d Γ = some Γ') (e : get Γ' i = .own x) : get Γ i = .own x := by
  cases t with
  | name j =>
    cases h
    rcases Nat.lt_or_ge j Γ.length with q | q
    · rw [get_set q] at e
      by_cases z : i = j
      · rw [if_pos z] at e; cases e
      · rw [if_neg z] at e; exact e
    · rw [List.set_eq_of_length_le q] at e; exact e
  | tup ts =>
    cases d <;> try (exfalso; revert h; simp [tgB]; done)
    rename_i ds
    obtain ⟨_, rfl⟩ := gd_some h
    exact foldl_own (ts.zip ds) e
theorem Base.far {K : Frag} {H0 F H : Hp} {σ : St} {Γ : Env} {L : Addr} {o : HO} (B : Base K pw H0 F H σ Γ) (hf : F L = none) (hp : some L ≠ pw) (h : ∀ i d, get Γ i = .own d → σ[i]? ≠ some (some (.ref L))) : Base K pw H0 F (L2.upd H L o) σ Γ where
  s := fun a u e => by
    rw [upd_ne]
    · exact B.s a u e
    · intro z
      rw [z, hf] at e
      cases e
  w := by
    have w := B.w
    cases pw with
    | none => trivial
    | some q =>
      obtain ⟨w0, l, n, ns, w1, w2, w3⟩ := w
      exact ⟨w0, l, n, ns, by rw [upd_ne (fun z => hp (by rw [z]))]; exact w1, w2, w3⟩
  e := {
    len := B.e.len
    slot := fun i => by
      have q := B.e.slot i
      have hh := h i
      generalize get Γ i = sl at q hh ⊢
      cases sl with
      | non => trivial
      | val d => exact q
      | obj => exact q
      | scr ns => exact q
      | own d =>
        obtain ⟨p, e1, h0, hf', hp', o'⟩ := q
        refine ⟨p, e1, h0, hf', hp', o'.mono (fun _ _ z => z) fun u z => ?_⟩
        rw [upd_ne]
        · exact z
        · intro z2
          rw [z2] at e1
          exact hh d rfl e1
    apart := B.e.apart }
theorem Base.off {K : Frag} {H0 F H : Hp} {σ : St} {Γ : Env} {L : Addr} (B : Base K pw H0 F H σ Γ) (hL : H L = none) {i : Nat} {d : D} (h : get Γ i = .own d) : σ[i]? ≠ some (some (.ref L)) := by
  intro z
  have q := B.e.slot i
  rw [h] at q
  obtain ⟨p, e1, _, _, _, o⟩ := q
  rw [z] at e1
  cases e1
  cases o with
  | lst e _ => rw [hL] at e; cases e
  | dct e _ => rw [hL] at e; cases e
def genF (t : Tg) (fit : Env → W (List D)) (fi : Env → W Bool) (fe : Env → W D) (Γ : Env) (acc : List D) : W (List D) := W.bind (fit Γ) fun items => flatA (turnF t (tgs t) fi (eltF fe) Γ) items acc
theorem lc2_wish {K : Frag} {n : Nat} {own : List Nat} {t t1 : Tg} {fit fit1 : Env → W (List D)} {fi fi1 : Env → W Bool} {fe : Env → W D} (hw : ∀ i ∈ tgs t, i ∈ own) {σ : St} {H0 F H : Hp} {Γ : Env} {R : D → Prop} {Q : VK} (hlen : σ.length = n) (B : Base K pw H0 F H σ Γ)
    (hf : (W.bind (fit Γ) fun items => W.bind (flatA (turnF t own fi (genF t1 fit1 fi1 fe) Γ) items []) fun ds => W.ok (.list ds)) R) (kq : ∀ v F' H' d, Step pw F H F' H' → Res K pw .fresh F' H H' v d → R d → Q v H') :
    tLc2 (tI K pw k fit) (tGo K pw n t) (tTs K pw fi) (tI K pw false fit1) (tGo K pw n t1) (tTs K pw fi1) (tE K pw .val fe) own (tgs t1) σ H Q := by
  refine ⟨H0, F, Γ, _, B, hf, fun items F1 H1 J hr st ⟨⟨G, Y, wk, hG, hY⟩⟩ L hL => ?_⟩
  have hr : flatA (turnF t own fi (genF t1 fit1 fi1 fe) Γ) items [] (fun ds => R (.list ds)) := hr
  have sat : ∀ {acc F2 H2}, CInv K pw F1 H1 L acc F2 H2 → Sat pw k F1 H1 F2 H2 := fun {acc F2 H2} c => by
    cases k with
    | true => exact c.st
    | false => exact ⟨c.st.f, c.st.fh, c.st.w⟩
  have init : CInv K pw F1 H1 L [] F1 (L2.upd H1 L (.lst [])) := ⟨.laid st.fh st.w hL, none_of_same st.fh hL, [], upd_same, .nil⟩
  refine in_it wk (Pv := fun i H2 => ∃ F2 acc, CInv K pw F1 H1 L acc F2 H2 ∧ flatA (turnF t own fi (genF t1 fit1 fi1 fe) Γ) (items.drop i) acc (fun ds => R (.list ds))) ⟨F1, [], init, hr⟩ (fun i H2 ⟨F2, acc, c, _⟩ => hG _ _ (sat c)) ?_ ?_
  · rintro i x H2 H3 hi ⟨F2, acc, c, hq⟩ y
    obtain ⟨F3, d, hd, st3, rd⟩ := hY i x F2 H2 H3 hi (sat c) y
    rw [drop_cons hd] at hq
    obtain ⟨Γ', hΓ, hq⟩ := hq
    have c3 := c.step st3
    have B3 : Base K pw H0 F3 H3 (wipe σ own) (kill own Γ) := (B.step (st.trans c3.st)).wipe _
    refine ⟨H0, F3, _, d, Γ', by rw [wipe_length]; exact hlen, B3, rd, hΓ, fun σ' B' hl' hws => ⟨?_, ?_⟩⟩
    · rw [hws _ hw]
      apply List.ext_getElem?
      intro j
      rw [wipe_at, wipe_at, wipe_length]
      by_cases e : j ∈ own <;> simp only [e, if_true, if_false]
    · refine ⟨H0, F3, Γ', _, B', hq, fun b F4 H4 hb st4 => ?_⟩
      have c4 := c3.step st4
      cases b with
      | false => exact ⟨F4, acc, c4, hb⟩
      | true =>
        refine ⟨H0, F4, Γ', _, B'.step st4, hb, fun items1 F5 H5 J1 hr5 st5 ⟨⟨G1, Y1, wk1, hG1, hY1⟩⟩ => ?_⟩
        have c5 := c4.step st5
        have B5 := (B'.step st4).step st5
        have sat1 : ∀ {acc' F6 H6}, CInv K pw F1 H1 L acc' F6 H6 → Same F5 F6 → Sat pw false F5 H5 F6 H6 := fun c ss => ⟨ss, c.st.fh, c.st.w⟩
        have hr5 : flatA (turnF t1 (tgs t1) fi1 (eltF fe) Γ') items1 acc (fun a => flatA (turnF t own fi (genF t1 fit1 fi1 fe) Γ) (items.drop (i + 1)) a (fun ds => R (.list ds))) := hr5
        refine in_it wk1 (Pv := fun j H6 => ∃ F6 acc', CInv K pw F1 H1 L acc' F6 H6 ∧ Same F5 F6 ∧ Base K pw H0 F6 H6 σ' Γ' ∧ flatA (turnF t1 (tgs t1) fi1 (eltF fe) Γ') (items1.drop j) acc' (fun a => flatA (turnF t own fi (genF t1 fit1 fi1 fe) Γ) (items.drop (i + 1)) a (fun ds => R (.list ds))))
          ⟨F5, acc, c5, fun _ _ e => e, B5, hr5⟩ (fun j H6 ⟨F6, acc', c6, ss, _⟩ => hG1 _ _ (sat1 c6 ss)) ?_ ?_
        · rintro j x1 H6 H7 hj ⟨F6, acc', c6, ss, B6, hq6⟩ y1
          obtain ⟨F7, d1, hd1, st7, rd1⟩ := hY1 j x1 F6 H6 H7 hj (sat1 c6 ss) y1
          rw [drop_cons hd1] at hq6
          obtain ⟨Γ2, hΓ2, hq6⟩ := hq6
          have c7 := c6.step st7
          have B7 := B6.step st7
          refine ⟨H0, F7, _, d1, Γ2, by rw [wipe_length]; exact hl', B7.wipe (tgs t1), rd1, hΓ2, fun σ2 B2 hl2 hws2 => ⟨?_, ?_⟩⟩
          · rw [hws2 _ fun _ z => z]
            apply List.ext_getElem?
            intro m
            rw [wipe_at, wipe_at, wipe_length]
            by_cases e : m ∈ tgs t1 <;> simp only [e, if_true, if_false]
          · refine ⟨H0, F7, Γ2, _, B2, hq6, fun b1 F8 H8 hb1 st8 => ?_⟩
            have c8 := c7.step st8
            have B8 := B7.step st8
            have s8 : Same F5 F8 := fun a o e => st8.f a o (st7.f a o (ss a o e))
            cases b1 with
            | false => exact ⟨F8, acc', c8, s8, B8, hb1⟩
            | true =>
              refine ⟨H0, F8, Γ2, _, B2.step st8, hb1, fun d' F9 H9 v' hd' st9 rs9 => ?_⟩
              obtain ⟨a9, ha9, hq9⟩ := hd'
              obtain ⟨hlt, rfl⟩ := gd_some ha9
              obtain ⟨vs, e1, e2, c9⟩ := (c8.step st9).push hL rs9
              refine ⟨vs, e1, by rw [e2]; exact acc_lt hlt, F9, _, c9, fun a o e => st9.f a o (s8 a o e), ?_, hq9⟩
              -- the new list is no slot's
              have B9 := B8.step st9
              have hLH : H L = none := none_back B.w st hL
              refine B9.far (c8.step st9).fd (ne_pw st.w hL) fun m dm hm z => ?_
              have h1 := tgB_own hΓ hm
              rw [kill_get] at h1
              by_cases e : m ∈ own
              · rw [if_pos e] at h1; cases h1
              · rw [if_neg e] at h1
                refine B.off hLH h1 ?_
                have h2 := congrArg (fun l : St => l[m]?) (hws _ hw)
                simp only [wipe_at, e, if_false] at h2
                rw [← h2]
                exact z
        · rintro H6 ⟨F6, acc', c6, ss, B6, hq6⟩
          rw [List.drop_length] at hq6
          exact ⟨F6, acc', c6, hq6⟩
  · rintro H2 ⟨F2, acc, c, hq⟩
    rw [List.drop_length] at hq
    obtain ⟨vs, e1, e2⟩ := c.hd
    have hLH : H L = none := none_back B.w st hL
    exact kq _ F2 H2 _ (st.trans c.st) ⟨L, rfl, hLH, c.fd, ne_pw st.w hL, .lst e1 e2⟩ hq
theorem eo_lc2 {ifs ifs1 : List Expr} {scope : Scope} {own : List (Str × Nat)} {t t1 : Tg} {fit fit1 : Env → W (List D)} {fi fi1 : Env → W Bool} {fe : Env → W D} (hc : X.calm = true) (hN : X.N.Nodup) (hio : IO X pw tg iter k fit) (ok : BlkOk X.N X.env.scope scope own)
    (hg : ∀ (s : Shared) (H : Hp) (C : Addr) (cl : List (Str × Addr)) (fp : List Addr), GO (X.blk s H scope (compEnvC scope cl C X.env) fp) pw tg t) (ht : ∀ (s : Shared) (H : Hp) (C : Addr) (cl : List (Str × Addr)) (fp : List Addr), IfO (X.blk s H scope (compEnvC scope cl C X.env) fp) pw ifs fi)
    (hio1 : ∀ (s : Shared) (H : Hp) (C : Addr) (cl : List (Str × Addr)) (fp : List Addr), IO (X.blk s H scope (compEnvC scope cl C X.env) fp) pw tg1 iter1 false fit1)
    (hg1 : ∀ (s : Shared) (H : Hp) (C : Addr) (cl : List (Str × Addr)) (fp : List Addr), GO (X.blk s H scope (compEnvC scope cl C X.env) fp) pw tg1 t1) (ht1 : ∀ (s : Shared) (H : Hp) (C : Addr) (cl : List (Str × Addr)) (fp : List Addr), IfO (X.blk s H scope (compEnvC scope cl C X.env) fp) pw ifs1 fi1)
    (he : ∀ (s : Shared) (H : Hp) (C : Addr) (cl : List (Str × Addr)) (fp : List Addr), EO (X.blk s H scope (compEnvC scope cl C X.env) fp) pw .val elt fe) (hs : ∀ x, foldedSetIterable iter X.env x = pure x) (hs1 : ∀ env x, foldedSetIterable iter1 env x = pure x)
    (hw : ∀ i ∈ tgs t, i ∈ own.map (·.2)) (hw1 : ∀ i ∈ tgs t1, i ∈ own.map (·.2)) :
    EO X pw .fresh (.ListComp elt [⟨tg, iter, ifs, 0⟩, ⟨tg1, iter1, ifs1, 0⟩] scope pos) (fun Γ => W.bind (fit Γ) fun items => W.bind (flatA (turnF t (own.map (·.2)) fi (genF t1 fit1 fi1 fe) Γ) items []) fun ds => W.ok (.list ds)) := ⟨fun pins s σ H0 F H Γ R I B hf => by
  have main := pe_lc2 (pos := pos) (vs1 := tgs t1) (te := tE X.K pw .val fe) (tt := tTs X.K pw fi) (g := tGo X.K pw X.N.length t) (wi1 := tI X.K pw false fit1) (g1 := tGo X.K pw X.N.length t1) (tt1 := tTs X.K pw fi1) hc hN hio.pi ok hw1
    (fun s H C cl fp => (hg s H C cl fp).pg) (fun s H C cl fp => (ht s H C cl fp).pts) (fun s H C cl fp => (hio1 s H C cl fp).pi) (fun s H C cl fp => (hg1 s H C cl fp).pg) (fun s H C cl fp => (ht1 s H C cl fp).pts) (fun s H C cl fp => (he s H C cl fp).pe) hs hs1
  exact thn (main.run pins s σ H (fun v H' => ∃ F' d, Step pw F H F' H' ∧ Res X.K pw .fresh F' H H' v d ∧ R d) I (lc2_wish hw I.len B hf fun v F' H' d st rs hr => ⟨F', d, st, rs, hr⟩)) fun u s' ⟨v, H', I', r, F', d, st, rs, hr⟩ => ⟨v, F', H', d, I', r, st, rs, hr⟩⟩
end
end Ly

set_option maxRecDepth 100000
set_option maxHeartbeats 1000000
/-! Calls of built-in names. -/
namespace Ly
open PySem PySem.Spec PyProof.Rows L2
/-- the wish of a call by values -/
def rC (K : Frag) (pw : Option Addr) (md : Md) (g : List D → Option D) : List V → Hp → VK → Prop := fun vs H Q => ∃ F ds z, Same F H ∧ WOk F H pw ∧ RpHL K pw F H vs ds ∧ g ds = some z ∧ ∀ v F' H', Step pw F H F' H' → Res K pw md F' H H' v z → Q v H'
section
variable {X : Cx} {pw : Option Addr} {md : Md} {e : Expr} {es : List Expr} {fa : Env → W (List D)} {pos p : Pos} {f : Value} {g : List D → Option D}
theorem cimp {r r' : List V → Hp → VK → Prop} (h : CallR X f r) (k : ∀ vs H Q, r' vs H Q → r vs H Q) : CallR X f r' := fun pins s σ H xs us Q I rs q => h pins s σ H xs us Q I rs (k xs H Q q)
theorem csplit {g1 g2 : List D → Option D} (h1 : CallR X f (rC X.K pw md g1)) (h2 : CallR X f (rC X.K pw md g2)) (e : ∀ ds z, g ds = some z → g1 ds = some z ∨ g2 ds = some z) : CallR X f (rC X.K pw md g) :=
  cimp (L2.CallR.or h1 h2) fun vs H Q ⟨F, ds, z, a, b, c, d, k⟩ => (e ds z d).imp (fun d => ⟨F, ds, z, a, b, c, d, k⟩) fun d => ⟨F, ds, z, a, b, c, d, k⟩
theorem eo_callB {id : String} {x : Str} (hc : CallR X (.builtin id) (rC X.K pw md g)) (hg : Gl X x) (hm : X.mg x = none) (hv : bootBuiltins x = some (.builtin id)) (ha : AO X pw true (e :: es) fa) (hn : x ≠ "__name__") (hdb : (x == ("__debug__" : Str)) = false)
    (he : starEach (e :: es) X.env = (false, eval e X.env) :: starEach es X.env) (hpl : (backTo pos (starEach es X.env)).any (·.1) = false) : EO X pw md (.Call (.Name x p) (e :: es) [] pos) (fun Γ => W.bind (fa Γ) fun ds => W.opt (g ds)) :=
  .by (pe_callB hc hg hm hv ha.pa hn hdb he hpl) fun σ H0 F H Γ R B hf => ⟨H0, F, Γ, _, B, hf, fun ds F1 H1 vs ⟨z, hz, hr⟩ st rs hl => ⟨F1, ds, z, st.fh, st.w, rs, hz, fun v F2 H2 st2 rs2 => ⟨F2, z, st.trans st2, by
    cases md with
    | val => exact rs2
    | peek => exact rs2
    | fresh =>
      obtain ⟨q, e1, e2, e3⟩ := rs2
      exact ⟨q, e1, none_back B.w st e2, e3⟩, hr⟩⟩⟩
theorem eo_callTy {T : String} {x : Str} (hc : CallR X (.type T) (rC X.K pw md g)) (hg : Gl X x) (hm : X.mg x = none) (hv : bootBuiltins x = some (.type T)) (ha : AO X pw true (e :: es) fa) (hn : x ≠ "__name__") (hdb : (x == ("__debug__" : Str)) = false)
    (he : starEach (e :: es) X.env = (false, eval e X.env) :: starEach es X.env) (hpl : (backTo pos (starEach es X.env)).any (·.1) = false) : EO X pw md (.Call (.Name x p) (e :: es) [] pos) (fun Γ => W.bind (fa Γ) fun ds => W.opt (g ds)) :=
  .by (pe_callTy hc hg hm hv ha.pa hn hdb he hpl) fun σ H0 F H Γ R B hf => ⟨H0, F, Γ, _, B, hf, fun ds F1 H1 vs ⟨z, hz, hr⟩ st rs hl => ⟨F1, ds, z, st.fh, st.w, rs, hz, fun v F2 H2 st2 rs2 => ⟨F2, z, st.trans st2, by
    cases md with
    | val => exact rs2
    | peek => exact rs2
    | fresh =>
      obtain ⟨q, e1, e2, e3⟩ := rs2
      exact ⟨q, e1, none_back B.w st e2, e3⟩, hr⟩⟩⟩
theorem rpH1 {K : Frag} {F H : Hp} {vs : List V} {d : D} (r : RpHL K pw F H vs [d]) : ∃ v, vs = [v] ∧ RpH K pw F H v d := by
  cases r with
  | cons r rr => cases rr; exact ⟨_, rfl, r⟩
theorem rpH2 {K : Frag} {F H : Hp} {vs : List V} {d d2 : D} (r : RpHL K pw F H vs [d, d2]) : ∃ v v2, vs = [v, v2] ∧ RpH K pw F H v d ∧ RpH K pw F H v2 d2 := by
  cases r with
  | cons r rr => cases rr with
    | cons r2 rr => cases rr; exact ⟨_, _, rfl, r, r2⟩
/-- the list of ints, of truth values, of texts behind -/
theorem rp_ints {K : Frag} {F : Hp} : ∀ {vs : List V} {ds : List D} {ns : List Int}, RpL K F vs ds → intsD ds = some ns → vs = ns.map V.int
  | _, _, _, .nil, e => by cases e; rfl
  | _, _, _, .cons r rr, e => by
    cases r <;> try (exfalso; revert e; simp [intsD]; done)
    obtain ⟨m, hm, rfl⟩ := Option.map_eq_some_iff.mp e
    rw [rp_ints rr hm]
    rfl
theorem rp_bools {K : Frag} {F : Hp} : ∀ {vs : List V} {ds : List D} {ns : List Bool}, RpL K F vs ds → boolsD ds = some ns → vs = ns.map V.bl
  | _, _, _, .nil, e => by cases e; rfl
  | _, _, _, .cons r rr, e => by
    cases r <;> try (exfalso; revert e; simp [boolsD]; done)
    obtain ⟨m, hm, rfl⟩ := Option.map_eq_some_iff.mp e
    rw [rp_bools rr hm]
    rfl
theorem rp_strs {K : Frag} {F : Hp} : ∀ {vs : List V} {ds : List D} {ns : List Str}, RpL K F vs ds → strsD ds = some ns → vs = ns.map V.str
  | _, _, _, .nil, e => by cases e; rfl
  | _, _, _, .cons r rr, e => by
    cases r <;> try (exfalso; revert e; simp [strsD]; done)
    obtain ⟨m, hm, rfl⟩ := Option.map_eq_some_iff.mp e
    rw [rp_strs rr hm]
    rfl
/-! ### len -/
def g1 (f : D → Option D) : List D → Option D
  | [d] => f d
  | _ => none
theorem g1_some {f : D → Option D} {ds : List D} {z : D} (h : g1 f ds = some z) : ∃ d, ds = [d] ∧ f d = some z := by
  match ds, h with
  | [d], h => exact ⟨d, rfl, h⟩
def lenS : D → Option D
  | .list ds => some (.int ds.length)
  | .tuple ds => some (.int ds.length)
  | .str s => gd (decide (s.length ≤ lim)) (.int s.length)
  | _ => none
def lenK : D → Option D
  | .dict kvs => some (.int kvs.length)
  | _ => none
theorem cr_len : CallR X (.builtin "len") (rC X.K pw .val (g1 lenD)) :=
  csplit (g1 := g1 lenS) (g2 := g1 lenK)
    (cimp call_len fun vs H Q h0 => by
      obtain ⟨F, ds, z, hs, hw, rs, hz, k⟩ := h0
      obtain ⟨d, rfl, hq⟩ := g1_some hz
      replace hz := hq
      clear hq
      obtain ⟨v, rfl, r⟩ := rpH1 rs
      cases r <;> try (exfalso; revert hz; simp [lenS]; done)
      · obtain ⟨h1, rfl⟩ := gd_some hz
        exact ⟨_, _, rfl, ⟨by rw [← lim_eq]; exact of_decide_eq_true h1, rfl⟩, k _ _ _ (.refl hs hw) (.int _)⟩
      · rename_i a xs ds h1 r1
        cases hz
        exact ⟨_, _, rfl, .inl ⟨xs, .of h1, rfl⟩, k _ _ _ (.refl hs hw) (by rw [r1.length]; exact .int _)⟩
      · rename_i a xs ds h1 r1
        cases hz
        exact ⟨_, _, rfl, .inr ⟨xs, Same.sqT hs h1, rfl⟩, k _ _ _ (.refl hs hw) (by rw [r1.length]; exact .int _)⟩)
    (fun pins s σ H xs us Q I rs h0 => by
      obtain ⟨F, ds, z, hs, hw, rr, hz, k⟩ := h0
      obtain ⟨d, rfl, hq⟩ := g1_some hz
      replace hz := hq
      clear hq
      obtain ⟨v, rfl, r⟩ := rpH1 rr
      cases r <;> try (exfalso; revert hz; simp [lenK]; done)
      rename_i a kvs ps h1 n1 r1
      cases hz
      obtain ⟨u, rfl, ru⟩ := vals1 rs
      cases ru
      exact d_len I h1 fun t s' I' => ⟨.int kvs.length, H, I', ⟨t, rfl⟩, k _ _ _ (.refl hs hw) (by rw [r1.length]; exact .int _)⟩)
    fun ds z h => by
      obtain ⟨d, rfl, h⟩ := g1_some h
      cases d <;> first | exact .inl h | exact .inr h | (simp [lenD] at h; done)
/-! ### tuple, list, dict -/
theorem cr_tuple : CallR X (.type "tuple") (rC X.K pw .val (g1 fun | .list ds => some (.tuple ds) | .tuple ds => some (.tuple ds) | _ => none)) :=
  cimp call_tuple_of fun vs H Q h0 => by
    obtain ⟨F, ds, z, hs, hw, rs, hz, k⟩ := h0
    obtain ⟨d, rfl, hq⟩ := g1_some hz
    replace hz := hq
    clear hq
    obtain ⟨v, rfl, r⟩ := rpH1 rs
    cases r <;> try (exfalso; revert hz; simp; done)
    · rename_i a xs ds h1 r1
      cases hz
      refine ⟨a, xs, rfl, .inl ⟨.of h1, fun l hl => ?_⟩⟩
      have st := Step.laidF (pw := pw) (o := .tup xs) hs hw hl
      exact k _ _ _ st (.tup (.of upd_same) (r1.mono st.f))
    · rename_i a xs ds h1 r1
      cases hz
      exact ⟨a, xs, rfl, .inr ⟨Same.sqT hs h1, k _ _ _ (.refl hs hw) (.tup h1 r1)⟩⟩
theorem fresh_list {K : Frag} {F H : Hp} {l : Addr} {xs : List V} {ds : List D} (hs : Same F H) (hw : WOk F H pw) (hl : H l = none) (r : RpL K F xs ds) : Step pw F H F (L2.upd H l (.lst xs)) ∧ Res K pw .fresh F H (L2.upd H l (.lst xs)) (.ref l) (.list ds) :=
  ⟨.laid hs hw hl, l, rfl, hl, none_of_same hs hl, ne_pw hw hl, .lst upd_same r⟩
theorem fresh_dict {K : Frag} {F H : Hp} {l : Addr} {kvs : List (Key × V)} {ps : List (D × D)} (hs : Same F H) (hw : WOk F H pw) (hl : H l = none) (r : RpK K F kvs ps) : Step pw F H F (L2.upd H l (.dK kvs)) ∧ Res K pw .fresh F H (L2.upd H l (.dK kvs)) (.ref l) (.dict ps) :=
  ⟨.laid hs hw hl, l, rfl, hl, none_of_same hs hl, ne_pw hw hl, .dct upd_same r⟩
theorem cr_list (hc : X.calm = true) : CallR X (.type "list") (rC X.K pw .fresh (g1 fun | .list ds => some (.list ds) | .tuple ds => some (.list ds) | .dict kvs => some (.list (kvs.map (·.1))) | _ => none)) :=
  cimp (L2.CallR.or call_list_of (call_listD hc)) fun vs H Q h0 => by
    obtain ⟨F, ds, z, hs, hw, rs, hz, k⟩ := h0
    obtain ⟨d, rfl, hq⟩ := g1_some hz
    replace hz := hq
    clear hq
    obtain ⟨v, rfl, r⟩ := rpH1 rs
    cases r <;> try (exfalso; revert hz; simp; done)
    · rename_i a xs ds h1 r1
      cases hz
      exact .inl ⟨a, xs, rfl, .inl (.of h1), fun l hl => let ⟨st, rr⟩ := fresh_list hs hw hl r1; k _ _ _ st rr⟩
    · rename_i a xs ds h1 r1
      cases hz
      exact .inl ⟨a, xs, rfl, .inr (Same.sqT hs h1), fun l hl => let ⟨st, rr⟩ := fresh_list hs hw hl r1; k _ _ _ st rr⟩
    · rename_i a kvs ps h1 n1 r1
      cases hz
      exact .inr ⟨a, kvs, rfl, h1, fun l hl => let ⟨st, rr⟩ := fresh_list hs hw hl r1.keys; k _ _ _ st rr⟩
theorem pairs_rp {K : Frag} {F : Hp} : ∀ {vs : List V} {ds : List D} {ps : List (D × D)}, RpL K F vs ds → pairs ds = some ps → (ps.all fun p => keyB p.1) = true →
    ∃ (as : List Addr) (kvs : List (Key × V)), vs = as.map V.ref ∧ Paired (fun a kv => SqT K F a [kV kv.1, kv.2]) as kvs ∧ RpK K F kvs ps
  | _, _, _, .nil, e, _ => by cases e; exact ⟨[], [], rfl, .nil, .nil⟩
  | _, _, _, @RpL.cons _ _ v vr d dr r rr, e, hk => by
    cases r <;> try (exfalso; revert e; simp [pairs]; done)
    rename_i a xs ds h1 r1
    match ds, r1, e with
    | [x, y], r1, e =>
      obtain ⟨m, hm, rfl⟩ := Option.map_eq_some_iff.mp e
      rw [List.all_cons, Bool.and_eq_true] at hk
      obtain ⟨as, kvs, e1, e2, e3⟩ := pairs_rp rr hm hk.2
      cases r1 with
      | cons q1 q2 => cases q2 with
        | cons q2 q3 =>
          cases q3
          obtain ⟨kk, rfl, rfl⟩ := key_of_rp q1 hk.1
          exact ⟨a :: as, (kk, _) :: kvs, by rw [e1]; rfl, .cons h1 e2, .cons q2 e3⟩
theorem Paired.imp {α β : Type} {R S : α → β → Prop} (h : ∀ a b, R a b → S a b) : ∀ {xs : List α} {ys : List β}, Paired R xs ys → Paired S xs ys
  | _, _, .nil => .nil
  | _, _, .cons a b => .cons (h _ _ a) (Paired.imp h b)
theorem cr_dict (hc : X.calm = true) : CallR X (.type "dict") (rC X.K pw .fresh (g1 fun | .dict kvs => some (.dict kvs) | .list ds => (pairs ds).bind fun ps => gd (ps.all fun p => keyB p.1) (.dict (mergeD [] ps)) | _ => none)) :=
  cimp (L2.CallR.or call_dictD (call_dictP hc)) fun vs H Q h0 => by
    obtain ⟨F, ds, z, hs, hw, rs, hz, k⟩ := h0
    obtain ⟨d, rfl, hq⟩ := g1_some hz
    replace hz := hq
    clear hq
    obtain ⟨v, rfl, r⟩ := rpH1 rs
    cases r <;> try (exfalso; revert hz; simp; done)
    · rename_i a xs ds h1 r1
      obtain ⟨ps, hp, hz⟩ := Option.bind_eq_some_iff.mp hz
      obtain ⟨hk, rfl⟩ := gd_some hz
      obtain ⟨as, kvs, rfl, e2, e3⟩ := pairs_rp r1 hp hk
      exact .inr ⟨a, as, kvs, rfl, .of h1, Paired.imp (fun _ _ => Same.sqT hs) e2, fun l hl => let ⟨st, rr⟩ := fresh_dict hs hw hl (RpK.merge e3 .nil); k _ _ _ st rr⟩
    · rename_i a kvs ps h1 n1 r1
      cases hz
      exact .inl ⟨a, kvs, rfl, h1, fun l hl => let ⟨st, rr⟩ := fresh_dict hs hw hl r1; k _ _ _ st rr⟩
/-! ### sum, any, all, abs, int, str -/
theorem cr_sumD (hc : X.calm = true) : CallR X (.builtin "sum") (rC X.K pw .val (g1 fun | .list ds => (intsD ds).map fun ns => .int ns.sum | _ => none)) :=
  cimp (cr_sum hc) fun vs H Q h0 => by
    obtain ⟨F, ds, z, hs, hw, rs, hz, k⟩ := h0
    obtain ⟨d, rfl, hq⟩ := g1_some hz
    replace hz := hq
    clear hq
    obtain ⟨v, rfl, r⟩ := rpH1 rs
    cases r <;> try (exfalso; revert hz; simp; done)
    rename_i a xs ds h1 r1
    obtain ⟨ns, hn, rfl⟩ := Option.map_eq_some_iff.mp hz
    exact ⟨a, ns, rfl, .of (by rw [← rp_ints r1 hn]; exact h1), k _ _ _ (.refl hs hw) (.int _)⟩
theorem cr_anyD (hc : X.calm = true) : CallR X (.builtin "any") (rC X.K pw .val (g1 fun | .list ds => (boolsD ds).map fun bs => .bool (bs.any id) | _ => none)) :=
  cimp (cr_any hc) fun vs H Q h0 => by
    obtain ⟨F, ds, z, hs, hw, rs, hz, k⟩ := h0
    obtain ⟨d, rfl, hq⟩ := g1_some hz
    replace hz := hq
    clear hq
    obtain ⟨v, rfl, r⟩ := rpH1 rs
    cases r <;> try (exfalso; revert hz; simp; done)
    rename_i a xs ds h1 r1
    obtain ⟨ns, hn, rfl⟩ := Option.map_eq_some_iff.mp hz
    exact ⟨a, ns, rfl, .of (by rw [← rp_bools r1 hn]; exact h1), k _ _ _ (.refl hs hw) (.bl _)⟩
theorem cr_allD (hc : X.calm = true) : CallR X (.builtin "all") (rC X.K pw .val (g1 fun | .list ds => (boolsD ds).map fun bs => .bool (bs.all id) | _ => none)) :=
  cimp (cr_all hc) fun vs H Q h0 => by
    obtain ⟨F, ds, z, hs, hw, rs, hz, k⟩ := h0
    obtain ⟨d, rfl, hq⟩ := g1_some hz
    replace hz := hq
    clear hq
    obtain ⟨v, rfl, r⟩ := rpH1 rs
    cases r <;> try (exfalso; revert hz; simp; done)
    rename_i a xs ds h1 r1
    obtain ⟨ns, hn, rfl⟩ := Option.map_eq_some_iff.mp hz
    exact ⟨a, ns, rfl, .of (by rw [← rp_bools r1 hn]; exact h1), k _ _ _ (.refl hs hw) (.bl _)⟩
theorem cr_absD : CallR X (.builtin "abs") (rC X.K pw .val (g1 fun | .int i => some (.int (if i < 0 then -i else i)) | _ => none)) :=
  cimp call_abs fun vs H Q h0 => by
    obtain ⟨F, ds, z, hs, hw, rs, hz, k⟩ := h0
    obtain ⟨d, rfl, hq⟩ := g1_some hz
    replace hz := hq
    clear hq
    obtain ⟨v, rfl, r⟩ := rpH1 rs
    cases r <;> try (exfalso; revert hz; simp; done)
    cases hz
    exact ⟨_, rfl, k _ _ _ (.refl hs hw) (.int _)⟩
theorem cr_intD : CallR X (.type "int") (rC X.K pw .val (g1 fun | .int i => some (.int i) | .bool b => some (.int (if b then 1 else 0)) | _ => none)) :=
  cimp call_int1 fun vs H Q h0 => by
    obtain ⟨F, ds, z, hs, hw, rs, hz, k⟩ := h0
    obtain ⟨d, rfl, hq⟩ := g1_some hz
    replace hz := hq
    clear hq
    obtain ⟨v, rfl, r⟩ := rpH1 rs
    cases r <;> try (exfalso; revert hz; simp; done)
    · cases hz
      exact .inr ⟨_, rfl, k _ _ _ (.refl hs hw) (.int _)⟩
    · cases hz
      exact .inl ⟨_, rfl, k _ _ _ (.refl hs hw) (.int _)⟩
theorem cr_strD : CallR X (.type "str") (rC X.K pw .val (g1 fun | .int i => gd (decide (i.natAbs.log2 < 1920)) (.str (toString i : String)) | _ => none)) :=
  cimp call_str_int fun vs H Q h0 => by
    obtain ⟨F, ds, z, hs, hw, rs, hz, k⟩ := h0
    obtain ⟨d, rfl, hq⟩ := g1_some hz
    replace hz := hq
    clear hq
    obtain ⟨v, rfl, r⟩ := rpH1 rs
    cases r <;> try (exfalso; revert hz; simp; done)
    obtain ⟨h1, rfl⟩ := gd_some hz
    exact ⟨_, rfl, of_decide_eq_true h1, k _ _ _ (.refl hs hw) (.str _)⟩
end
end Ly

set_option maxRecDepth 100000
set_option maxHeartbeats 1000000
/-! sorted, min, max; ranges and items as lists. -/
namespace Ly
open PySem PySem.Spec PyProof.Rows L2
section
variable {X : Cx} {pw : Option Addr} {md : Md} {e : Expr} {es : List Expr} {fa : Env → W (List D)} {pos p : Pos} {f : Value} {g : List D → Option D}
/-- u stands for d -/
def Stands (K : Frag) (F : Hp) (u : Value) (d : D) : Prop := ∃ x, RelV x u ∧ Rp K F x d
theorem each_of {K : Frag} {F : Hp} : ∀ {xs : List V} {us : List Value} {ds : List D}, Vals xs us → RpL K F xs ds → PySem.W.EachIs (Stands K F) us ds
  | _, _, _, .nil, .nil => .nil
  | _, _, _, .cons r rs, .cons p ps => .cons ⟨_, r, p⟩ (each_of rs ps)
theorem of_each {K : Frag} {F : Hp} : ∀ {us : List Value} {ds : List D}, PySem.W.EachIs (Stands K F) us ds → ∃ xs, Vals xs us ∧ RpL K F xs ds
  | _, _, .nil => ⟨[], .nil, .nil⟩
  | _, _, .cons ⟨x, r, p⟩ t => let ⟨xs, rs, ps⟩ := of_each t; ⟨x :: xs, .cons r rs, .cons p ps⟩
theorem reads_of {pins : List (Addr × Obj)} {σ : St} {F H : Hp} {s : Shared} (I : Inv X pins σ H s) (hs : Same F H) {u : Value} {d : D} (h : Stands X.K F u d) (hd : sh d = true) : ∃ as, Reads s.heap u d as :=
  let ⟨x, r, q⟩ := h
  Dp.reads I d x u (q.dp hs (sh_lay hd)) r
theorem each_reads {pins : List (Addr × Obj)} {σ : St} {F H : Hp} {s : Shared} (I : Inv X pins σ H s) (hs : Same F H) : ∀ {us : List Value} {ds : List D}, PySem.W.EachIs (Stands X.K F) us ds → ds.all sh = true → PySem.W.EachIs (fun u d => ∃ as, Reads s.heap u d as) us ds
  | _, _, .nil, _ => .nil
  | _, _, .cons h t, hd => by
    rw [List.all_cons, Bool.and_eq_true] at hd
    exact .cons (reads_of I hs h hd.1) (each_reads I hs t hd.2)
theorem alike_get {ds : List D} (h : allAlike ds = true) : PySem.W.AllAlike ds := fun d hd d' hd' => by
  unfold allAlike at h
  exact List.all_eq_true.mp (List.all_eq_true.mp h d hd) d' hd'
theorem sortable_get {ds : List D} (h : sortable ds = true) : PySem.W.Sortable ds := by
  unfold sortable at h
  rw [Bool.or_eq_true] at h
  rcases h with h | h
  · refine .inl fun d hd => ?_
    have q := List.all_eq_true.mp h d hd
    cases d <;> try (simp at q; done)
    rename_i xs
    cases xs with
    | nil => simp at q
    | cons x r => exact ⟨x, r, rfl⟩
  · refine .inr fun d hd => ?_
    have q := List.all_eq_true.mp h d hd
    cases d <;> first | (simp at q; done) | exact ⟨fun z => (by cases z), fun xs z => (by cases z)⟩
theorem each_len {α β : Type} {R : α → β → Prop} : ∀ {xs : List α} {ys : List β}, PySem.W.EachIs R xs ys → xs.length = ys.length
  | _, _, .nil => rfl
  | _, _, .cons _ t => by simp [each_len t]
/-- the items of a list or a tuple, collected -/
theorem collect_seq {P : Program} {w : World} {A : Around} {E : Value → Shared → Prop} {s : Shared} {l : Addr} {o : Obj} {T : String} {us : List Value} {n : Nat} {R : List Value → Shared → Prop} (at0 : s.heap.get? l = some o) (cls : o.cls = .type T) (ht : T = "list" ∨ T = "tuple") (dat : o.data = .seq us.toArray n) (hn : us.length ≤ sizeLine)
    (q : R us { s with heap := (s.heap.push (seqObj "list" #[] 0)).update s.heap.objs.size (Obj.mapSeq (· ++ us.toArray)) }) : wpAny (model P w) A (collect (.ref l)) R E s := by
  have new : (s.heap.push (seqObj "list" #[] 0)).get? s.heap.objs.size = some (seqObj "list" #[] 0) := Heap.get?_push_size _ rfl
  have old : (s.heap.push (seqObj "list" #[] 0)).get? l = some o := Heap.get?_push_of_some _ at0
  unfold collect
  refine wpAny_bind (wpAny_runValue (codeAny_builtin entry_proto_collect' ?_))
  show wpAny (model P w) _ (do
    again (.builtin "list.__iadd__" ⟨[← newList [], .ref l], []⟩)) _ _ _
  refine wpAny_bind (wpAny_newList ?_)
  refine wpAny_pure ⟨Code.quiet_builtin _ (by decide +kernel), ?_⟩
  refine codeAny_builtin entry_list_iadd' ?_
  show wpAny (model P w) _ (Builtin.List.listExtendWith (.ref s.heap.objs.size) (.ref l) (.ref s.heap.objs.size)) _ _ { s with heap := (s.heap.push (seqObj "list" #[] 0)) }
  unfold Builtin.List.listExtendWith
  refine wpAny_bind (wpAny_typeOf (T := T) ⟨o, old, cls⟩ ?_)
  have ok : (Builtin.List.listSameRef (.ref s.heap.objs.size) (.ref l) || Value.type T == Value.type "list" || Value.type T == Value.type "tuple") = true := by
    rcases ht with rfl | rfl
    · have z : (Value.type "list" == Value.type "list") = true := rfl
      simp [z]
    · have z : (Value.type "tuple" == Value.type "tuple") = true := rfl
      simp [z]
  rw [if_pos ok]
  refine wpAny_bind (listItems_at old dat (wpAny_bind (listItems_at (xs := #[]) (n := 0) new rfl ?_)))
  rw [if_neg (by simp)]
  refine wpAny_bind (listUpdate_at (xs := #[]) (n := 0) new rfl ?_ (Nat.zero_le _) ?_)
  · refine wpAny_pure ?_
    show wpAny (model P w) A (do
      let ob ← load s.heap.objs.size
      match ob.data with
      | .seq xs _ => pure xs.toList
      | _ => unsupported "internal:collect") R E { s with heap := (s.heap.push (seqObj "list" #[] 0)).update s.heap.objs.size (Obj.mapSeq (· ++ us.toArray)) }
    refine wpAny_bind (wpAny_load (get?_update_seq new _) ?_)
    have e : ((#[] : Array Value) ++ us.toArray).toList = us := by simp
    show wpAny (model P w) A (pure ((#[] : Array Value) ++ us.toArray).toList) R E _
    rw [e]
    exact wpAny_pure q
  · show (#[] ++ us.toArray).size ≤ sizeLine + 1
    rw [Array.size_append, List.size_toArray]
    simp
    omega
theorem each_far {h : Heap} {o : Obj} : ∀ {us : List Value} {ds : List D}, PySem.W.EachIs (fun u d => ∃ as, Reads h u d as) us ds → PySem.W.EachIs (fun u d => ∃ as, Reads (h.push o) u (id d) as ∧ h.objs.size ∉ as) us ds
  | _, _, .nil => .nil
  | _, _, .cons ⟨as, r⟩ t => .cons ⟨as, Reads.keeps (fun b u q => Heap.get?_push_of_some _ q) r, fun z => by
      obtain ⟨u, hu⟩ := PyProof.On.reads_mem_get r _ z
      exact absurd (Heap.lt_size hu) (Nat.lt_irrefl _)⟩ (each_far t)
/-- from a way to collect the items -/
theorem sorted_core {pins : List (Addr × Obj)} {s : Shared} {σ : St} {F H : Hp} {Q : VK} {v : Value} {ds : List D} (hu : X.A.units + 100 < cLine) (I : Inv X pins σ H s) (hs : Same F H) (hw : WOk F H pw) (ho : sortOk ds = true) (hz : ds.length ≤ sizeLine)
    (col : ∀ (R : List Value → Shared → Prop) (E' : Value → Shared → Prop), (∀ us h' tk, (∀ b o, s.heap.get? b = some o → h'.get? b = some o) → PySem.W.EachIs (Stands X.K F) us ds → R us { s with heap := h', toks := tk }) → wpAny (model X.prog X.w) X.A.in1 (collect v) R E' s)
    (k : ∀ v F' H', Step pw F H F' H' → Res X.K pw .fresh F' H H' v (.list (sortL ds)) → Q v H') : wpAny (model X.prog X.w) X.A (call (.builtin "sorted") [v]) (EP X pins σ Q) X.xe s := by
  unfold sortOk at ho
  rw [Bool.and_eq_true, Bool.and_eq_true] at ho
  obtain ⟨⟨h1, h2⟩, h3⟩ := ho
  refine Calls.call_function_entry kind_sorted plain_sorted entry_sorted (args_sorted1 _) ?_
  unfold Builtin.«sorted»
  refine wpAny_bind (m := checkCount "sorted" 1 1 _) (wpAny_pure ?_)
  refine wpAny_bind (col _ _ fun us h' tk hk he => ?_)
  have hl : us.length ≤ sizeLine := by rw [each_len he]; exact hz
  have I1 : Inv X pins σ H { s with heap := h', toks := tk } := I.kept hk
  refine wpAny_bind (wpAny_newList ?_ hl)
  have at0 : (h'.push (seqObj "list" us.toArray 0)).get? h'.objs.size = some (seqObj "list" us.toArray 0) := Heap.get?_push_size _ rfl
  show wpAny _ _ _ _ _ { s with heap := h'.push (seqObj "list" us.toArray 0), toks := tk }
  have rd := each_far (o := seqObj "list" us.toArray 0) (each_reads I1 hs he h3)
  refine wpAny_bind (wpAny_holding ?_)
  refine PySem.W.list_sort_data (s := { s with heap := h'.push (seqObj "list" us.toArray 0), toks := tk }) (enc := id) (R := Stands X.K F) at0 he rd (by rw [List.map_id]; exact alike_get h1) (by rw [List.map_id]; exact sortable_get h2) hz (fun b hb => ?_) fun out hol hou => ?_
  · have q := SeqAt.depth_of_shaped (List.all_eq_true.mp h3 b hb)
    show X.A.units + 1 + 1 + b.depth < cLine
    omega
  · obtain ⟨xs, vx, rx⟩ := of_each hou
    obtain ⟨c, hc⟩ := sortedHeap_at (vs := us) (out := out.toArray) at0
    have hlx : xs.length ≤ sizeLine := by rw [vx.length, hol]; exact hz
    have kp : ∀ b u, h'.get? b = some u → (sortedHeap (h'.push (seqObj "list" us.toArray 0)) h'.objs.size us out.toArray).get? b = some u := fun b u q => by
      have hb := Heap.lt_size q
      rw [sortedHeap_old (Nat.ne_of_lt hb) (by rw [size_push']; exact Nat.lt_succ_of_lt hb)]
      exact Heap.get?_push_of_some _ q
    have hn : H h'.objs.size = none := I1.hok.fresh (Nat.le_refl _)
    obtain ⟨st, rr⟩ := fresh_list (K := X.K) hs hw hn rx
    refine wpAny_pure ⟨_, rfl, .ref h'.objs.size, _, I1.laid (t' := tk) kp (Nat.le_refl _) (show ObjOk X.prog X.w _ _ _ (.lst xs) from ⟨hlx, out, c, vx, hc⟩), rfl, k _ _ _ st rr⟩
theorem each_at {α β : Type} {R : α → β → Prop} : ∀ {us : List α} {ds : List β}, us.length = ds.length → (∀ (j : Nat) (u : α) (d : β), us[j]? = some u → ds[j]? = some d → R u d) → PySem.W.EachIs R us ds
  | [], [], _, _ => .nil
  | [], _ :: _, h, _ => by simp at h
  | _ :: _, [], h, _ => by simp at h
  | u :: us, d :: ds, h, k => .cons (k 0 u d rfl rfl) (each_at (by simpa using h) fun j a b e1 e2 => k (j + 1) a b (by simpa using e1) (by simpa using e2))
theorem RpK.fsts {K : Frag} {F : Hp} : ∀ {kvs : List (Key × V)} {ps : List (D × D)}, RpK K F kvs ps → ps.map (·.1) = kvs.map fun kv => kD kv.1
  | _, _, .nil => rfl
  | _, _, .cons _ r => by rw [List.map_cons, List.map_cons, RpK.fsts r]
/-- the keys of a dict, collected -/
theorem keys_each {P : Program} {w : World} {K : Frag} {F : Hp} {kvs : List (Key × V)} {ps : List (D × D)} {vs : List (Key × Value)} {acc : Array Value} (r : RpK K F kvs ps) (rel : KV kvs vs) (h : ItemsOf (fun i v => ∃ k x, vs[i]? = some (k, x) ∧ (mixKind P w).is k v = true) acc vs.length) : PySem.W.EachIs (Stands K F) acc.toList (ps.map (·.1)) := by
  have e1 := rel.keys
  rw [r.fsts]
  refine each_at (by rw [Array.length_toList, h.1, List.length_map, rel.length]) fun j u d hu hd => ?_
  obtain ⟨k, x, hv, hk⟩ := h.2 j u (by rw [← Array.getElem?_toList]; exact hu)
  have e2 : (kvs.map (·.1))[j]? = some k := by rw [e1, List.getElem?_map, hv]; rfl
  rw [List.getElem?_map] at e2 hd
  obtain ⟨kv, e3, e4⟩ := Option.map_eq_some_iff.mp e2
  rw [e3] at hd
  cases hd
  subst e4
  exact ⟨kV kv.1, relV_key (show keyIs kv.1 u = true from hk), rp_key kv.1⟩
theorem cr_sortedAll (hc : X.calm = true) (hu : X.A.units + 100 < cLine) : CallR X (.builtin "sorted") (rC X.K pw .fresh (g1 sortD)) := fun pins s σ H xs us Q I rs h0 => by
  obtain ⟨F, ds, z, hs, hw, rr, hz, k⟩ := h0
  obtain ⟨d, rfl, hq⟩ := g1_some hz
  obtain ⟨v, rfl, r⟩ := rpH1 rr
  obtain ⟨u, rfl, ru⟩ := vals1 rs
  obtain ⟨ks, hks, hq⟩ := Option.bind_eq_some_iff.mp hq
  obtain ⟨hg, rfl⟩ := gd_some hq
  rw [Bool.and_eq_true] at hg
  have hlen : ks.length ≤ sizeLine := by rw [← lim_eq]; exact of_decide_eq_true hg.2
  cases r <;> try (exfalso; revert hks; simp [keysOf]; done)
  · rename_i a xs ds h1 r1
    cases hks
    cases ru
    obtain ⟨its, rv, pl, _⟩ := I.list (.of h1)
    obtain ⟨o, hat, hcl, n, hd⟩ := pl.isList
    exact sorted_core hu I hs hw hg.1 hlen (fun R E' kk => collect_seq hat hcl (.inl rfl) hd (by rw [← rv.length, r1.length]; exact hlen) (kk its _ s.toks (fun b o q => by
      have hb := Heap.lt_size q
      rw [Heap.get?_update_other _ _ (Nat.ne_of_gt hb)]
      exact Heap.get?_push_of_some _ q) (each_of rv r1))) k
  · rename_i a xs ds h1 r1
    cases hks
    cases ru
    obtain ⟨its, rv, pl, _⟩ := I.tuple (Same.sqT hs h1)
    obtain ⟨o, hat, hcl, n, hd⟩ := pl
    exact sorted_core hu I hs hw hg.1 hlen (fun R E' kk => collect_seq hat hcl (.inr rfl) hd (by rw [← rv.length, r1.length]; exact hlen) (kk its _ s.toks (fun b o q => by
      have hb := Heap.lt_size q
      rw [Heap.get?_update_other _ _ (Nat.ne_of_gt hb)]
      exact Heap.get?_push_of_some _ q) (each_of rv r1))) k
  · rename_i a kvs ps h1 n1 r1
    cases hks
    cases ru
    obtain ⟨z, lo, vs, rel, dd⟩ := dk_rd I.hok h1
    obtain ⟨ep, hat⟩ := dd.dictAt
    have hvl : vs.length = kvs.length := rel.length.symm
    refine sorted_core hu I hs hw hg.1 hlen (fun R E' kk => PySem.W.kdu_collect (A := X.A.in1) (PySem.W.kdl_dict (knd := mixKind X.prog X.w) (kvs := vs) (ep := ep) lo) (I.ok.hd hc) hat (by rw [hvl]; exact z) fun h' tk acc hk hacc => kk _ h' tk hk (keys_each r1 rel hacc)) k
/-! ### min, max -/
theorem reads_all {pins : List (Addr × Obj)} {σ : St} {F H : Hp} {s : Shared} (I : Inv X pins σ H s) (hs : Same F H) {us : List Value} {ds : List D} (h : PySem.W.EachIs (Stands X.K F) us ds) (hd : ds.all sh = true) : ∃ as, ReadsAll s.heap us ds as := by
  have q := PySem.W.each_readsAll (enc := id) (each_reads I hs h hd)
  rw [List.map_id] at q
  exact q
theorem depth_all {n : Nat} : ∀ {ds : List D}, ds.all sh = true → n + 65 < cLine → n + PyData.depthAll ds < cLine
  | [], _, h => by
    show n + 0 < cLine
    omega
  | d :: ds, hd, h => by
    rw [List.all_cons, Bool.and_eq_true] at hd
    have q := SeqAt.depth_of_shaped hd.1
    have ih := depth_all (n := n) hd.2 h
    show n + PyData.depthAll (d :: ds) < cLine
    rw [PyData.depthAll]
    omega
theorem leastL_mem (lt : D → D → Bool) : ∀ (x : D) (r : List D), leastL lt x r ∈ x :: r
  | x, [] => by simp [leastL]
  | x, y :: r => by
    unfold leastL
    split
    · exact List.mem_cons_of_mem _ (leastL_mem lt y r)
    · rcases List.mem_cons.mp (leastL_mem lt x r) with h | h
      · rw [h]; simp
      · exact List.mem_cons_of_mem _ (List.mem_cons_of_mem _ h)
theorem leastL_min : ∀ (x : D) (r : List D), leastL ltB x r = PySem.W.minD x r
  | x, [] => rfl
  | x, y :: r => by
    unfold leastL PySem.W.minD
    rw [List.foldl_cons, leastL_min]
    rfl
theorem leastL_max : ∀ (x : D) (r : List D), leastL (fun a b => ltB b a) x r = PySem.W.maxD x r
  | x, [] => rfl
  | x, y :: r => by
    unfold leastL PySem.W.maxD
    rw [List.foldl_cons, leastL_max]
    rfl
theorem alikeAll_get {ds : List D} (h : allAlike ds = true) (h2 : ∀ d ∈ ds, d ≠ .none) : PySem.W.AlikeAll ds := ⟨alike_get h, h2⟩
theorem each_ix {α β : Type} {R : α → β → Prop} : ∀ {us : List α} {ds : List β} {i : Nat} {u : α}, PySem.W.EachIs R us ds → us[i]? = some u → ∃ d, d ∈ ds ∧ R u d
  | _, _, i, u, .nil, e => by simp at e
  | _, _, 0, u, .cons h _, e => by simp at e; subst e; exact ⟨_, by simp, h⟩
  | _, _, i + 1, u, .cons _ t, e => by
    obtain ⟨d, h1, h2⟩ := each_ix (i := i) t (by simpa using e)
    exact ⟨d, List.mem_cons_of_mem _ h1, h2⟩
/-- the item that reads as the least is the least -/
theorem best_fin {pins : List (Addr × Obj)} {σ : St} {F H : Hp} {s : Shared} {Q : VK} {us : List Value} {ds : List D} {z : D} (I : Inv X pins σ H s) (hs : Same F H) (hw : WOk F H pw) (he : PySem.W.EachIs (Stands X.K F) us ds) (hd : ds.all sh = true) (k : ∀ v F' H', Step pw F H F' H' → Res X.K pw .val F' H H' v z → Q v H')
    (i : Nat) (u : Value) (h' : Heap) (tk : Nat) (bs : List Addr) (eu : us[i]? = some u) (r : Reads h' u z bs) (kp : ∀ b o, s.heap.get? b = some o → h'.get? b = some o) : EP X pins σ Q u { s with heap := h', toks := tk } := by
  obtain ⟨d, hm, x, rx, rp⟩ := each_ix he eu
  obtain ⟨as, rd⟩ := reads_of I hs ⟨x, rx, rp⟩ (List.all_eq_true.mp hd d hm)
  have e := (PySem.Reads.unique (Reads.keeps kp rd) _ _ r).1
  subst e
  exact ⟨x, H, I.kept kp, rx, k x F H (.refl hs hw) rp⟩
theorem some_get {ds : List D} (h : ds.all some_ = true) : ∀ d ∈ ds, d ≠ .none := fun d hd e => by
  have := List.all_eq_true.mp h d hd
  rw [e] at this
  cases this
def bi2 (f : Int → Int → Int) : List D → Option D
  | [.int a, .int b] => some (.int (f a b))
  | _ => none
theorem cr_minB (hc : X.calm = true) (hu : X.A.units + 100 < cLine) : CallR X (.builtin "min") (rC X.K pw .val (g1 (best ltB))) := fun pins s σ H xs us Q I rs h0 => by
  obtain ⟨F, ds, z, hs, hw, rr, hz, k⟩ := h0
  obtain ⟨d, rfl, hq⟩ := g1_some hz
  obtain ⟨v, rfl, r⟩ := rpH1 rr
  obtain ⟨u, rfl, ru⟩ := vals1 rs
  cases r <;> try (exfalso; revert hq; simp [best]; done)
  · rename_i a xs ds h1 r1
    cases ds with
    | nil => exact nomatch hq
    | cons x r =>
      obtain ⟨hg, rfl⟩ := gd_some hq
      rw [Bool.and_eq_true, Bool.and_eq_true] at hg
      cases ru
      obtain ⟨its, rv, pl, _⟩ := I.list (.of h1)
      have he := each_of rv r1
      obtain ⟨as, ra⟩ := reads_all I hs he hg.1.2
      refine PySem.W.min_list_data (I.ok.hd hc) pl.isList (by simpa using ra) (alikeAll_get hg.1.1 (some_get hg.2)) (depth_all hg.1.2 (by omega)) fun i u h' tk bs e1 e2 e3 => ?_
      rw [← leastL_min] at e2
      exact best_fin I hs hw he hg.1.2 k i u h' tk bs (by simpa using e1) e2 e3
  · rename_i a xs ds h1 r1
    cases ds with
    | nil => exact nomatch hq
    | cons x r =>
      obtain ⟨hg, rfl⟩ := gd_some hq
      rw [Bool.and_eq_true, Bool.and_eq_true] at hg
      cases ru
      obtain ⟨its, rv, pl, _⟩ := I.tuple (Same.sqT hs h1)
      have he := each_of rv r1
      obtain ⟨as, ra⟩ := reads_all I hs he hg.1.2
      refine PySem.W.min_tuple_data (I.ok.hd hc) (show s.heap.IsTuple a its.toArray from pl) (by simpa using ra) (alikeAll_get hg.1.1 (some_get hg.2)) (depth_all hg.1.2 (by omega)) fun i u h' tk bs e1 e2 e3 => ?_
      rw [← leastL_min] at e2
      exact best_fin I hs hw he hg.1.2 k i u h' tk bs (by simpa using e1) e2 e3
theorem cr_maxB (hc : X.calm = true) (hu : X.A.units + 100 < cLine) : CallR X (.builtin "max") (rC X.K pw .val (g1 (best fun a b => ltB b a))) := fun pins s σ H xs us Q I rs h0 => by
  obtain ⟨F, ds, z, hs, hw, rr, hz, k⟩ := h0
  obtain ⟨d, rfl, hq⟩ := g1_some hz
  obtain ⟨v, rfl, r⟩ := rpH1 rr
  obtain ⟨u, rfl, ru⟩ := vals1 rs
  cases r <;> try (exfalso; revert hq; simp [best]; done)
  · rename_i a xs ds h1 r1
    cases ds with
    | nil => exact nomatch hq
    | cons x r =>
      obtain ⟨hg, rfl⟩ := gd_some hq
      rw [Bool.and_eq_true, Bool.and_eq_true] at hg
      cases ru
      obtain ⟨its, rv, pl, _⟩ := I.list (.of h1)
      have he := each_of rv r1
      obtain ⟨as, ra⟩ := reads_all I hs he hg.1.2
      refine PySem.W.max_list_data (I.ok.hd hc) pl.isList (by simpa using ra) (alikeAll_get hg.1.1 (some_get hg.2)) (depth_all hg.1.2 (by omega)) fun i u h' tk bs e1 e2 e3 => ?_
      rw [← leastL_max] at e2
      exact best_fin I hs hw he hg.1.2 k i u h' tk bs (by simpa using e1) e2 e3
  · rename_i a xs ds h1 r1
    cases ds with
    | nil => exact nomatch hq
    | cons x r =>
      obtain ⟨hg, rfl⟩ := gd_some hq
      rw [Bool.and_eq_true, Bool.and_eq_true] at hg
      cases ru
      obtain ⟨its, rv, pl, _⟩ := I.tuple (Same.sqT hs h1)
      have he := each_of rv r1
      obtain ⟨as, ra⟩ := reads_all I hs he hg.1.2
      refine PySem.W.max_tuple_data (I.ok.hd hc) (show s.heap.IsTuple a its.toArray from pl) (by simpa using ra) (alikeAll_get hg.1.1 (some_get hg.2)) (depth_all hg.1.2 (by omega)) fun i u h' tk bs e1 e2 e3 => ?_
      rw [← leastL_max] at e2
      exact best_fin I hs hw he hg.1.2 k i u h' tk bs (by simpa using e1) e2 e3
theorem bi2_some {f : Int → Int → Int} {ds : List D} {z : D} (h : bi2 f ds = some z) : ∃ a b, ds = [.int a, .int b] ∧ z = .int (f a b) := by
  match ds, h with
  | [.int a, .int b], h => cases h; exact ⟨a, b, rfl, rfl⟩
theorem cr_min2 (hc : X.calm = true) : CallR X (.builtin "min") (rC X.K pw .val (bi2 fun a b => if b < a then b else a)) :=
  cimp (call_min2 hc) fun vs H Q h0 => by
    obtain ⟨F, ds, z, hs, hw, rr, hz, k⟩ := h0
    obtain ⟨a, b, rfl, rfl⟩ := bi2_some hz
    obtain ⟨v, v2, rfl, r1, r2⟩ := rpH2 rr
    cases r1
    cases r2
    exact ⟨a, b, rfl, k _ _ _ (.refl hs hw) (.int _)⟩
theorem cr_max2 (hc : X.calm = true) : CallR X (.builtin "max") (rC X.K pw .val (bi2 fun a b => if b > a then b else a)) :=
  cimp (call_max2 hc) fun vs H Q h0 => by
    obtain ⟨F, ds, z, hs, hw, rr, hz, k⟩ := h0
    obtain ⟨a, b, rfl, rfl⟩ := bi2_some hz
    obtain ⟨v, v2, rfl, r1, r2⟩ := rpH2 rr
    cases r1
    cases r2
    exact ⟨a, b, rfl, k _ _ _ (.refl hs hw) (.int _)⟩
end
end Ly

set_option maxRecDepth 100000
set_option maxHeartbeats 1000000
/-! Methods, isinstance, lists of items and of ranges, displays of dicts, calls. -/
namespace Ly
open PySem PySem.Spec PyProof.Rows L2
section
variable {X : Cx} {pw : Option Addr} {md : Md} {e e2 o : Expr} {es : List Expr} {fo fe fe2 : Env → W D} {fa : Env → W (List D)} {pos p apos cpos : Pos}
/-! ### d.get -/
def fme (m : Me) (fo : Env → W D) (fa : Env → W (List D)) : Env → W D := fun Γ => W.bind (fo Γ) fun x => W.bind (W.opt (gd (meOk m x) ())) fun _ => W.bind (fa Γ) fun ds => W.opt (meD m x ds)
def fes1 (fe : Env → W D) : Env → W (List D) := fun Γ => W.bind (fe Γ) fun d => W.bind (W.ok []) fun ds => W.ok (d :: ds)
def fes2 (fe fe2 : Env → W D) : Env → W (List D) := fun Γ => W.bind (fe Γ) fun d => W.bind (fes1 fe2 Γ) fun ds => W.ok (d :: ds)
theorem rd_step {F H F' H' : Hp} {a : Addr} {kvs : List (Key × V)} (h1 : Rd H a (.dK kvs)) (n1 : some a ≠ pw) (st : Step pw F H F' H') : Rd H' a (.dK kvs) := by
  rcases h1 with h1 | ⟨ob, h1⟩
  · exact .inl (st.keep _ _ h1 n1)
  · exact .inr ⟨ob, st.keep _ _ h1 n1⟩
theorem dict_of {K : Frag} {F H : Hp} {v : V} {d : D} (rs : RpH K pw F H v d) (h : meOk .get d = true) : ∃ a ks ps, v = .ref a ∧ d = .dict ps ∧ Rd H a (.dK ks) ∧ some a ≠ pw ∧ RpK K F ks ps := by
  cases rs <;> try (exfalso; revert h; simp [meOk]; done)
  rename_i a ks ps h1 n1 r1
  exact ⟨a, ks, ps, rfl, rfl, h1, n1, r1⟩
theorem eo_get1 (hu : X.A.units + 1 < cLine) (ho : EO X pw .peek o fo) (he : EO X pw .val e fe) (m : M1 X o "get" apos e cpos) : EO X pw .val (.Call (.Attribute o "get" apos) [e] [] cpos) (fme .get fo (fes1 fe)) :=
  .by (pe_dget1 hu ho.pe he.pe m) fun σ H0 F H Γ R B hf => ⟨H0, F, Γ, _, B, hf, fun d F1 H1 v hr st rs => by
    obtain ⟨_, hq, hr⟩ := hr
    obtain ⟨a, ks, ps, rfl, rfl, h1, n1, r1⟩ := dict_of rs (gd_some hq).1
    refine ⟨a, rfl, .inl ⟨ks, h1⟩, H0, F1, Γ, _, B.step st, hr, fun d2 F2 H2 v2 hr2 st2 rs2 => ?_⟩
    obtain ⟨z, hz, hr2⟩ := hr2
    obtain ⟨hk, rfl⟩ := gd_some hz
    obtain ⟨k, rfl, rfl⟩ := key_of_rp rs2 hk
    refine ⟨valV ks k, .inl ⟨ks, k, rd_step h1 n1 st2, rfl, rfl⟩, F2, _, st.trans st2, ?_, hr2⟩
    rcases r1.get k with ⟨e1, e2⟩ | ⟨w, d3, e1, e2, r2⟩
    · rw [e1, e2]; exact .non
    · rw [e1, e2]; exact r2.mono st2.f⟩
theorem eo_get2 (hu : X.A.units + 1 < cLine) (ho : EO X pw .peek o fo) (he : EO X pw .val e fe) (he2 : EO X pw .val e2 fe2) (m : M2 X o "get" apos e e2 cpos) : EO X pw .val (.Call (.Attribute o "get" apos) [e, e2] [] cpos) (fme .get fo (fes2 fe fe2)) :=
  .by (pe_dget2 hu ho.pe he.pe he2.pe m) fun σ H0 F H Γ R B hf => ⟨H0, F, Γ, _, B, hf, fun d F1 H1 v hr st rs => by
    obtain ⟨_, hq, hr⟩ := hr
    obtain ⟨a, ks, ps, rfl, rfl, h1, n1, r1⟩ := dict_of rs (gd_some hq).1
    refine ⟨a, rfl, .inl ⟨ks, h1⟩, H0, F1, Γ, _, B.step st, hr, fun d2 F2 H2 v2 hr2 st2 rs2 => ⟨H0, F2, Γ, _, B.step (st.trans st2), hr2, fun d3 F3 H3 v3 hr3 st3 rs3 => ?_⟩⟩
    obtain ⟨z, hz, hr3⟩ := hr3
    obtain ⟨hk, rfl⟩ := gd_some hz
    obtain ⟨k, rfl, rfl⟩ := key_of_rp rs2 hk
    refine ⟨valV ks k, .inl ⟨ks, k, rd_step h1 n1 (st2.trans st3), rfl, rfl⟩, F3, _, (st.trans st2).trans st3, ?_, hr3⟩
    rcases r1.get k with ⟨e1, e2⟩ | ⟨w, d3, e1, e2, r2⟩
    · rw [e1, e2]; exact rs3
    · rw [e1, e2]; exact r2.mono (st2.trans st3).f⟩
/-! ### isinstance -/
def tyN : Ty → String
  | .int => "int" | .bool => "bool" | .str => "str" | .tuple => "tuple" | .list => "list" | .dict => "dict"
theorem ty_of {K : Frag} {F H : Hp} {v : V} {d : D} (hs : Same F H) (r : RpH K pw F H v d) (t : Ty) : ∃ u, TyX K H v u ∧ PySem.W.kitOne K u (.type (tyN t)) = some (isiD d t) := by
  cases r with
  | non => exact ⟨_, .base .non, by cases t <;> rfl⟩
  | bl b => exact ⟨_, .base (.bl b), by cases t <;> rfl⟩
  | int i => exact ⟨_, .base (.int i), by cases t <;> rfl⟩
  | str x => exact ⟨_, .base (.str x), by cases t <;> rfl⟩
  | lst h r => exact ⟨_, .base (.lst h), by cases t <;> rfl⟩
  | tup h r =>
    rcases Same.sqT hs h with (h | ⟨ob, h⟩) | ⟨ob, its, n, h, hc, _⟩
    · exact ⟨_, .base (.tup h), by cases t <;> rfl⟩
    · exact ⟨_, .fTuple h, by cases t <;> rfl⟩
    · exact ⟨_, .kTuple h hc, by cases t <;> rfl⟩
  | dct h n r =>
    rcases h with h | ⟨ob, h⟩
    · exact ⟨_, .base (.dK h), by cases t <;> rfl⟩
    · exact ⟨_, .fDict h, by cases t <;> rfl⟩
theorem eo_isi {T : Str} {t : Ty} {q : Pos} (hg : Gl X "isinstance") (hm : X.mg "isinstance" = none) (hv : bootBuiltins "isinstance" = some (.builtin "isinstance")) (hg2 : Gl X T) (hm2 : X.mg T = none) (hv2 : bootBuiltins T = some (.type (tyN t))) (hn2 : T ≠ "__name__") (hd2 : (T == ("__debug__" : Str)) = false)
    (ha : EO X pw .peek e fe) (hs1 : starEach [e, .Name T q] X.env = (false, eval e X.env) :: starEach [.Name T q] X.env) : EO X pw .val (.Call (.Name "isinstance" p) [e, .Name T q] [] pos) (fun Γ => W.bind (fe Γ) fun x => W.ok (.bool (isiD x t))) :=
  .by (pe_callB call_isi hg hm hv (pa_cons ha.pe (pa_cons (pe_bltn (v := .ty (tyN t)) hg2 hm2 hv2 rfl hn2 hd2) pa_nil) hs1) (by decide) (by decide) hs1 rfl) fun σ H0 F H Γ R B hf =>
    ⟨H0, F, Γ, _, B, hf, fun d F1 H1 v hr st rs => by
      obtain ⟨u, h1, h2⟩ := ty_of st.fh (show RpH X.K pw F1 H1 v d from rs) t
      exact ⟨v, .ty (tyN t), u, .type (tyN t), isiD d t, rfl, .ty _, h1, h2, F1, _, st, .bl _, hr⟩⟩
/-! ### list(d.items()) -/
/-- the tuples of the items, and their list -/
theorem items_res {K : Frag} {F H H' : Hp} {kvs : List (Key × V)} {ps : List (D × D)} {q : Addr} {ts : List Addr} (r : RpK K F kvs ps) (hs : Same F H) (hw : WOk F H pw) (k1 : ∀ b u, H b = some u → H' b = some u) (k2 : H q = none) (k3 : ∀ t ∈ ts, H t = none) (k4 : q ∉ ts) (k5 : H' q = some (.lst (ts.map V.ref)))
    (k6 : Paired (fun (t : Addr) (z : Key × V) => H' t = some (.tup [kV z.1, z.2])) ts kvs) : ∃ F', Step pw F H F' H' ∧ Res K pw .fresh F' H H' (.ref q) (.list (ps.map fun z => .tuple [z.1, z.2])) := by
  classical
  refine ⟨fun a => if a ∈ ts then H' a else F a, ⟨fun a u e => ?_, fun a u e => ?_, fun a u e _ => k1 a u e, fun a e n => ?_, ?_⟩, ?_⟩
  · show (if a ∈ ts then H' a else F a) = some u
    by_cases h : a ∈ ts
    · have := hs a u e
      rw [k3 a h] at this
      cases this
    · rw [if_neg h]; exact e
  · have e : (if a ∈ ts then H' a else F a) = some u := e
    by_cases h : a ∈ ts
    · rw [if_pos h] at e; exact e
    · rw [if_neg h] at e; exact k1 a u (hs a u e)
  · by_cases h : a ∈ ts
    · exact k3 a h
    · have n : (if a ∈ ts then H' a else F a) ≠ none := n
      rw [if_neg h] at n
      exact absurd e n
  · cases pw with
    | none => trivial
    | some z =>
      obtain ⟨w0, l, n, ns, w1, w2, w3⟩ := hw
      have hz : z ∉ ts := fun h => by rw [k3 z h] at w1; cases w1
      refine ⟨by show (if z ∈ ts then H' z else F z) = none; rw [if_neg hz]; exact w0, l, n, ns, k1 z _ w1, ?_, w3⟩
      have hl : l ∉ ts := fun h => by
        have := hs l _ w2
        rw [k3 l h] at this
        cases this
      show (if l ∈ ts then H' l else F l) = _
      rw [if_neg hl]
      exact w2
  · refine ⟨q, rfl, k2, by show (if q ∈ ts then H' q else F q) = none; rw [if_neg k4]; exact none_of_same hs k2, ne_pw hw k2, .lst k5 ?_⟩
    have hF : Same F (fun a => if a ∈ ts then H' a else F a) := fun a u e => by
      show (if a ∈ ts then H' a else F a) = some u
      by_cases h : a ∈ ts
      · have := hs a u e
        rw [k3 a h] at this
        cases this
      · rw [if_neg h]; exact e
    have go : ∀ (us : List Addr) (ks : List (Key × V)) (ds : List (D × D)), (∀ t ∈ us, t ∈ ts) → RpK K F ks ds → Paired (fun (t : Addr) (z : Key × V) => H' t = some (.tup [kV z.1, z.2])) us ks → RpL K (fun a => if a ∈ ts then H' a else F a) (us.map V.ref) (ds.map fun z => .tuple [z.1, z.2]) := by
      intro us ks ds hu hr hp
      induction hp generalizing ds with
      | nil => cases hr; exact .nil
      | @cons t z us ks h _ ih =>
        cases hr with
        | cons r1 r2 =>
          refine .cons (.tup (xs := [kV _, _]) (.of ?_) (.cons (rp_key _) (.cons (r1.mono hF) .nil))) (ih _ (fun t ht => hu t (List.mem_cons_of_mem _ ht)) r2)
          show (if t ∈ ts then H' t else F t) = _
          rw [if_pos (hu t (by simp))]
          exact h
    exact go ts kvs ps (fun _ h => h) r k6
theorem eo_listItems (hc : X.calm = true) (ho : EO X pw .peek o fo) (hg : Gl X "list") (hm : X.mg "list" = none) (hv : bootBuiltins "list" = some (.type "list")) (hb : attributeBase o "items" X.env (eval o X.env) = eval o X.env) (hline : (apos.endLine == cpos.line) = true)
    (hst : starEach [.Call (.Attribute o "items" apos) [] [] cpos] X.env = (false, eval (.Call (.Attribute o "items" apos) [] [] cpos) X.env) :: starEach [] X.env) :
    EO X pw .fresh (.Call (.Name "list" p) [.Call (.Attribute o "items" apos) [] [] cpos] [] pos) (fun Γ => W.bind (W.bind (fo Γ) fun d => W.bind (W.ok []) fun ds => W.ok (d :: ds)) fun ds => W.opt (biD .listItems ds)) := ⟨fun pins s σ H0 F H Γ R I B hf => by
  refine wpAny_Call_Name_kw (ld_blt I hg hm hv (callWith_type1 ?_ hst rfl))
  rw [hst]
  show wpAny _ _ (spliced ((false, eval (.Call (.Attribute o "items" apos) [] [] cpos) X.env) :: backTo pos (starEach [] X.env))) _ _ s
  refine Calls.spliced_cons (wpAny_Call_method (T := "dict") (id := "dict.items") hb rfl hline PySem.F.plainAttrs_dict PySem.F.slot_dict_items PySem.F.type_dict_items (thn (ho.run pins s σ H0 F H Γ _ I B hf) fun u s1 ⟨v, F1, H1, d, I1, ru, st, rs, hr⟩ => ?_))
  obtain ⟨z, hz, hr⟩ := hr
  have rs : RpH X.K pw F1 H1 v d := rs
  cases rs <;> try (exfalso; revert hz; simp [biD]; done)
  rename_i a ks ps h1 n1 r1
  cases hz
  cases ru
  obtain ⟨hz, lo, vs, rel, dd⟩ := dk_rd I1.hok h1
  obtain ⟨ep, hat⟩ := dd.dictAt
  have hl : ks.length = vs.length := rel.length
  have I2 : Inv X pins σ H1 { s1 with heap := s1.heap.push { cls := .type "dict_items", data := .fields #[.ref a] } } := I1.kept (t' := s1.toks) (fun _ _ => Heap.get?_push_of_some _)
  refine ⟨dd.typeIs, dd.mapOf.noDict, ?_⟩
  show wpAny _ _ (callWith cpos (.builtin "dict.items") [.ref a] [] []) _ _ s1
  refine method_meetsIn PySem.F.slot_dict_items PySem.F.entry_dict_items rfl (PySem.evalArgs_none ⟨rfl, dd.typeIs, PySem.F.args_dict_items_1 _, _, meets_dict_items (mixKind X.prog X.w) a lo, ⟨vs, dd⟩, Calls.spliced_nil ?_⟩)
  refine PySem.W.kdx_call (knd := mixKind X.prog X.w) (kvs := vs) (ep := ep) (I1.ok.hd hc) ⟨_, Heap.get?_push_size _ rfl, rfl, rfl⟩ (hat.push _) (by omega) fun h' tk acc c as kh kS kl kG ka => ?_
  obtain ⟨H', k1, k2, k3, k4, k5, k6, J⟩ := LiI.items_laid (tk := tk) I2 hz rel kh kS kl kG ka
  obtain ⟨F', st2, rr⟩ := items_res r1 st.fh st.w k1 k2 k3 k4 k5 k6
  obtain ⟨q, e1, e2, e3⟩ := rr
  exact ⟨.ref _, F', H', _, J, rfl, st.trans st2, ⟨q, e1, none_back B.w st e2, e3⟩, hr⟩⟩
/-! ### lists, tuples of ranges -/
theorem rangeL_vals {K : Frag} {F : Hp} (a b : Int) : RpL K F (L2.rgV a b) (rangeL a b) := by
  unfold L2.rgV rangeL
  generalize List.range (b - a).toNat = l
  induction l with
  | nil => exact .nil
  | cons x l ih => exact .cons (.int _) ih
theorem rg_ok {a b : Int} (h : (smallI a && smallI b && decide ((b - a).toNat ≤ lim)) = true) : L2.RgOk a b := by
  rw [Bool.and_eq_true, Bool.and_eq_true] at h
  obtain ⟨⟨h1, h2⟩, h3⟩ := h
  obtain ⟨q1, q2⟩ := small_get h1
  obtain ⟨q3, q4⟩ := small_get h2
  exact ⟨q1, q2, q3, q4, of_decide_eq_true h3⟩
theorem eo_listRg1 {q qq : Pos} (hc : X.calm = true) (hg : Gl X "list") (hm : X.mg "list" = none) (hg2 : Gl X "range") (hm2 : X.mg "range" = none) (he : EO X pw .peek e fe) (n1 : starEach [e] X.env = (false, eval e X.env) :: starEach [] X.env)
    (n2 : starEach [.Call (.Name "range" q) [e] [] qq] X.env = (false, eval (.Call (.Name "range" q) [e] [] qq) X.env) :: starEach [] X.env) :
    EO X pw .fresh (.Call (.Name "list" p) [.Call (.Name "range" q) [e] [] qq] [] pos) (fun Γ => W.bind (fes1 fe Γ) fun ds => W.opt (biD .listRange ds)) :=
  .by (pe_listRg hc hg hm (prg_1 hg2 hm2 he.pe n1) n2) fun σ H0 F H Γ R B hf => ⟨H0, F, Γ, _, B, hf, fun d F1 H1 v hr st rs => by
    obtain ⟨z, hz, hr⟩ := hr
    have rs : RpH X.K pw F1 H1 v d := rs
    cases rs <;> try (exfalso; revert hz; simp [biD]; done)
    rename_i b
    obtain ⟨hb, rfl⟩ := gd_some hz
    rw [Bool.and_eq_true] at hb
    refine ⟨b, rfl, rg_ok (a := 0) (by rw [Int.sub_zero, hb.1, hb.2]; rfl), fun l hl => ?_⟩
    obtain ⟨st2, q, e1, e2, e3⟩ := fresh_list (K := X.K) st.fh st.w hl (rangeL_vals 0 b)
    exact ⟨F1, _, st.trans st2, ⟨q, e1, none_back B.w st e2, e3⟩, hr⟩⟩
theorem eo_listRg2 {q qq : Pos} (hc : X.calm = true) (hg : Gl X "list") (hm : X.mg "list" = none) (hg2 : Gl X "range") (hm2 : X.mg "range" = none) (he : EO X pw .peek e fe) (he2 : EO X pw .peek e2 fe2) (n1 : starEach [e, e2] X.env = (false, eval e X.env) :: starEach [e2] X.env) (n3 : starEach [e2] X.env = (false, eval e2 X.env) :: starEach [] X.env)
    (n2 : starEach [.Call (.Name "range" q) [e, e2] [] qq] X.env = (false, eval (.Call (.Name "range" q) [e, e2] [] qq) X.env) :: starEach [] X.env) :
    EO X pw .fresh (.Call (.Name "list" p) [.Call (.Name "range" q) [e, e2] [] qq] [] pos) (fun Γ => W.bind (fes2 fe fe2 Γ) fun ds => W.opt (biD .listRange ds)) :=
  .by (pe_listRg hc hg hm (prg_2 hg2 hm2 he.pe he2.pe n1 n3 (by rw [n3]; rfl)) n2) fun σ H0 F H Γ R B hf => ⟨H0, F, Γ, _, B, hf, fun d F1 H1 v hr st rs => ⟨H0, F1, Γ, _, B.step st, hr, fun d2 F2 H2 v2 hr2 st2 rs2 => by
    obtain ⟨z, hz, hr2⟩ := hr2
    have rs : RpH X.K pw F1 H1 v d := rs
    have rs2 : RpH X.K pw F2 H2 v2 d2 := rs2
    cases rs <;> try (exfalso; revert hz; simp [biD]; done)
    cases rs2 <;> try (exfalso; revert hz; simp [biD]; done)
    rename_i a b
    obtain ⟨hb, rfl⟩ := gd_some hz
    refine ⟨a, b, rfl, rfl, rg_ok hb, fun l hl => ?_⟩
    obtain ⟨st3, q, e1, e2, e3⟩ := fresh_list (K := X.K) st2.fh st2.w hl (rangeL_vals a b)
    exact ⟨F2, _, (st.trans st2).trans st3, ⟨q, e1, none_back B.w (st.trans st2) e2, e3⟩, hr2⟩⟩⟩
/-! ### displays of dicts -/
inductive RpP (K : Frag) (F : Hp) : List (V × V) → List (D × D) → Prop
  | nil : RpP K F [] []
  | cons {k v : V} {x y : D} {vs : List (V × V)} {ps : List (D × D)} : Rp K F k x → Rp K F v y → RpP K F vs ps → RpP K F ((k, v) :: vs) ((x, y) :: ps)
def KO (X : Cx) (pw : Option Addr) (pos : Pos) (keys : List (Option Expr)) (values : List Expr) (f : Env → W (List (D × D))) : Prop :=
  ∃ trs, PPs X pos keys values trs ∧ ∀ (σ : St) (H0 F H : Hp) (Γ : Env) (R : List (D × D) → Prop) (Q : List (V × V) → Hp → Prop), Base X.K pw H0 F H σ Γ → f Γ R →
    (∀ ps vs F' H', R ps → Step pw F H F' H' → RpP X.K F' vs ps → vs.length = values.length → Q vs H') → tPairs trs σ H Q
theorem ko_nil : KO X pw pos [] [] (fun _ => W.ok []) := ⟨[], pps_nil, fun σ H0 F H Γ R Q B hf k => k [] [] F H hf B.refl .nil rfl⟩
theorem RpP.mono {K : Frag} {F F' : Hp} (s : Same F F') : ∀ {vs : List (V × V)} {ps : List (D × D)}, RpP K F vs ps → RpP K F' vs ps
  | _, _, .nil => .nil
  | _, _, .cons a b c => .cons (a.mono s) (b.mono s) (RpP.mono s c)
theorem ko_cons {ks : List (Option Expr)} {vs : List Expr} {fr : Env → W (List (D × D))} (hk : EO X pw .val e fe) (hv : EO X pw .val e2 fe2) (hr : KO X pw pos ks vs fr) :
    KO X pw pos (some e :: ks) (e2 :: vs) (fun Γ => W.bind (fe Γ) fun x => W.bind (fe2 Γ) fun y => W.bind (fr Γ) fun ps => W.ok ((x, y) :: ps)) := by
  obtain ⟨trs, pp, kk⟩ := hr
  refine ⟨_, pps_cons hk.pe hv.pe pp, fun σ H0 F H Γ R Q B hf k => ?_⟩
  refine ⟨H0, F, Γ, _, B, hf, fun d F1 H1 v hr st rs => ⟨H0, F1, Γ, _, B.step st, hr, fun d2 F2 H2 v2 hr2 st2 rs2 => ?_⟩⟩
  exact kk σ H0 F2 H2 Γ _ _ (B.step (st.trans st2)) hr2 fun ps vs F3 H3 hr3 st3 rs3 hl3 => k _ _ F3 H3 hr3 ((st.trans st2).trans st3) (.cons (Rp.mono (st2.trans st3).f rs) (Rp.mono st3.f rs2) rs3) (by simp [hl3])
theorem keys_rp {K : Frag} {F : Hp} : ∀ {vs : List (V × V)} {ps : List (D × D)}, RpP K F vs ps → (ps.all fun p => keyB p.1) = true → ∃ kvs : List (Key × V), vs = kvs.map (fun kv => (kV kv.1, kv.2)) ∧ RpK K F kvs ps
  | _, _, .nil, _ => ⟨[], rfl, .nil⟩
  | _, _, .cons a b c, h => by
    rw [List.all_cons, Bool.and_eq_true] at h
    obtain ⟨kvs, e, r⟩ := keys_rp c h.2
    obtain ⟨k, rfl, rfl⟩ := key_of_rp a h.1
    exact ⟨(k, _) :: kvs, by rw [e]; rfl, .cons b r⟩
theorem RpP.len {K : Frag} {F : Hp} : ∀ {vs : List (V × V)} {ps : List (D × D)}, RpP K F vs ps → vs.length = ps.length
  | _, _, .nil => rfl
  | _, _, .cons _ _ c => by simp [RpP.len c]
theorem eo_dct0 : EO X pw .fresh (.Dict [] [] pos) (fun Γ => W.bind (W.ok []) fun ps => W.opt (gd (ps.all fun p => keyB p.1) (.dict (mergeD [] ps)))) :=
  .by pe_dnewK fun σ H0 F H Γ R B hf q hq => by
    obtain ⟨z, hz, hr⟩ := hf
    obtain ⟨_, rfl⟩ := gd_some hz
    obtain ⟨st, rr⟩ := fresh_dict (K := X.K) B.s B.w hq .nil
    exact ⟨F, _, st, rr, hr⟩
/-- a thing that is new since H is written -/
theorem Step.over {F H F2 H2 : Hp} {q : Addr} {u : HO} (st : Step pw F H F2 H2) (h0 : H q = none) (hf : F2 q = none) (hp : some q ≠ pw) : Step pw F H F2 (L2.upd H2 q u) where
  f := st.f
  fh := fun a o e => by
    rw [upd_ne]
    · exact st.fh a o e
    · intro z
      rw [z, hf] at e
      cases e
  keep := fun a o e n => by
    rw [upd_ne (ne_of_none e h0)]
    exact st.keep a o e n
  new := st.new
  w := by
    have w := st.w
    cases pw with
    | none => trivial
    | some z =>
      obtain ⟨w0, l, n, ns, w1, w2, w3⟩ := w
      exact ⟨w0, l, n, ns, by rw [upd_ne (fun y => hp (by rw [y]))]; exact w1, w2, w3⟩
theorem eo_dct {keys : List (Option Expr)} {values : List Expr} {f : Env → W (List (D × D))} (h : KO X pw pos keys values f) (hall : keys.all (·.isSome) = true) (hl : keys.length = values.length) (h0 : keys ≠ []) (h15 : keys.length ≤ 15) :
    EO X pw .fresh (.Dict keys values pos) (fun Γ => W.bind (f Γ) fun ps => W.opt (gd (ps.all fun p => keyB p.1) (.dict (mergeD [] ps)))) := by
  obtain ⟨trs, pp, kk⟩ := h
  refine .by (pe_disp pp hall hl h0 h15) fun σ H0 F H Γ R B hf q hq => ?_
  have st0 : Step pw F H F (L2.upd H q (.dK [])) := .laid B.s B.w hq
  have np : some q ≠ pw := ne_pw B.w hq
  refine kk σ H0 F _ Γ _ _ (B.step st0) hf fun ps vs F2 H2 hr2 st2 rs2 hl2 => ?_
  obtain ⟨z, hz, hr⟩ := hr2
  obtain ⟨hk, rfl⟩ := gd_some hz
  obtain ⟨kvs, rfl, rk⟩ := keys_rp rs2 hk
  have f2 : F2 q = none := by
    cases e : F2 q with
    | none => rfl
    | some o =>
      have := st2.new q (none_of_same B.s hq) (by rw [e]; exact fun z => nomatch z)
      rw [upd_same] at this
      cases this
  refine ⟨st2.keep _ _ upd_same np, kvs, rfl, by rw [List.length_map] at hl2; omega, F2, _, (st0.trans st2).over hq f2 np, ⟨q, rfl, hq, f2, np, .dct upd_same (RpK.merge rk .nil)⟩, hr⟩
/-! ### calls of the text's own defs -/
/-- what a def of value g promises -/
def spF (K : Frag) (w : Bool) (g : List D → W D) : Sp := fun vs H Q _ => ∃ (pw : Option Addr) (F : Hp) (ds : List D) (xs : List V) (R : D → Prop), Same F H ∧ WOk F H pw ∧ RpL K F xs ds ∧ g ds R ∧
  (if w then ∃ p, pw = some p ∧ vs = .ref p :: xs else vs = xs) ∧ ∀ v F' H' d, R d → Step pw F H F' H' → Rp K F' v d → Q v H'
/-- what the drawing of a number promises -/
def spNext (K : Frag) : Sp := fun vs H Q _ => ∃ (p : Addr) (F : Hp) (n : Int), vs = [.ref p, .int n] ∧ Same F H ∧ WOk F H (some p) ∧ 0 < n ∧ n < 1073741824 ∧ ∀ (r : Int) F' H', 0 ≤ r → r < n → Step (some p) F H F' H' → Q (.int r) H'
section
variable {k : Nat} {f : Addr} {fd : FuncData} {ps : List Str} {x : Str} {g : List D → W D}
theorem eo_call (F : FnOk X.prog X.w X.K X.mg X.base CX0 k f fd ps (spF X.K false g)) (hr : Room k X.A) (hg : Gl X x) (hm : X.mg x = some (.ref f)) (hk : PySem.W.keepIn X.K (.ref f) = true) (hb : Binds X.K fd ps []) (ha : AO X pw false (e :: es) fa)
    (hdb : (x == ("__debug__" : Str)) = false) (he : starEach (e :: es) X.env = (false, eval e X.env) :: starEach es X.env) (hpl : (backTo pos (starEach es X.env)).any (·.1) = false) : EO X pw .val (.Call (.Name x p) (e :: es) [] pos) (fun Γ => W.bind (fa Γ) fun ds => g ds) :=
  .by (pe_call F hr hg hm hk hb .nil pass0 ha.pa hdb he hpl) fun σ H0 F H Γ R B hf => ⟨H0, F, Γ, _, B, hf, fun ds F1 H1 vs hr st rs hl =>
    ⟨pw, F1, ds, vs, R, st.fh, st.w, rs, hr, by rw [List.append_nil]; rfl, fun v F2 H2 d hd st2 rv => ⟨F2, d, st.trans st2, rv, hd⟩⟩⟩
theorem obj_slot {K : Frag} {H0 F H : Hp} {σ : St} {Γ : Env} {i : Nat} (B : Base K pw H0 F H σ Γ) (h : W.opt (gd (isObj (get Γ i)) ()) (fun _ => True)) : ∃ p, σ[i]? = some (some (.ref p)) ∧ pw = some p := by
  obtain ⟨_, hq, _⟩ := h
  have hq := (gd_some hq).1
  have s := B.e.slot i
  generalize get Γ i = sl at hq s
  cases sl <;> first | exact s | (simp [isObj] at hq)
theorem eo_callW {i : Nat} {xw : Str} {pw' : Pos} (hN : X.N[i]? = some xw) (hv : Vis X.env.scope xw) (hd1 : (xw == ("__debug__" : Str)) = false) (hd2 : (xw == ("__classdict__" : Str)) = false) (F : FnOk X.prog X.w X.K X.mg X.base CX0 k f fd ps (spF X.K true g)) (hr : Room k X.A) (hg : Gl X x) (hm : X.mg x = some (.ref f)) (hk : PySem.W.keepIn X.K (.ref f) = true) (hb : Binds X.K fd ps []) (ha : AO X pw false es fa)
    (hdb : (x == ("__debug__" : Str)) = false) (hpl : (backTo pos (starEach es X.env)).any (·.1) = false) : EO X pw .val (.Call (.Name x p) (.Name xw pw' :: es) [] pos) (fun Γ => W.bind (W.opt (gd (isObj (get Γ i)) ())) fun _ => W.bind (fa Γ) fun ds => g ds) :=
  .by (pe_call F hr hg hm hk hb .nil pass0 (pa_cons (pe_var hN hv hd1 hd2) ha.pa rfl) hdb rfl hpl) fun σ H0 F H Γ R B hf => by
    obtain ⟨u, hu, hf⟩ := hf
    obtain ⟨q, e1, e2⟩ := obj_slot B ⟨u, hu, trivial⟩
    refine ⟨_, e1, H0, F, Γ, _, B, hf, fun ds F1 H1 vs hr st rs hl => ?_⟩
    exact ⟨pw, F1, ds, vs, R, st.fh, st.w, rs, hr, ⟨q, e2, by rw [List.append_nil]⟩, fun v F2 H2 d hd st2 rv => ⟨F2, d, st.trans st2, rv, hd⟩⟩
theorem eo_next {i : Nat} {xw : Str} {pw' : Pos} (hN : X.N[i]? = some xw) (hv : Vis X.env.scope xw) (hd1 : (xw == ("__debug__" : Str)) = false) (hd2 : (xw == ("__classdict__" : Str)) = false) (F : FnOk X.prog X.w X.K X.mg X.base CX0 k f fd ps (spNext X.K)) (hr : Room k X.A) (hg : Gl X x) (hm : X.mg x = some (.ref f)) (hk : PySem.W.keepIn X.K (.ref f) = true) (hb : Binds X.K fd ps []) (he : EO X pw .val e fe)
    (hdb : (x == ("__debug__" : Str)) = false) (hs : starEach [e] X.env = (false, eval e X.env) :: starEach [] X.env) : EO X pw .val (.Call (.Name x p) [.Name xw pw', e] [] pos) (fun Γ => W.bind (W.opt (gd (isObj (get Γ i)) ())) fun _ => W.bind (fe Γ) fun x => fun Q => ∃ n : Int, x = .int n ∧ 0 < n ∧ n < 1073741824 ∧ ∀ r : Int, 0 ≤ r → r < n → Q (.int r)) :=
  .by (pe_call F hr hg hm hk hb .nil pass0 (pa_cons (pe_var hN hv hd1 hd2) (pa_cons he.pe pa_nil hs) rfl) hdb rfl (by rw [hs]; rfl)) fun σ H0 F H Γ R B hf => by
    obtain ⟨u, hu, hf⟩ := hf
    obtain ⟨q, e1, e2⟩ := obj_slot B ⟨u, hu, trivial⟩
    subst e2
    refine ⟨_, e1, H0, F, Γ, _, B, hf, fun d F1 H1 v hr st rs => ?_⟩
    obtain ⟨n, rfl, h1, h2, hr⟩ := hr
    have rs : Rp X.K F1 v (.int n) := rs
    cases rs
    exact ⟨q, F1, n, rfl, st.fh, st.w, h1, h2, fun r F2 H2 g1 g2 st2 => ⟨F2, _, st.trans st2, .int r, hr r g1 g2⟩⟩
end
end
end Ly

set_option maxRecDepth 100000
set_option maxHeartbeats 1000000
/-! Statements. -/
namespace Ly
open PySem PySem.Spec PyProof.Rows L2
/-- what holds at a statement's end -/
structure SB (K : Frag) (pw : Option Addr) (n : Nat) (F0 H0 F : Hp) (F' H' : Hp) (σ' : St) (Γ' : Env) : Prop where
  n : σ'.length = n
  f : Same F F'
  st : Step pw F0 H0 F' H'
  b : Base K pw H0 F' H' σ' Γ'
/-- the wish of a statement: f κ Γ -/
def tS (K : Frag) (pw : Option Addr) (n : Nat) (F0 H0 : Hp) (f : Ko → Env → Prop) : TS := fun D σ H => ∃ (F : Hp) (Γ : Env) (κ : Ko), SB K pw n F0 H0 F F H σ Γ ∧ f κ Γ ∧
  (∀ σ' F' H' Γ', SB K pw n F0 H0 F F' H' σ' Γ' → κ.nx Γ' → D.nx σ' H') ∧ (∀ σ' F' H' Γ', SB K pw n F0 H0 F F' H' σ' Γ' → κ.bk Γ' → D.bk σ' H') ∧ (∀ σ' F' H' Γ', SB K pw n F0 H0 F F' H' σ' Γ' → κ.ct Γ' → D.ct σ' H') ∧
  ∀ v F' H' d, Step pw F0 H0 F' H' → Rp K F' v d → κ.rt d → D.rt v H'
def SO (X : Cx) (pw : Option Addr) (st : Stmt) (f : Ko → Env → Prop) : Prop := ∀ F0 H0, PS X st (tS X.K pw X.N.length F0 H0 f)
def SsO (X : Cx) (pw : Option Addr) (st : List Stmt) (f : Ko → Env → Prop) : Prop := ∀ F0 H0, PSs X st (tS X.K pw X.N.length F0 H0 f)
theorem same_refl (F : Hp) : Same F F := fun _ _ e => e
theorem SB.go {K : Frag} {pw : Option Addr} {n : Nat} {F0 H0 F F' H' F'' H'' : Hp} {σ : St} {Γ : Env} (S : SB K pw n F0 H0 F F' H' σ Γ) (st : Step pw F' H' F'' H'') : SB K pw n F0 H0 F F'' H'' σ Γ :=
  ⟨S.n, fun a o e => st.f a o (S.f a o e), S.st.trans st, S.b.step st⟩
section
variable {X : Cx} {pw : Option Addr} {st : Stmt} {sts : List Stmt} {e e2 : Expr} {fe fe2 : Env → W D} {pos p : Pos}
theorem PS.imp {t t' : TS} (h : PS X st t) (k : ∀ D σ H, σ.length = X.N.length → t' D σ H → t D σ H) : PS X st t' := ⟨fun pins s σ H D I q => h.run pins s σ H D I (k D σ H I.len q)⟩
theorem PSs.imp {t t' : TS} (h : PSs X sts t) (k : ∀ D σ H, σ.length = X.N.length → t' D σ H → t D σ H) : PSs X sts t' := ⟨fun pins s σ H D I q => h.run pins s σ H D I (k D σ H I.len q)⟩
/-- from any rule of a statement: its wish from what stands there -/
theorem SO.mk {f : Ko → Env → Prop} {t : TS} (h : PS X st t) (k : ∀ (F0 H0 F H : Hp) (σ : St) (Γ : Env) (κ : Ko) (D : Ends), SB X.K pw X.N.length F0 H0 F F H σ Γ → f κ Γ →
    (∀ σ' F' H' Γ', SB X.K pw X.N.length F0 H0 F F' H' σ' Γ' → κ.nx Γ' → D.nx σ' H') → (∀ σ' F' H' Γ', SB X.K pw X.N.length F0 H0 F F' H' σ' Γ' → κ.bk Γ' → D.bk σ' H') → (∀ σ' F' H' Γ', SB X.K pw X.N.length F0 H0 F F' H' σ' Γ' → κ.ct Γ' → D.ct σ' H') →
    (∀ v F' H' d, Step pw F0 H0 F' H' → Rp X.K F' v d → κ.rt d → D.rt v H') → t D σ H) : SO X pw st f :=
  fun F0 H0 => PS.imp h fun D σ H _ ⟨F, Γ, κ, S, hf, k1, k2, k3, k4⟩ => k F0 H0 F H σ Γ κ D S hf k1 k2 k3 k4
theorem sso_nil : SsO X pw [] (fun κ Γ => κ.nx Γ) := fun F0 H0 => PSs.imp pss_nil fun D σ H _ ⟨F, Γ, κ, S, hf, k1, _⟩ => k1 σ F H Γ S hf
theorem sso_cons {f g : Ko → Env → Prop} (h : SO X pw st f) (hs : SsO X pw sts g) : SsO X pw (st :: sts) (fun κ Γ => f { κ with nx := g κ } Γ) := fun F0 H0 => PSs.imp (pss_cons (h F0 H0) (hs F0 H0)) fun D σ H _ ⟨F, Γ, κ, S, hf, k1, k2, k3, k4⟩ =>
  ⟨F, Γ, { κ with nx := g κ }, S, hf, fun σ' F' H' Γ' S' q => ⟨F', Γ', κ, ⟨S'.n, same_refl _, S'.st, S'.b⟩, q,
    fun σ2 F2 H2 Γ2 S2 => k1 σ2 F2 H2 Γ2 ⟨S2.n, fun a o z => S2.f a o (S'.f a o z), S2.st, S2.b⟩, fun σ2 F2 H2 Γ2 S2 => k2 σ2 F2 H2 Γ2 ⟨S2.n, fun a o z => S2.f a o (S'.f a o z), S2.st, S2.b⟩,
    fun σ2 F2 H2 Γ2 S2 => k3 σ2 F2 H2 Γ2 ⟨S2.n, fun a o z => S2.f a o (S'.f a o z), S2.st, S2.b⟩, k4⟩, k2, k3, k4⟩
/-! ### return, if, break -/
theorem so_ret (he : EO X pw .val e fe) : SO X pw (.Return (some e) pos) (fun κ Γ => fe Γ κ.rt) :=
  .mk (ps_ret he.pe) fun F0 H0 F H σ Γ κ D S hf _ _ _ k4 => ⟨H0, F, Γ, _, S.b, hf, fun d F' H' v hr st rs => k4 v F' H' d (S.st.trans st) rs hr⟩
theorem so_break : SO X pw (.Break pos) (fun κ Γ => κ.bk Γ) := .mk ps_break fun F0 H0 F H σ Γ κ D S hf _ k2 _ _ => k2 σ F H Γ S hf
theorem so_ite {c : Expr} {a b : List Stmt} {fc : Env → W D} {fa fb : Ko → Env → Prop} (hc : TO X pw c fc) (ha : SsO X pw a fa) (hb : SsO X pw b fb) : SO X pw (.If c a b pos) (fun κ Γ => fc Γ fun x => ∃ c, boolD x = some c ∧ if c then fa κ Γ else fb κ Γ) := fun F0 H0 =>
  PS.imp (ps_if hc.pt (ha F0 H0) (hb F0 H0)) fun D σ H _ ⟨F, Γ, κ, S, hf, k1, k2, k3, k4⟩ => ⟨H0, F, Γ, fun c => if c then fa κ Γ else fb κ Γ, S.b, hf, fun c F' H' hr st => by
    have tr : ∀ {σ2 F2 H2 Γ2}, SB X.K pw X.N.length F0 H0 F' F2 H2 σ2 Γ2 → SB X.K pw X.N.length F0 H0 F F2 H2 σ2 Γ2 := fun S2 => ⟨S2.n, fun a o z => S2.f a o (st.f a o z), S2.st, S2.b⟩
    have S' := S.go st
    cases c with
    | true => exact ⟨F', Γ, κ, ⟨S'.n, same_refl _, S'.st, S'.b⟩, hr, fun σ2 F2 H2 Γ2 S2 => k1 _ _ _ _ (tr S2), fun σ2 F2 H2 Γ2 S2 => k2 _ _ _ _ (tr S2), fun σ2 F2 H2 Γ2 S2 => k3 _ _ _ _ (tr S2), k4⟩
    | false => exact ⟨F', Γ, κ, ⟨S'.n, same_refl _, S'.st, S'.b⟩, hr, fun σ2 F2 H2 Γ2 S2 => k1 _ _ _ _ (tr S2), fun σ2 F2 H2 Γ2 S2 => k2 _ _ _ _ (tr S2), fun σ2 F2 H2 Γ2 S2 => k3 _ _ _ _ (tr S2), k4⟩⟩
/-! ### stores -/
theorem SB.put {K : Frag} {n : Nat} {F0 H0 F F' H' : Hp} {σ : St} {Γ : Env} {i : Nat} {v : V} {d : D} (S : SB K pw n F0 H0 F F' H' σ Γ) (hi : i < n) (r : Rp K F' v d) : SB K pw n F0 H0 F F' H' (σ.set i (some v)) (Γ.set i (.val d)) :=
  ⟨by rw [List.length_set, S.n], S.f, S.st, ⟨S.b.s, S.b.w, S.b.e.put (by rw [S.n]; exact hi) r⟩⟩
theorem SB.own {K : Frag} {n : Nat} {F0 H0 F F1 H1 F' H' : Hp} {σ : St} {Γ : Env} {i : Nat} {v : V} {d : D} (S1 : SB K pw n F0 H0 F F1 H1 σ Γ) (st : Step pw F1 H1 F' H') (hi : i < n) (r : Res K pw .fresh F' H1 H' v d) : SB K pw n F0 H0 F F' H' (σ.set i (some v)) (Γ.set i (.own d)) := by
  obtain ⟨p, rfl, n1, n2, n3, o⟩ := r
  have S := S1.go st
  have h0 : H0 p = none := by
    cases q : H0 p with
    | none => rfl
    | some u =>
      rw [S1.st.keep p u q n3] at n1
      cases n1
  exact ⟨by rw [List.length_set, S.n], S.f, S.st, ⟨S.b.s, S.b.w, S.b.e.putOwn (by rw [S.n]; exact hi) h0 n2 n3 o fun j d' hj => S1.b.off n1 hj⟩⟩
theorem lt_of_name {i : Nat} {x : Str} (hi : X.N[i]? = some x) : i < X.N.length := (List.getElem?_eq_some_iff.mp hi).1
theorem so_set {i : Nat} {x : Str} {pos' : Pos} (hN : X.N.Nodup) (hi : X.N[i]? = some x) (hx : Loc X.env.scope x) (he : EO X pw .val e fe) (hs : swapsWith e (some (.Name x pos')) pos.line X.env = pure false) (hf : X.fn x = true ∨ X.env.scope.names.lookup x = some .local) :
    SO X pw (.Assign [.Name x pos'] e pos) (fun κ Γ => fe Γ fun d => κ.nx (Γ.set i (.val d))) :=
  .mk (ps_set hN hi hx he.pe hs hf) fun F0 H0 F H σ Γ κ D S hf k1 _ _ _ => ⟨H0, F, Γ, _, S.b, hf, fun d F' H' v hr st rs => k1 _ F' H' _ ((S.go st).put (lt_of_name hi) rs) hr⟩
theorem so_setOwn {i : Nat} {x : Str} {pos' : Pos} (hN : X.N.Nodup) (hi : X.N[i]? = some x) (hx : Loc X.env.scope x) (he : EO X pw .fresh e fe) (hs : swapsWith e (some (.Name x pos')) pos.line X.env = pure false) (hf : X.fn x = true ∨ X.env.scope.names.lookup x = some .local) :
    SO X pw (.Assign [.Name x pos'] e pos) (fun κ Γ => fe Γ fun d => κ.nx (Γ.set i (.own d))) :=
  .mk (ps_set hN hi hx he.pe hs hf) fun F0 H0 F H σ Γ κ D S hf k1 _ _ _ => ⟨H0, F, Γ, _, S.b, hf, fun d F' H' v hr st rs => k1 _ F' H' _ (S.own st (lt_of_name hi) rs) hr⟩
theorem so_unpack {tg : Expr} {t : Tg} (hg : GO X pw tg t) (he : EO X pw .val e fe) (hs : swapsWithSole [tg] e pos.line X.env = pure false) (hw : swappedStores [tg] e X.env = pure none) (h1 : (assignEach [tg] X.env).map (·.2) = [assign tg X.env]) :
    SO X pw (.Assign [tg] e pos) (fun κ Γ => fe Γ fun d => ∃ Γ', tgB t d Γ = some Γ' ∧ κ.nx Γ') :=
  .mk (ps_asg he.pe hg.pg hs hw h1) fun F0 H0 F H σ Γ κ D S hf k1 _ _ _ => ⟨H0, F, Γ, _, S.b, hf, fun d F' H' v hr st rs => by
    obtain ⟨Γ', e1, hr⟩ := hr
    have S' := S.go st
    exact ⟨H0, F', Γ, d, Γ', S'.n, S'.b, rs, e1, fun σ' B' hl _ => k1 σ' F' H' Γ' ⟨hl, S'.f, S'.st, B'⟩ hr⟩⟩
end
end Ly

set_option maxRecDepth 100000
set_option maxHeartbeats 1000000
/-! Loops; what becomes fixed. -/
namespace Ly
open PySem PySem.Spec PyProof.Rows L2
section
variable {X : Cx} {pw : Option Addr} {st : Stmt} {sts : List Stmt} {e e2 : Expr} {fe fe2 : Env → W D} {pos p : Pos}
theorem sso_freeze {i : Nat} {g : Ko → Env → Prop} (hs : SsO X pw sts g) : SsO X pw sts (fun κ Γ => ∃ d, get Γ i = .own d ∧ g κ (Γ.set i (.val d))) := fun F0 H0 => ⟨fun pins s σ H D I ⟨F, Γ, κ, S, hf, k1, k2, k3, k4⟩ => by
  obtain ⟨d, hd, hf⟩ := hf
  have sl := S.b.e.slot i
  rw [hd] at sl
  obtain ⟨p, e1, h0, f0, hp, o⟩ := sl
  obtain ⟨F2, H2, I2, f1, f2, w2, g1, g2, rp⟩ := freeze_ok I S.b.s S.b.w f0 hp o
  have li : i < Γ.length := lt_of_get (by rw [hd]; exact fun z => nomatch z)
  have S2 : SB X.K pw X.N.length F0 H0 F2 F2 H2 σ (Γ.set i (.val d)) := by
    refine ⟨S.n, same_refl _, ⟨fun a u z => f1 a u (S.st.f a u z), f2, fun a u z n => ?_, fun a z n => ?_, w2⟩, ⟨f2, w2, ⟨by rw [List.length_set]; exact S.b.e.len, fun j => ?_, fun j k d1 d2 q h1 h2 e2 e3 => ?_⟩⟩⟩
    · rw [g1 a (fun y => by rw [y, h0] at z; cases z)]
      exact S.st.keep a u z n
    · by_cases y : a = p
      · rw [y]; exact h0
      · rw [g2 a y] at n
        exact S.st.new a z n
    · rw [get_set li]
      by_cases y : j = i
      · rw [if_pos y, y]
        exact ⟨.ref p, e1, rp⟩
      · rw [if_neg y]
        have q := S.b.e.slot j
        have ap := S.b.e.apart i j d
        generalize get Γ j = s2 at q ap ⊢
        cases s2 with
        | non => trivial
        | obj => exact q
        | scr ns => obtain ⟨v, e2, r⟩ := q; exact ⟨v, e2, Same.sqL f1 r⟩
        | val d2 => obtain ⟨v, e2, r⟩ := q; exact ⟨v, e2, r.mono f1⟩
        | own d2 =>
          obtain ⟨p2, e2, h2, f3, hp2, o2⟩ := q
          have np : p2 ≠ p := fun z => y (ap d2 p hd rfl e1 (by rw [← z]; exact e2)).symm
          exact ⟨p2, e2, h2, by rw [g2 _ np]; exact f3, hp2, o2.mono f1 fun u z => by rw [g1 _ np]; exact z⟩
    · rw [get_set li] at h1 h2
      by_cases y : j = i
      · rw [if_pos y] at h1; cases h1
      · by_cases y2 : k = i
        · rw [if_pos y2] at h2; cases h2
        · rw [if_neg y] at h1
          rw [if_neg y2] at h2
          exact S.b.e.apart j k d1 d2 q h1 h2 e2 e3
  have tr : ∀ {σ3 F3 H3 Γ3}, SB X.K pw X.N.length F0 H0 F2 F3 H3 σ3 Γ3 → SB X.K pw X.N.length F0 H0 F F3 H3 σ3 Γ3 := fun S3 => ⟨S3.n, fun a o z => S3.f a o (f1 a o z), S3.st, S3.b⟩
  exact (hs F0 H0).run pins s σ H2 D I2 ⟨F2, _, κ, S2, hf, fun _ _ _ _ S3 => k1 _ _ _ _ (tr S3), fun _ _ _ _ S3 => k2 _ _ _ _ (tr S3), fun _ _ _ _ S3 => k3 _ _ _ _ (tr S3), k4⟩⟩
theorem SB.kill {K : Frag} {n : Nat} {F0 H0 F F' H' : Hp} {σ : St} {Γ : Env} (S : SB K pw n F0 H0 F F' H' σ Γ) (ks : List Nat) : SB K pw n F0 H0 F F' H' σ (Ly.kill ks Γ) := ⟨S.n, S.f, S.st, ⟨S.b.s, S.b.w, S.b.e.kill ks⟩⟩
theorem SB.self {K : Frag} {n : Nat} {F0 H0 F F' H' : Hp} {σ : St} {Γ : Env} (S : SB K pw n F0 H0 F F' H' σ Γ) : SB K pw n F0 H0 F' F' H' σ Γ := ⟨S.n, same_refl _, S.st, S.b⟩
theorem SB.tr {K : Frag} {n : Nat} {F0 H0 F F1 F' H' : Hp} {σ : St} {Γ : Env} (S : SB K pw n F0 H0 F1 F' H' σ Γ) (h : Same F F1) : SB K pw n F0 H0 F F' H' σ Γ := ⟨S.n, fun a o z => S.f a o (h a o z), S.st, S.b⟩
def forF (t : Tg) (ks : List Nat) (fb : Ko → Env → Prop) (d : D) (κ : Ko) (Γ : Env) : Prop := ∃ Γ', tgB t d (kill ks Γ) = some Γ' ∧ fb κ Γ'
theorem so_for {tg iter : Expr} {t : Tg} {ks : List Nat} {body : List Stmt} {fi : Env → W (List D)} {fb : Ko → Env → Prop} (hp : PassesOwn (model X.prog X.w) X.A X.env X.xe) (hc : X.calm = true) (hi : IO X pw tg iter false fi) (hg : GO X pw tg t) (hb : SsO X pw body fb) (hs : ∀ x, foldedSetIterable iter X.env x = pure x) :
    SO X pw (.For tg iter body [] pos) (fun κ Γ => fi Γ fun items => forL (forF t ks fb) { κ with nx := fun Γ' => κ.nx (kill ks Γ') } items Γ) := fun F0 H0 =>
  PS.imp (ps_for hp hc hi.pi hg.pg (hb F0 H0) hs) fun D σ H _ ⟨F, Γ, κ, S, hf, k1, k2, k3, k4⟩ => by
    refine ⟨H0, F, Γ, _, S.b, hf, fun items F1 H1 J hr st ⟨⟨G, Y, wk, hG, hY⟩⟩ => ?_⟩
    have S1 := S.go st
    refine for_it wk (Pv := fun i σ H => ∃ F2 Γ2, SB X.K pw X.N.length F0 H0 F1 F2 H σ Γ2 ∧ forL (forF t ks fb) { κ with nx := fun Γ' => κ.nx (kill ks Γ') } (items.drop i) Γ2) ⟨F1, Γ, S1.self, hr⟩ (fun i σ H _ ⟨F2, Γ2, S2, _⟩ => hG F2 H ⟨S2.f, S2.b.s, S2.b.w⟩) ?_ ?_
    · rintro i x σ2 H2 H3 hi ⟨F2, Γ2, S2, hq⟩ y
      obtain ⟨F3, d, hd, st3, rd⟩ := hY i x F2 H2 H3 hi ⟨S2.f, S2.b.s, S2.b.w⟩ y
      rw [drop_cons hd] at hq
      obtain ⟨Γ', hΓ, hq⟩ := hq
      have S3 := (S2.go st3).kill ks
      refine ⟨H0, F3, _, d, Γ', S3.n, S3.b, rd, hΓ, fun σ' B' hl _ => ?_⟩
      have S4 : SB X.K pw X.N.length F0 H0 F1 F3 H3 σ' Γ' := ⟨hl, S3.f, S3.st, B'⟩
      have h13 : Same F1 F3 := S4.f
      have h03 : Same F F3 := fun a o z => h13 a o (st.f a o z)
      exact ⟨F3, Γ', _, S4.self, hq, fun σ5 F5 H5 Γ5 S5 q5 => ⟨F5, Γ5, S5.tr h13, q5⟩, fun σ5 F5 H5 Γ5 S5 q5 => k1 _ _ _ _ ((S5.tr h03).kill ks) q5, fun σ5 F5 H5 Γ5 S5 q5 => ⟨F5, Γ5, S5.tr h13, q5⟩, k4⟩
    · rintro σ2 H2 ⟨F2, Γ2, S2, hq⟩
      rw [List.drop_length] at hq
      exact k1 _ _ _ _ ((S2.tr st.f).kill ks) hq
def whT (ks : List Nat) (ft : Env → W D) (Γ : Env) : W Bool := fun Q => ft (kill ks Γ) fun x => ∃ c, boolD x = some c ∧ Q c
def whF (ks : List Nat) (fb : Ko → Env → Prop) (κ : Ko) (Γ : Env) : Prop := fb κ (kill ks Γ)
theorem so_while {c : Expr} {ks : List Nat} {body : List Stmt} {ft : Env → W D} {fb : Ko → Env → Prop} {n : Nat} (hp : PassesOwn (model X.prog X.w) X.A X.env X.xe) (hc : TO X pw c ft) (hb : SsO X pw body fb) :
    SO X pw (.While c body [] pos) (fun κ Γ => whileL (whT ks ft) (whF ks fb) { κ with nx := fun Γ' => κ.nx (kill ks Γ') } n Γ) := fun F0 H0 =>
  PS.imp (ps_while hp hc.pt (hb F0 H0)) fun D σ H _ ⟨F, Γ, κ, S, hf, k1, k2, k3, k4⟩ => by
    refine ⟨fun m σ H => ∃ F2 Γ2, SB X.K pw X.N.length F0 H0 F F2 H σ Γ2 ∧ whileL (whT ks ft) (whF ks fb) { κ with nx := fun Γ' => κ.nx (kill ks Γ') } m Γ2, ⟨n, F, Γ, S, hf⟩, ?_⟩
    rintro m σ2 H2 ⟨F2, Γ2, S2, hq⟩
    cases m with
    | zero => exact hq.elim
    | succ m =>
      refine ⟨H0, F2, _, _, (S2.kill ks).b, hq, fun b F3 H3 hb3 st3 => ?_⟩
      have S3 := (S2.kill ks).go st3
      cases b with
      | false => exact k1 _ _ _ _ (((S2.go st3)).kill ks) hb3
      | true =>
        refine ⟨fun σ H => ∃ F2 Γ2, SB X.K pw X.N.length F0 H0 F F2 H σ Γ2 ∧ whileL (whT ks ft) (whF ks fb) { κ with nx := fun Γ' => κ.nx (kill ks Γ') } m Γ2, fun σ' H' h => ⟨m, Nat.lt_succ_self _, h⟩, ?_⟩
        exact ⟨F3, _, _, S3.self, hb3, fun σ5 F5 H5 Γ5 S5 q5 => ⟨F5, Γ5, S5.tr S3.f, q5⟩, fun σ5 F5 H5 Γ5 S5 q5 => k1 _ _ _ _ ((S5.tr S3.f).kill ks) q5, fun σ5 F5 H5 Γ5 S5 q5 => ⟨F5, Γ5, S5.tr S3.f, q5⟩, k4⟩
end
end Ly

set_option maxRecDepth 100000
set_option maxHeartbeats 1000000
/-! Changes of own things; comprehensions stored; several names at once. -/
namespace Ly
open PySem PySem.Spec PyProof.Rows L2
section
variable {X : Cx} {pw : Option Addr} {st : Stmt} {sts : List Stmt} {e e2 : Expr} {fe fe2 : Env → W D} {pos p apos cpos : Pos}
/-- an own thing of slot i written -/
theorem SB.write {K : Frag} {n : Nat} {F0 H0 F F' H' : Hp} {σ : St} {Γ : Env} {i : Nat} {q : Addr} {d d' : D} {u : HO} (S : SB K pw n F0 H0 F F' H' σ Γ) (hd : get Γ i = .own d) (hs : σ[i]? = some (some (.ref q))) (ho : OwnAt K F' (L2.upd H' q u) q d') :
    SB K pw n F0 H0 F F' (L2.upd H' q u) σ (Γ.set i (.own d')) := by
  have sl := S.b.e.slot i
  rw [hd] at sl
  obtain ⟨q', e1, h0, f0, hp, _⟩ := sl
  rw [hs] at e1
  cases e1
  have st2 : Step pw F0 H0 F' (L2.upd H' q u) := S.st.over h0 (by
    cases z : F' q with
    | none => rfl
    | some o => rw [f0] at z; cases z) hp
  exact ⟨S.n, S.f, st2, ⟨st2.fh, st2.w, S.b.e.change hd hs ho⟩⟩
theorem own_list {K : Frag} {H0 F H : Hp} {σ : St} {Γ : Env} {i : Nat} {ds : List D} (B : Base K pw H0 F H σ Γ) (hd : get Γ i = .own (.list ds)) : ∃ q xs, σ[i]? = some (some (.ref q)) ∧ H q = some (.lst xs) ∧ RpL K F xs ds ∧ some q ≠ pw := by
  have sl := B.e.slot i
  rw [hd] at sl
  obtain ⟨q, e1, _, _, hp, o⟩ := sl
  cases o with
  | lst h r => exact ⟨q, _, e1, h, r, hp⟩
theorem own_dict {K : Frag} {H0 F H : Hp} {σ : St} {Γ : Env} {i : Nat} {ps : List (D × D)} (B : Base K pw H0 F H σ Γ) (hd : get Γ i = .own (.dict ps)) : ∃ q kvs, σ[i]? = some (some (.ref q)) ∧ H q = some (.dK kvs) ∧ RpK K F kvs ps ∧ some q ≠ pw := by
  have sl := B.e.slot i
  rw [hd] at sl
  obtain ⟨q, e1, _, _, hp, o⟩ := sl
  cases o with
  | dct h r => exact ⟨q, _, e1, h, r, hp⟩
/-- a slot whose own thing a rule asks for -/
structure Nm (X : Cx) (i : Nat) (x : Str) : Prop where
  at_ : X.N[i]? = some x
  vis : Vis X.env.scope x
  d : (x == ("__debug__" : Str)) = false
  c : (x == ("__classdict__" : Str)) = false
theorem Nm.pe {i : Nat} {x : Str} (h : Nm X i x) : PE X (.Name x p) (tVar i) := pe_var h.at_ h.vis h.d h.c
theorem so_append {i : Nat} {x : Str} (nm : Nm X i x) (he : EO X pw .val e fe) (hb : attributeBase (.Name x p) "append" X.env (eval (.Name x p) X.env) = eval (.Name x p) X.env) (hs : starEach [e] X.env = (false, eval e X.env) :: starEach [] X.env)
    (hl : (apos.endLine == cpos.line) = true) : SO X pw (.Expr (.Call (.Attribute (.Name x p) "append" apos) [e] [] cpos) pos) (fun κ Γ => ∃ ds, get Γ i = .own (.list ds) ∧ fe Γ fun y => ds.length < lim ∧ κ.nx (Γ.set i (.own (.list (ds ++ [y]))))) := by
  refine .mk (ps_expr (pe_bm PySem.F.plainAttrs_list PySem.F.slot_list_append PySem.F.type_list_append mt_append nm.pe (pa_cons he.pe pa_nil hs) hb (by rw [hs]; rfl) hl hs rfl) rfl) fun F0 H0 F H σ Γ κ D S hf k1 _ _ _ => ?_
  obtain ⟨ds, hd, hf⟩ := hf
  obtain ⟨q, xs, e1, hq, r, hp⟩ := own_list S.b hd
  refine ⟨_, e1, .inl ⟨rfl, xs, .of hq⟩, H0, F, Γ, _, S.b, hf, fun d F' H' v hr st rs => ?_⟩
  have S' := S.go st
  have hq' := st.keep q _ hq hp
  refine ⟨q, xs, v, rfl, rfl, hq', by rw [r.length, ← lim_eq]; exact hr.1, ?_⟩
  exact k1 _ F' _ _ (S'.write hd e1 (.lst upd_same ((r.mono st.f).append (.cons rs .nil)))) hr.2
theorem so_extend {i : Nat} {x : Str} (nm : Nm X i x) (he : EO X pw .peek e fe) (hb : attributeBase (.Name x p) "extend" X.env (eval (.Name x p) X.env) = eval (.Name x p) X.env) (hs : starEach [e] X.env = (false, eval e X.env) :: starEach [] X.env)
    (hl : (apos.endLine == cpos.line) = true) : SO X pw (.Expr (.Call (.Attribute (.Name x p) "extend" apos) [e] [] cpos) pos) (fun κ Γ => ∃ ds, get Γ i = .own (.list ds) ∧ fe Γ fun y => ∃ es, y = .list es ∧ ds.length + es.length ≤ lim ∧ κ.nx (Γ.set i (.own (.list (ds ++ es))))) := by
  refine .mk (ps_expr (pe_bm PySem.F.plainAttrs_list PySem.F.slot_list_extend PySem.F.type_list_extend mt_extend nm.pe (pa_cons he.pe pa_nil hs) hb (by rw [hs]; rfl) hl hs rfl) rfl) fun F0 H0 F H σ Γ κ D S hf k1 _ _ _ => ?_
  obtain ⟨ds, hd, hf⟩ := hf
  obtain ⟨q, xs, e1, hq, r, hp⟩ := own_list S.b hd
  refine ⟨_, e1, .inl ⟨rfl, xs, .of hq⟩, H0, F, Γ, _, S.b, hf, fun d F' H' v hr st rs => ?_⟩
  have S' := S.go st
  have hq' := st.keep q _ hq hp
  obtain ⟨es, rfl, hz, hr⟩ := hr
  have rs : RpH X.K pw F' H' v (.list es) := rs
  cases rs with
  | @lst b zs _ h2 r2 =>
    refine ⟨q, b, xs, zs, rfl, rfl, hq', h2, by rw [r.length, r2.length, ← lim_eq]; exact hz, ?_⟩
    exact k1 _ F' _ _ (S'.write hd e1 (.lst upd_same ((r.mono st.f).append r2))) hr
theorem so_put {i : Nat} {x : Str} {spos : Pos} (hu : X.A.units + 1 < cLine) (nm : Nm X i x) (he : EO X pw .val e fe) (he2 : EO X pw .val e2 fe2) (hs : swapsWith e2 (some (.Subscript (.Name x p) e spos)) pos.line X.env = pure false) :
    SO X pw (.Assign [.Subscript (.Name x p) e spos] e2 pos) (fun κ Γ => ∃ kvs, get Γ i = .own (.dict kvs) ∧ fe2 Γ fun y => fe Γ fun k => keyB k = true ∧ kvs.length < lim ∧ κ.nx (Γ.set i (.own (.dict (putD kvs k y))))) := by
  refine .mk (ps_dput hu nm.pe he.pe he2.pe hs) fun F0 H0 F H σ Γ κ D S hf k1 _ _ _ => ?_
  obtain ⟨kvs, hd, hf⟩ := hf
  obtain ⟨q, ks, e1, hq, r, hp⟩ := own_dict S.b hd
  refine ⟨H0, F, Γ, _, S.b, hf, fun y F1 H1 v hr st rs => ⟨_, e1, H0, F1, Γ, _, (S.go st).b, hr, fun k F2 H2 v2 hr2 st2 rs2 => ?_⟩⟩
  have S2 := (S.go st).go st2
  obtain ⟨hk, hz, hr2⟩ := hr2
  obtain ⟨kk, rfl, rfl⟩ := key_of_rp rs2 hk
  have hq2 := st2.keep q _ (st.keep q _ hq hp) hp
  refine ⟨q, _, rfl, .inl ⟨ks, kk, hq2, rfl, by rw [r.length, ← lim_eq]; exact hz, rfl⟩, k1 _ F2 _ _ (S2.write hd e1 (.dct upd_same ((r.mono (st.trans st2).f).put kk (Rp.mono st2.f rs)))) hr2⟩
theorem so_lset {i : Nat} {x : Str} {spos : Pos} (hns : notSlice e = true) (nm : Nm X i x) (he : EO X pw .val e fe) (he2 : EO X pw .val e2 fe2) (hs : swapsWithSole [.Subscript (.Name x p) e spos] e2 pos.line X.env = pure false) (hw : swappedStores [.Subscript (.Name x p) e spos] e2 X.env = pure none) :
    SO X pw (.Assign [.Subscript (.Name x p) e spos] e2 pos) (fun κ Γ => ∃ ds, get Γ i = .own (.list ds) ∧ fe2 Γ fun y => fe Γ fun k => ∃ n j, k = .int n ∧ ixN ds.length n = some j ∧ κ.nx (Γ.set i (.own (.list (ds.set j y))))) := by
  refine .mk (ps_asg he2.pe (pg_sub nm.pe he.pe set_list (fun v => by cases e <;> first | rfl | (simp [notSlice] at hns))) hs hw rfl) fun F0 H0 F H σ Γ κ D S hf k1 _ _ _ => ?_
  obtain ⟨ds, hd, hf⟩ := hf
  obtain ⟨q, xs, e1, hq, r, hp⟩ := own_list S.b hd
  refine ⟨H0, F, Γ, _, S.b, hf, fun y F1 H1 v hr st rs => ⟨_, e1, H0, F1, Γ, _, (S.go st).b, hr, fun k F2 H2 v2 hr2 st2 rs2 => ?_⟩⟩
  have S2 := (S.go st).go st2
  obtain ⟨n, j, rfl, hj, hr2⟩ := hr2
  have rs2 : Rp X.K F2 v2 (.int n) := rs2
  cases rs2
  have hq2 := st2.keep q _ (st.keep q _ hq hp) hp
  exact ⟨q, xs, n, j, rfl, rfl, hq2, by rw [r.length]; exact hj, k1 _ F2 _ _ (S2.write hd e1 (.lst upd_same ((r.mono (st.trans st2).f).set (Rp.mono st2.f rs) j))) hr2⟩
/-! ### x op= e, ints -/
theorem opr_pip {op : Operator} {r : TIp} (h : OpR X (inplaceOp op) r) : PIp X op r := fun pins s σ H x y v u Q I rx ry q => h pins s σ H x y v u Q I rx ry q
def bopOf : Bop → Operator
  | .add => .Add | .sub => .Sub | .mul => .Mult | .fdiv => .FloorDiv | .mod => .Mod | .pow => .Pow
theorem so_aug {o : Bop} {i : Nat} {x : Str} {p' : Pos} (ho : decide (o ≠ .pow) = true) (hN : X.N.Nodup) (nm : Nm X i x) (hx : Loc X.env.scope x) (hf' : X.fn x = true ∨ X.env.scope.names.lookup x = some .local) (he : EO X pw .val e fe) :
    SO X pw (.AugAssign (.Name x p') (bopOf o) e pos) (fun κ Γ => ∃ m, get Γ i = .val (.int m) ∧ fe Γ fun y => ∃ n, y = .int n ∧ ∃ z, binD o (.int m) (.int n) = some z ∧ κ.nx (Γ.set i (.val z))) := by
  have main : ∀ {ti : TIp}, PIp X (bopOf o) ti → (∀ (m n : Int) (z : D) (H : Hp) (Q : VK), binD o (.int m) (.int n) = some z → (∀ v, (∀ F, Rp X.K F v z) → Q v H) → ti (.int m) (.int n) H Q) → SO X pw (.AugAssign (.Name x p') (bopOf o) e pos) (fun κ Γ => ∃ m, get Γ i = .val (.int m) ∧ fe Γ fun y => ∃ n, y = .int n ∧ ∃ z, binD o (.int m) (.int n) = some z ∧ κ.nx (Γ.set i (.val z))) := fun hti kk =>
    .mk (ps_aug hN nm.at_ hx he.pe hti hf') fun F0 H0 F H σ Γ κ D S hf k1 _ _ _ => by
      obtain ⟨m, hd, hf⟩ := hf
      have sl := S.b.e.slot i
      rw [hd] at sl
      obtain ⟨v, e1, rv⟩ := sl
      cases rv
      refine ⟨_, e1, H0, F, Γ, _, S.b, hf, fun y F1 H1 w hr st rs => ?_⟩
      obtain ⟨n, rfl, z, hz, hr⟩ := hr
      have rs : Rp X.K F1 w (.int n) := rs
      cases rs
      exact kk m n z H1 _ hz fun v hv => k1 _ F1 H1 _ ((S.go st).put (lt_of_name nm.at_) (hv F1)) hr
  cases o with
  | add =>
    exact main (opr_pip iop_add) fun m n z H Q hz k => ⟨m, n, rfl, rfl, k _ (by cases hz; exact fun F => .int _)⟩
  | sub =>
    exact main (opr_pip iop_sub) fun m n z H Q hz k => ⟨m, n, rfl, rfl, k _ (by cases hz; exact fun F => .int _)⟩
  | mul =>
    exact main (opr_pip iop_mul) fun m n z H Q hz k => by
      have hz : gd (mulOk m n) (PyData.int (m * n)) = some z := hz
      obtain ⟨h1, rfl⟩ := gd_some hz
      exact ⟨m, n, rfl, rfl, mulOk_c h1, k _ fun F => .int _⟩
  | fdiv =>
    exact main (opr_pip iop_fdiv) fun m n z H Q hz k => by
      have hz : gd (decide (0 < n) && decide (n < 1073741824)) (PyData.int (m / n)) = some z := hz
      obtain ⟨h1, rfl⟩ := gd_some hz
      simp only [Bool.and_eq_true, decide_eq_true_eq] at h1
      exact ⟨m, n, rfl, rfl, h1, k _ fun F => .int _⟩
  | mod =>
    exact main (opr_pip iop_mod) fun m n z H Q hz k => by
      have hz : gd (decide (0 < n)) (PyData.int (m % n)) = some z := hz
      obtain ⟨h1, rfl⟩ := gd_some hz
      simp only [decide_eq_true_eq] at h1
      exact ⟨m, n, rfl, rfl, h1, k _ fun F => .int _⟩
  | pow => cases ho
/-! ### name = [.. for ..] on one line -/
theorem so_setLc {i : Nat} {y : Str} {py : Pos} {elt tg iter : Expr} {k : Bool} {ifs : List Expr} {scope : Scope} {own : List (Str × Nat)} {t : Tg} {fit : Env → W (List D)} {fi : Env → W Bool} {fe : Env → W D} {spos : Pos} (hc : X.calm = true) (hN : X.N.Nodup) (hy : X.N[i]? = some y) (hyl : X.env.scope.names.lookup y = some .local)
    (hsw : swapsWith (.ListComp elt [⟨tg, iter, ifs, 0⟩] scope pos) (some (.Name y py)) spos.line X.env = pure true) (hio : IO X pw tg iter k fit) (ok : BlkOk X.N X.env.scope scope own)
    (hg : ∀ (s : Shared) (H : Hp) (C : Addr) (cl : List (Str × Addr)) (fp : List Addr), GO (X.blk s H scope (compEnvC scope cl C X.env) fp) pw tg t) (ht : ∀ (s : Shared) (H : Hp) (C : Addr) (cl : List (Str × Addr)) (fp : List Addr), IfO (X.blk s H scope (compEnvC scope cl C X.env) fp) pw ifs fi)
    (he : ∀ (s : Shared) (H : Hp) (C : Addr) (cl : List (Str × Addr)) (fp : List Addr), EO (X.blk s H scope (compEnvC scope cl C X.env) fp) pw .val elt fe) (hs : ∀ x, foldedSetIterable iter X.env x = pure x) (hw : ∀ i ∈ tgs t, i ∈ own.map (·.2)) :
    SO X pw (.Assign [.Name y py] (.ListComp elt [⟨tg, iter, ifs, 0⟩] scope pos) spos) (fun κ Γ => (W.bind (fit Γ) fun items => W.bind (flatA (turnF t (own.map (·.2)) fi (eltF fe) Γ) items []) fun ds => W.ok (.list ds)) fun d => κ.nx (Γ.set i (.own d))) :=
  .mk (ps_setLc (te := tE X.K pw .val fe) (tt := tTs X.K pw fi) (g := tGo X.K pw X.N.length t) hc hN hy hyl hsw hio.pi ok (fun s H C cl fp => (hg s H C cl fp).pg) (fun s H C cl fp => (ht s H C cl fp).pts) (fun s H C cl fp => (he s H C cl fp).pe) hs) fun F0 H0 F H σ Γ κ D S hf k1 _ _ _ =>
    lc_wish hw S.n S.b hf fun v F' H' d st rs hr => k1 _ F' H' _ (S.own st (lt_of_name hy) rs) hr
theorem so_setLc2 {i : Nat} {y : Str} {py : Pos} {elt tg iter tg1 iter1 : Expr} {k : Bool} {ifs ifs1 : List Expr} {scope : Scope} {own : List (Str × Nat)} {t t1 : Tg} {fit fit1 : Env → W (List D)} {fi fi1 : Env → W Bool} {fe : Env → W D} {spos : Pos} (hc : X.calm = true) (hN : X.N.Nodup) (hy : X.N[i]? = some y) (hyl : X.env.scope.names.lookup y = some .local)
    (hsw : swapsWith (.ListComp elt [⟨tg, iter, ifs, 0⟩, ⟨tg1, iter1, ifs1, 0⟩] scope pos) (some (.Name y py)) spos.line X.env = pure true) (hio : IO X pw tg iter k fit) (ok : BlkOk X.N X.env.scope scope own)
    (hg : ∀ (s : Shared) (H : Hp) (C : Addr) (cl : List (Str × Addr)) (fp : List Addr), GO (X.blk s H scope (compEnvC scope cl C X.env) fp) pw tg t) (ht : ∀ (s : Shared) (H : Hp) (C : Addr) (cl : List (Str × Addr)) (fp : List Addr), IfO (X.blk s H scope (compEnvC scope cl C X.env) fp) pw ifs fi)
    (hio1 : ∀ (s : Shared) (H : Hp) (C : Addr) (cl : List (Str × Addr)) (fp : List Addr), IO (X.blk s H scope (compEnvC scope cl C X.env) fp) pw tg1 iter1 false fit1)
    (hg1 : ∀ (s : Shared) (H : Hp) (C : Addr) (cl : List (Str × Addr)) (fp : List Addr), GO (X.blk s H scope (compEnvC scope cl C X.env) fp) pw tg1 t1) (ht1 : ∀ (s : Shared) (H : Hp) (C : Addr) (cl : List (Str × Addr)) (fp : List Addr), IfO (X.blk s H scope (compEnvC scope cl C X.env) fp) pw ifs1 fi1)
    (he : ∀ (s : Shared) (H : Hp) (C : Addr) (cl : List (Str × Addr)) (fp : List Addr), EO (X.blk s H scope (compEnvC scope cl C X.env) fp) pw .val elt fe) (hs : ∀ x, foldedSetIterable iter X.env x = pure x) (hs1 : ∀ env x, foldedSetIterable iter1 env x = pure x)
    (hw : ∀ i ∈ tgs t, i ∈ own.map (·.2)) (hw1 : ∀ i ∈ tgs t1, i ∈ own.map (·.2)) :
    SO X pw (.Assign [.Name y py] (.ListComp elt [⟨tg, iter, ifs, 0⟩, ⟨tg1, iter1, ifs1, 0⟩] scope pos) spos) (fun κ Γ => (W.bind (fit Γ) fun items => W.bind (flatA (turnF t (own.map (·.2)) fi (genF t1 fit1 fi1 fe) Γ) items []) fun ds => W.ok (.list ds)) fun d => κ.nx (Γ.set i (.own d))) :=
  .mk (ps_setLc2 (vs1 := tgs t1) (te := tE X.K pw .val fe) (tt := tTs X.K pw fi) (g := tGo X.K pw X.N.length t) (wi1 := tI X.K pw false fit1) (g1 := tGo X.K pw X.N.length t1) (tt1 := tTs X.K pw fi1) hc hN hy hyl hsw hio.pi ok hw1
    (fun s H C cl fp => (hg s H C cl fp).pg) (fun s H C cl fp => (ht s H C cl fp).pts) (fun s H C cl fp => (hio1 s H C cl fp).pi) (fun s H C cl fp => (hg1 s H C cl fp).pg) (fun s H C cl fp => (ht1 s H C cl fp).pts) (fun s H C cl fp => (he s H C cl fp).pe) hs hs1) fun F0 H0 F H σ Γ κ D S hf k1 _ _ _ =>
    lc2_wish hw S.n S.b hf fun v F' H' d st rs hr => k1 _ F' H' _ (S.own st (lt_of_name hy) rs) hr
end
end Ly

set_option maxRecDepth 100000
set_option maxHeartbeats 1000000
/-! Several names stored at once. -/
namespace Ly
open PySem PySem.Spec PyProof.Rows L2
def setSt : List Nat → List V → St → St
  | i :: is, v :: vs, σ => setSt is vs (σ.set i (some v))
  | _, _, σ => σ
theorem setSt_length : ∀ (is : List Nat) (vs : List V) (σ : St), (setSt is vs σ).length = σ.length
  | [], _, _ => by simp [setSt]
  | _ :: _, [], _ => by simp [setSt]
  | i :: is, v :: vs, σ => by
    show (setSt is vs (σ.set i (some v))).length = _
    rw [setSt_length is vs]; simp
/-- values and own things side by side; as: where the own ones stand -/
inductive PL (K : Frag) (pw : Option Addr) (H F' H' : Hp) : List V → List Bool → List D → List Addr → Prop
  | nil : PL K pw H F' H' [] [] [] []
  | val {v : V} {d : D} {vs : List V} {bs : List Bool} {ds : List D} {as : List Addr} : Rp K F' v d → PL K pw H F' H' vs bs ds as → PL K pw H F' H' (v :: vs) (false :: bs) (d :: ds) as
  | own {q : Addr} {d : D} {vs : List V} {bs : List Bool} {ds : List D} {as : List Addr} : H q = none → F' q = none → some q ≠ pw → OwnAt K F' H' q d → q ∉ as → PL K pw H F' H' vs bs ds as → PL K pw H F' H' (.ref q :: vs) (true :: bs) (d :: ds) (q :: as)
section
variable {K : Frag} {pw : Option Addr} {H0 H Ha F F' H' F'' H'' : Hp} {vs : List V} {bs : List Bool} {ds : List D} {as : List Addr}
theorem PL.back (P : PL K pw Ha F' H' vs bs ds as) (k : ∀ a, Ha a = none → H a = none) : PL K pw H F' H' vs bs ds as := by
  induction P with
  | nil => exact .nil
  | val r _ ih => exact .val r ih
  | own h1 h2 h3 h4 h5 _ ih => exact .own (k _ h1) h2 h3 h4 h5 ih
theorem PL.new (P : PL K pw H F' H' vs bs ds as) : ∀ a ∈ as, H a = none := by
  induction P with
  | nil => intro a h; simp at h
  | val r _ ih => exact ih
  | own h1 h2 h3 h4 h5 _ ih =>
    intro a h
    rcases List.mem_cons.mp h with h | h
    · rw [h]; exact h1
    · exact ih a h
theorem PL.len (P : PL K pw H F' H' vs bs ds as) : vs.length = bs.length := by
  induction P with
  | nil => rfl
  | val r _ ih => simp [ih]
  | own h1 h2 h3 h4 h5 _ ih => simp [ih]
/-- one more thing stands, not one of these -/
theorem PL.laid {q : Addr} {u : HO} (P : PL K pw H F' H' vs bs ds as) (hq : H' q = none) : PL K pw H F' (L2.upd H' q u) vs bs ds as := by
  induction P with
  | nil => exact .nil
  | val r _ ih => exact .val r ih
  | own h1 h2 h3 h4 h5 _ ih => exact .own h1 h2 h3 (h4.mono (same_refl _) fun o e => by rw [upd_ne (ne_of_none e hq)]; exact e) h5 ih
theorem store_all (P : PL K pw H F' H' vs bs ds as) : ∀ (is : List Nat) (σ : St) (Γ : Env), is.length = vs.length → (∀ i ∈ is, i < σ.length) → Base K pw H0 F' H' σ Γ → (∀ a ∈ as, H0 a = none) → (∀ a ∈ as, ∀ j d, get Γ j = .own d → σ[j]? ≠ some (some (.ref a))) →
    Base K pw H0 F' H' (setSt is vs σ) (setAll is bs ds Γ) := by
  induction P with
  | nil =>
    intro is σ Γ hl _ B _ _
    cases is with
    | nil => exact B
    | cons _ _ => simp at hl
  | @val v d vs bs ds as r _ ih =>
    intro is σ Γ hl hi B h0 ho
    cases is with
    | nil => simp at hl
    | cons i is =>
      have li : i < σ.length := hi i (by simp)
      refine ih is (σ.set i (some v)) (Γ.set i (.val d)) (by simpa using hl) (fun j hj => by rw [List.length_set]; exact hi j (by simp [hj])) ⟨B.s, B.w, B.e.put li r⟩ h0 fun a ha j d' hj => ?_
      rw [get_set (by rw [B.e.len]; exact li)] at hj
      by_cases z : j = i
      · rw [if_pos z] at hj; cases hj
      · rw [if_neg z] at hj
        rw [List.getElem?_set_ne (Ne.symm z)]
        exact ho a ha j d' hj
  | @own q d vs bs ds as h1 h2 h3 h4 h5 _ ih =>
    intro is σ Γ hl hi B h0 ho
    cases is with
    | nil => simp at hl
    | cons i is =>
      have li : i < σ.length := hi i (by simp)
      refine ih is (σ.set i (some (.ref q))) (Γ.set i (.own d)) (by simpa using hl) (fun j hj => by rw [List.length_set]; exact hi j (by simp [hj])) ⟨B.s, B.w, B.e.putOwn li (h0 q (by simp)) h2 h3 h4 fun j d' hj => ho q (by simp) j d' hj⟩ (fun a ha => h0 a (by simp [ha])) fun a ha j d' hj => ?_
      rw [get_set (by rw [B.e.len]; exact li)] at hj
      by_cases z : j = i
      · rw [z, List.getElem?_set_self li]
        intro y
        cases y
        exact h5 ha
      · rw [if_neg z] at hj
        rw [List.getElem?_set_ne (Ne.symm z)]
        exact ho a (by simp [ha]) j d' hj
end
section
variable {X : Cx} {pw : Option Addr} {e e2 : Expr} {fe fe2 : Env → W D} {pos p : Pos}
def AM (X : Cx) (pw : Option Addr) (es : List Expr) (bs : List Bool) (f : Env → W (List D)) : Prop :=
  ∃ t, PA X es t ∧ bs.length = es.length ∧ ∀ (σ : St) (H0 F H : Hp) (Γ : Env) (R : List D → Prop) (Q : List V → Hp → Prop), Base X.K pw H0 F H σ Γ → f Γ R →
    (∀ ds F' H' vs as, R ds → Step pw F H F' H' → PL X.K pw H F' H' vs bs ds as → Q vs H') → t σ H Q
theorem am_nil : AM X pw [] [] (fun _ => W.ok []) := ⟨_, pa_nil, rfl, fun σ H0 F H Γ R Q B hf k => k [] F H [] [] hf B.refl .nil⟩
theorem am_val {es : List Expr} {bs : List Bool} {g : Env → W (List D)} (he : EO X pw .val e fe) (hs : AM X pw es bs g) (hst : starEach (e :: es) X.env = (false, eval e X.env) :: starEach es X.env) : AM X pw (e :: es) (false :: bs) (fun Γ => W.bind (fe Γ) fun d => W.bind (g Γ) fun ds => W.ok (d :: ds)) := by
  obtain ⟨t, pa, hl, k⟩ := hs
  refine ⟨_, pa_cons he.pe pa hst, by simp [hl], fun σ H0 F H Γ R Q B hf kk => ⟨H0, F, Γ, _, B, hf, fun d F1 H1 v hr st rs => k σ H0 F1 H1 Γ _ _ (B.step st) hr fun ds F2 H2 vs as hr2 st2 P => ?_⟩⟩
  exact kk _ F2 H2 _ _ hr2 (st.trans st2) (.val (Rp.mono st2.f rs) (P.back fun a h => none_back B.w st h))
theorem am_own {es : List Expr} {bs : List Bool} {g : Env → W (List D)} (he : EO X pw .fresh e fe) (hs : AM X pw es bs g) (hst : starEach (e :: es) X.env = (false, eval e X.env) :: starEach es X.env) : AM X pw (e :: es) (true :: bs) (fun Γ => W.bind (fe Γ) fun d => W.bind (g Γ) fun ds => W.ok (d :: ds)) := by
  obtain ⟨t, pa, hl, k⟩ := hs
  refine ⟨_, pa_cons he.pe pa hst, by simp [hl], fun σ H0 F H Γ R Q B hf kk => ⟨H0, F, Γ, _, B, hf, fun d F1 H1 v hr st rs => k σ H0 F1 H1 Γ _ _ (B.step st) hr fun ds F2 H2 vs as hr2 st2 P => ?_⟩⟩
  obtain ⟨q, rfl, n1, n2, n3, o⟩ := rs
  have alive : ∃ u, H1 q = some u := by
    cases o with
    | lst h _ => exact ⟨_, h⟩
    | dct h _ => exact ⟨_, h⟩
  obtain ⟨u, hu⟩ := alive
  refine kk _ F2 H2 _ _ hr2 (st.trans st2) (.own n1 ?_ n3 (o.mono st2.f fun o' h => st2.keep q o' h n3) (fun z => ?_) (P.back fun a h => none_back B.w st h))
  · cases y : F2 q with
    | none => rfl
    | some o' =>
      have := st2.new q n2 (by rw [y]; exact fun z => nomatch z)
      rw [hu] at this
      cases this
  · have := P.new q z
    rw [hu] at this
    cases this
theorem SB.all {K : Frag} {n : Nat} {F0 H0 F F1 H1 F' H' : Hp} {σ : St} {Γ : Env} {is : List Nat} {vs : List V} {bs : List Bool} {ds : List D} {as : List Addr} (S1 : SB K pw n F0 H0 F F1 H1 σ Γ) (st : Step pw F1 H1 F' H') (P : PL K pw H1 F' H' vs bs ds as) (hl : is.length = vs.length) (hi : ∀ i ∈ is, i < n) :
    SB K pw n F0 H0 F F' H' (setSt is vs σ) (setAll is bs ds Γ) := by
  have S := S1.go st
  refine ⟨by rw [setSt_length, S.n], S.f, S.st, store_all P is σ Γ hl (by rw [S.n]; exact hi) S.b (fun a ha => ?_) fun a ha j d hj => S1.b.off (P.new a ha) hj⟩
  have z := P.new a ha
  cases q : H0 a with
  | none => rfl
  | some u =>
    by_cases y : some a = pw
    · exact absurd y (ne_pw S1.st.w z)
    · rw [S1.st.keep a u q y] at z
      cases z
inductive NmAll (X : Cx) : List Expr → List Nat → Prop
  | nil : NmAll X [] []
  | cons {i : Nat} {x : Str} {p : Pos} {es : List Expr} {is : List Nat} : X.N[i]? = some x → Loc X.env.scope x → (X.fn x = true ∨ X.env.scope.names.lookup x = some .local) → NmAll X es is → NmAll X (.Name x p :: es) (i :: is)
def tNames (is : List Nat) : TGs := fun vs σ H Q => vs.length = is.length ∧ Q (setSt is vs σ) H
theorem pgs_names (hN : X.N.Nodup) : ∀ {es : List Expr} {is : List Nat}, NmAll X es is → PGs X es (tNames is)
  | _, _, .nil => ⟨fun pins s σ H vs us Q I r ⟨hl, q⟩ => pgs_nil.run pins s σ H vs us Q I r ⟨by cases vs with | nil => rfl | cons _ _ => simp at hl, by cases vs with | nil => exact q | cons _ _ => simp at hl⟩⟩
  | _, _, .cons h1 h2 h3 h => ⟨fun pins s σ H vs us Q I r ⟨hl, q⟩ => (pgs_cons (pg_name hN h1 h2 h3) (pgs_names hN h)).run pins s σ H vs us Q I r (by
      cases vs with
      | nil => simp at hl
      | cons v vs => exact ⟨v, vs, rfl, ⟨by simpa using hl, q⟩⟩)⟩
theorem NmAll.names {es : List Expr} {is : List Nat} (h : NmAll X es is) : allNames es = true ∧ es.length = is.length ∧ ∀ i ∈ is, i < X.N.length := by
  induction h with
  | nil => exact ⟨rfl, rfl, fun _ h => by simp at h⟩
  | cons h1 h2 h3 h ih =>
    refine ⟨ih.1, by simp [ih.2.1], fun j hj => ?_⟩
    rcases List.mem_cons.mp hj with z | z
    · rw [z]; exact lt_of_name h1
    · exact ih.2.2 j z
/-- a, b = .. where the pair itself is made -/
theorem so_parT {ts es : List Expr} {is : List Nat} {bs : List Bool} {fa : Env → W (List D)} {k k2 : Nat} {p1 p2 : Pos} (hc : X.calm = true) (hN : X.N.Nodup) (hn : NmAll X ts is) (ha : AM X pw es bs fa) (hl : es.length = is.length) (hz : is.length ≤ 1000) (hs : swapsWithSole [.Tuple ts k p1] (.Tuple es k2 p2) pos.line X.env = pure false)
    (hw : swappedStores [.Tuple ts k p1] (.Tuple es k2 p2) X.env = pure none) : SO X pw (.Assign [.Tuple ts k p1] (.Tuple es k2 p2) pos) (fun κ Γ => fa Γ fun ds => κ.nx (setAll is bs ds Γ)) := by
  obtain ⟨t, pa, hlb, kk⟩ := ha
  obtain ⟨n1, n2, n3⟩ := hn.names
  obtain ⟨m1, m2⟩ := names_len (env := X.env) n1
  refine .mk (ps_asg (pe_tup pa) (pg_tup (n := ts.length) hc (pgs_names hN hn) m1 m2) hs hw rfl) fun F0 H0 F H σ Γ κ D S hf k1 _ _ _ => ?_
  refine kk σ H0 F H Γ _ _ S.b hf fun ds F1 H1 vs as hr st P => ?_
  have hlv : vs.length = is.length := by rw [P.len, hlb, hl]
  refine ⟨by rw [hlv]; exact le_line hz, fun q hq => ?_⟩
  have st2 : Step pw F1 H1 F1 (L2.upd H1 q (.tup vs)) := .laid st.fh st.w hq
  refine ⟨q, vs, rfl, .of upd_same, by rw [hlv, n2], hlv, ?_⟩
  exact k1 _ F1 _ _ (S.all (st.trans st2) (P.laid hq) hlv.symm n3) hr
theorem so_par2 {i j : Nat} {x y : Str} {a b : Expr} {bs : List Bool} {fa : Env → W (List D)} {px py pt : Pos} {kt k2 pt2} (hc : X.calm = true) (hN : X.N.Nodup) (hi : X.N[i]? = some x) (hj : X.N[j]? = some y) (hij : i ≠ j)
    (hx : X.env.scope.names.lookup x = some .local) (hy : X.env.scope.names.lookup y = some .local) (ha : AM X pw [a, b] bs fa)
    (hw : swappedStores [.Tuple [.Name x px, .Name y py] kt pt] (.Tuple [a, b] k2 pt2) X.env = pure (some [x, y])) (hs : swapsWithSole [.Tuple [.Name x px, .Name y py] kt pt] (.Tuple [a, b] k2 pt2) pos.line X.env = pure false) :
    SO X pw (.Assign [.Tuple [.Name x px, .Name y py] kt pt] (.Tuple [a, b] k2 pt2) pos) (fun κ Γ => fa Γ fun ds => κ.nx (setAll [i, j] bs ds Γ)) := by
  obtain ⟨t, pa, hlb, kk⟩ := ha
  refine .mk (ps_par hc hN hi hj hij hx hy pa hw hs) fun F0 H0 F H σ Γ κ D S hf k1 _ _ _ => ?_
  refine kk σ H0 F H Γ _ _ S.b hf fun ds F1 H1 vs as hr st P => ?_
  have hlv : vs.length = 2 := by rw [P.len, hlb]; rfl
  match vs, hlv, P with
  | [v, w], _, P =>
    refine ⟨v, w, rfl, k1 _ F1 _ _ (S.all (is := [i, j]) st P rfl fun m hm => ?_) hr⟩
    rcases List.mem_cons.mp hm with z | z
    · rw [z]; exact lt_of_name hi
    · rw [List.mem_singleton.mp z]; exact lt_of_name hj
theorem so_par3 {i j l : Nat} {x y z : Str} {a b c : Expr} {bs : List Bool} {fa : Env → W (List D)} {px py pz pt : Pos} {kt k2 pt2} (hc : X.calm = true) (hN : X.N.Nodup) (hi : X.N[i]? = some x) (hj : X.N[j]? = some y) (hk : X.N[l]? = some z) (hij : i ≠ j) (hil : i ≠ l) (hjl : j ≠ l)
    (hx : X.env.scope.names.lookup x = some .local) (hy : X.env.scope.names.lookup y = some .local) (hz : X.env.scope.names.lookup z = some .local) (ha : AM X pw [a, b, c] bs fa)
    (hw : swappedStores [.Tuple [.Name x px, .Name y py, .Name z pz] kt pt] (.Tuple [a, b, c] k2 pt2) X.env = pure (some [x, y, z])) (hs : swapsWithSole [.Tuple [.Name x px, .Name y py, .Name z pz] kt pt] (.Tuple [a, b, c] k2 pt2) pos.line X.env = pure false) :
    SO X pw (.Assign [.Tuple [.Name x px, .Name y py, .Name z pz] kt pt] (.Tuple [a, b, c] k2 pt2) pos) (fun κ Γ => fa Γ fun ds => κ.nx (setAll [i, j, l] bs ds Γ)) := by
  obtain ⟨t, pa, hlb, kk⟩ := ha
  refine .mk (ps_par3 hc hN hi hj hk hij hil hjl hx hy hz pa hw hs) fun F0 H0 F H σ Γ κ D S hf k1 _ _ _ => ?_
  refine kk σ H0 F H Γ _ _ S.b hf fun ds F1 H1 vs as hr st P => ?_
  have hlv : vs.length = 3 := by rw [P.len, hlb]; rfl
  match vs, hlv, P with
  | [u, v, w], _, P =>
    refine ⟨u, v, w, rfl, k1 _ F1 _ _ (S.all (is := [i, j, l]) st P rfl fun m hm => ?_) hr⟩
    simp only [List.mem_cons, List.mem_singleton, List.not_mem_nil, or_false] at hm
    rcases hm with z | z | z
    · rw [z]; exact lt_of_name hi
    · rw [z]; exact lt_of_name hj
    · rw [z]; exact lt_of_name hk
end
end Ly

set_option maxRecDepth 100000
set_option maxHeartbeats 1000000
/-! The check of a def's text against the small syntax. -/
namespace Ly
open PySem PySem.Spec PyProof.Rows L2
/-! ### what is seen of the text alone -/
def nst : Expr → Bool
  | .Starred .. => false
  | _ => true
theorem se_cons {e : Expr} {es : List Expr} {env : PySem.Env} (h : nst e = true) : starEach (e :: es) env = (false, eval e env) :: starEach es env := starEach_cons fun x p z => by
  rw [z] at h
  cases h
theorem pl_any {pos : Pos} {env : PySem.Env} : ∀ {es : List Expr}, es.all nst = true → (backTo pos (starEach es env)).any (·.1) = false
  | [], _ => rfl
  | e :: es, h => by
    rw [List.all_cons, Bool.and_eq_true] at h
    rw [se_cons h.1]
    exact pl_any (pos := pos) (env := env) h.2
def notSet : Expr → Bool
  | .Set .. => false
  | _ => true
theorem set_id {e : Expr} {env : PySem.Env} (h : notSet e = true) (x : Value) : foldedSetIterable e env x = pure x := by
  cases e <;> first | rfl | (simp [notSet] at h)
def plainO : Expr → Bool
  | .Call (.Name _ _) [] [] _ => false
  | _ => true
theorem base_id {o : Expr} {m : Str} {env : PySem.Env} {wh : Sem Value} (h : plainO o = true) : attributeBase o m env wh = wh := by
  unfold attributeBase
  split
  · simp [plainO] at h
  · rfl
def nocomp : Expr → Bool
  | .ListComp .. => false
  | .SetComp .. => false
  | .DictComp .. => false
  | _ => true
theorem sw_no {e : Expr} {t : Option Expr} {l : Nat} {env : PySem.Env} (h : nocomp e = true) : swapsWith e t l env = pure false := by
  cases e <;> first | rfl | (simp [nocomp] at h)
def swC (sc scope : Scope) (y : Str) (py pos : Pos) : Bool := (sc.names.lookup y == some .local) && (py.line == pos.line) && !(scope.names.any fun (n, k) => n == y && (k == .local || k == .cell))
theorem sw_no2 {elt : Expr} {gs : List Comprehension} {scope : Scope} {pos py : Pos} {y : Str} {l : Nat} {env : PySem.Env} (h : swC env.scope scope y py pos = false) : swapsWith (.ListComp elt gs scope pos) (some (.Name y py)) l env = pure false := by
  unfold swC at h
  show (pure (env.blockKind == .function && env.kindOf y == some .local && py.line == pos.line && !(scope.names.any fun (n, k) => n == y && (k == .local || k == .cell))) : Sem Bool) = pure false
  have e : (env.blockKind == .function && env.kindOf y == some .local && py.line == pos.line && !(scope.names.any fun (n, k) => n == y && (k == .local || k == .cell))) = false := by
    have h : ((env.kindOf y == some .local) && (py.line == pos.line) && !(scope.names.any fun (n, k) => n == y && (k == .local || k == .cell))) = false := h
    rw [Bool.and_assoc, Bool.and_assoc, ← Bool.and_assoc (env.kindOf y == some .local), h, Bool.and_false]
  rw [e]
theorem sw_yes {elt : Expr} {gs : List Comprehension} {scope : Scope} {pos py : Pos} {y : Str} {l : Nat} {env : PySem.Env} (hk : env.scope.kind = .function) (h : swC env.scope scope y py pos = true) : env.scope.names.lookup y = some .local ∧ swapsWith (.ListComp elt gs scope pos) (some (.Name y py)) l env = pure true := by
  unfold swC at h
  rw [Bool.and_eq_true, Bool.and_eq_true] at h
  obtain ⟨⟨h1, h2⟩, h3⟩ := h
  have e1 : env.scope.names.lookup y = some .local := by simpa using h1
  exact ⟨e1, sw_true hk e1 h2 (by simpa using h3)⟩
/-- what becomes of a, b = x, y -/
def swN (sc : Scope) (ts vs : List Expr) : Option (Option (List Str)) :=
  if !(ts.length == 2 || ts.length == 3) || vs.length != ts.length then some none
  else if vs.any fun | .Starred .. => true | _ => false then some none
  else
    let line := (ts.head?.map (·.pos.line)).getD 0
    let names := ts.filterMap fun
      | .Name id pos => if sc.names.lookup id == some .local && pos.line == line then some id else none
      | _ => none
    if names.length != ts.length || names.eraseDups.length != names.length then some none
    else if vs.all (foldedForSure 8) then some none
    else if vs.all (constantsAlone 8) then none
    else some (some names)
theorem swN_eq {env : PySem.Env} {ts vs : List Expr} {k k2 : Nat} {p p2 : Pos} {r : Option (List Str)} (hk : env.scope.kind = .function) (h : swN env.scope ts vs = some r) : swappedStores [.Tuple ts k p] (.Tuple vs k2 p2) env = pure r := by
  have bk : (env.blockKind != .function) = false := by
    unfold Env.blockKind
    rw [hk]
    rfl
  unfold swN at h
  show (if (!(ts.length == 2 || ts.length == 3) || vs.length != ts.length || env.blockKind != .function) = true then pure none else _ : Sem (Option (List Str))) = pure r
  rw [bk, Bool.or_false]
  by_cases c1 : (!(ts.length == 2 || ts.length == 3) || vs.length != ts.length) = true
  · rw [if_pos c1] at h ⊢
    cases h
    rfl
  rw [if_neg c1] at h ⊢
  split at h
  · rename_i c2
    refine Eq.trans (if_pos c2) ?_
    cases h
    rfl
  rename_i c2
  refine Eq.trans (if_neg c2) ?_
  dsimp only at h
  split at h
  · rename_i c3
    refine Eq.trans (if_pos c3) ?_
    cases h
    rfl
  rename_i c3
  refine Eq.trans (if_neg c3) ?_
  split at h
  · rename_i c4
    refine Eq.trans (if_pos c4) ?_
    cases h
    rfl
  rename_i c4
  refine Eq.trans (if_neg c4) ?_
  split at h
  · cases h
  rename_i c5
  refine Eq.trans (if_neg c5) ?_
  cases h
  rfl
end Ly

set_option maxRecDepth 100000
set_option maxHeartbeats 1000000
/-! The check. -/
namespace Ly
open PySem PySem.Spec PyProof.Rows L2
structure Sc where
  N : List Str
  sc : Scope
  fn : Str → Bool
  fs : List (Str × Bool)
  bs : List Str
  nx : Bool
def Sc.blk (S : Sc) (scope : Scope) : Sc := { S with sc := relS scope S.sc, fn := fun x => scope.names.lookup x == some .cell }
def visB : Option NameKind → Bool
  | some .local => true
  | some .cell => true
  | some .free => true
  | _ => false
def locB : Option NameKind → Bool
  | some .local => true
  | some .cell => true
  | _ => false
def isLoc : Option NameKind → Bool
  | some .local => true
  | _ => false
def isGlo : Option NameKind → Bool
  | some .globalImplicit => true
  | _ => false
def plainN (x : Str) : Bool := !(x == ("__debug__" : Str)) && !(x == ("__classdict__" : Str))
section
variable (S : Sc)
def nmV (i : Nat) (x : Str) : Bool := decide (S.N[i]? = some x) && visB (S.sc.names.lookup x) && plainN x
def stC (i : Nat) (x : Str) : Bool := decide (S.N[i]? = some x) && locB (S.sc.names.lookup x) && (S.fn x || isLoc (S.sc.names.lookup x))
def glC (x : Str) : Bool := isGlo (S.sc.names.lookup x)
/-- a built-in name -/
def blC (x : Str) : Bool := glC S x && S.bs.contains x
def nmAll : List Expr → List Nat → Bool
  | [], [] => true
  | .Name x _ :: es, i :: is => stC S i x && nmAll es is
  | _, _ => false
def chkT : Tg → Expr → Bool
  | .name i, .Name x _ => stC S i x
  | .tup ts, .Tuple es _ _ => nmAll S es ts
  | _, _ => false
end
def conC : D → Expr → Bool
  | .int i, .Constant (.int j) _ _ => i == j
  | .str s, .Constant (.str t) _ _ => decide (s = t)
  | .bool a, .Constant (.bool b) _ _ => a == b
  | .none, .Constant .none _ _ => true
  | _, _ => false
def biN : Bi → Option Str
  | .len => some "len" | .sorted => some "sorted" | .tuple => some "tuple" | .list => some "list" | .dict => some "dict" | .min => some "min" | .max => some "max" | .sum => some "sum"
  | .any => some "any" | .all => some "all" | .abs => some "abs" | .int => some "int" | .str => some "str" | _ => none
def tyS : Ty → Str
  | .int => "int" | .bool => "bool" | .str => "str" | .tuple => "tuple" | .list => "list" | .dict => "dict"
def subL (is js : List Nat) : Bool := is.all fun i => js.contains i
/-- what is walked: the arguments to look at -/
def itA (S : Sc) (k : Ik) (tg it : Expr) : Option (List Expr) := match k with
  | .seq => some [it]
  | .keys => some [it]
  | .range => match it with
    | .Call (.Name x _) args [] _ => if (decide (x = "range") && blC S x && (args.length == 1 || args.length == 2)) = true then some args else none
    | _ => none
  | .zip => match tg, it with
    | .Tuple _ _ _, .Call (.Name x _) args [] _ => if (decide (x = "zip") && blC S x && (args.length == 2)) = true then some args else none
    | _, _ => none
  | .enum => match tg, it with
    | .Tuple _ _ _, .Call (.Name x _) args [] _ => if (decide (x = "enumerate") && blC S x && (args.length == 1)) = true then some args else none
    | _, _ => none
  | .items => match tg, it with
    | .Tuple _ _ _, .Call (.Attribute o m apos) [] [] cpos => if (decide (m = "items") && plainO o && (apos.endLine == cpos.line)) = true then some [o] else none
    | _, _ => none
  | .values => match it with
    | .Call (.Attribute o m apos) [] [] cpos => if (decide (m = "values") && plainO o && (apos.endLine == cpos.line)) = true then some [o] else none
    | _ => none
def both (o : Option (List Expr)) (f : List Expr → Bool) : Bool := match o with
  | some xs => f xs
  | none => false
mutual
def chkE : Sc → E → Expr → Bool
  | S, .var i, e => match e with
    | .Name x _ => nmV S i x
    | _ => false
  | S, .con d, e => conC d e
  | S, .tup es, e => match e with
    | .Tuple xs _ _ => chkEs S es xs && decide (xs.length ≤ 1000)
    | _ => false
  | S, .lst es, e => match e with
    | .List xs _ => chkEs S es xs && decide (xs.length ≤ 1000)
    | _ => false
  | S, .dct es, e => match e with
    | .Dict ks vs _ => chkKV S es ks vs && decide (ks.length = vs.length) && decide (ks.length ≤ 15)
    | _ => false
  | S, .bin o a b, e => match e with
    | .BinOp x op y _ => decide (op = bopOf o) && chkE S a x && chkE S b y
    | _ => false
  | S, .neg a, e => match e with
    | .UnaryOp .USub x _ => chkE S a x
    | _ => false
  | S, .not a, e => match e with
    | .UnaryOp .Not x _ => chkE S a x
    | _ => false
  | S, .and a b, e => match e with
    | .BoolOp .And (x :: y :: rest) pos => chkE S a x && (match rest with
      | [] => chkE S b y
      | z :: r => chkE S b (.BoolOp .And (y :: z :: r) pos))
    | _ => false
  | S, .or a b, e => match e with
    | .BoolOp .Or (x :: y :: rest) pos => chkE S a x && (match rest with
      | [] => chkE S b y
      | z :: r => chkE S b (.BoolOp .Or (y :: z :: r) pos))
    | _ => false
  | S, .cmp o a b, e => match e with
    | .Compare x [op] [y] _ => decide (op = copOf o) && chkE S a x && chkE S b y && !(behindInMarks (copOf o) y)
    | _ => false
  | S, .cmp2 o o2 a b c, e => match e with
    | .Compare x [op, op2] [y, z] _ => decide (op = copOf o) && decide (op2 = copOf o2) && chkE S a x && chkE S b y && chkE S c z && !(lastMarks [copOf o, copOf o2] [y, z])
    | _ => false
  | S, .ite t a b, e => match e with
    | .IfExp c x y _ => chkE S t c && chkE S a x && chkE S b y
    | _ => false
  | S, .idx a i, e => match e with
    | .Subscript x y _ => chkE S a x && chkE S i y && notSlice y
    | _ => false
  | S, .cut a lo hi, e => match e with
    | .Subscript x (.Slice l h none _) _ => chkE S a x && chkO S lo l && chkO S hi h
    | _ => false
  | _, .rev _, _ => false
  | S, .comp own t k es ifs rest, e => match e with
    | .ListComp elt gs scope _ => match rest, gs with
      | .elt el, [⟨tg, it, fs, 0⟩] => both (itA S k tg it) (chkEs S es) && chkIf (S.blk scope) ifs fs && chkT (S.blk scope) t tg && chkE (S.blk scope) el elt && blkC S.N S.sc scope (own.map fun i => (S.N.getD i "", i)) && notSet it && subL (tgs t) own
      | .gen t1 k1 es1 ifs1 r1, [⟨tg, it, fs, 0⟩, ⟨tg1, it1, fs1, 0⟩] => match r1 with
        | .elt el => both (itA S k tg it) (chkEs S es) && chkIf (S.blk scope) ifs fs && chkT (S.blk scope) t tg && both (itA (S.blk scope) k1 tg1 it1) (chkEs (S.blk scope) es1) && chkIf (S.blk scope) ifs1 fs1 && chkT (S.blk scope) t1 tg1 && chkE (S.blk scope) el elt && blkC S.N S.sc scope (own.map fun i => (S.N.getD i "", i)) && notSet it && notSet it1 && subL (tgs t) own && subL (tgs t1) own
        | _ => false
      | _, _ => false
    | _ => false
  | S, .bi f es, e => match e with
    | .Call (.Name x _) args [] _ => match biN f with
      | some n => decide (x = n) && blC S x && chkEs S es args && decide (args ≠ [])
      | none => match f, args with
        | .listItems, [.Call (.Attribute o m apos) [] [] cpos] => decide (x = "list") && blC S x && decide (m = "items") && chkEs S es [o] && plainO o && (apos.endLine == cpos.line)
        | .listRange, [.Call (.Name r _) as [] _] => decide (x = "list") && blC S x && decide (r = "range") && blC S r && chkEs S es as && (as.length == 1 || as.length == 2)
        | .sortedSet, [.Call (.Name r _) [y] [] _] => decide (x = "sorted") && blC S x && decide (r = "set") && blC S r && chkEs S es [y]
        | .lenSet, [.Call (.Name r _) [y] [] _] => decide (x = "len") && blC S x && decide (r = "set") && blC S r && chkEs S es [y]
        | _, _ => false
    | _ => false
  | S, .me m o es, e => match e with
    | .Call (.Attribute ov name apos) args [] cpos => match m with
      | .get => decide (name = "get") && chkE S o ov && chkEs S es args && plainO ov && (apos.endLine == cpos.line) && (args.length == 1 || args.length == 2)
      | _ => false
    | _ => false
  | S, .isi a t, e => match e with
    | .Call (.Name x _) [y, .Name T _] [] _ => decide (x = "isinstance") && blC S x && decide (T = tyS t) && blC S T && chkE S a y && nst y
    | _ => false
  | S, .call f w es, e => match e with
    | .Call (.Name x _) args [] _ => decide (S.fs[f]? = some (x, w.isSome)) && glC S x && plainN x && (match w, args with
      | none, a :: as => chkEs S es (a :: as)
      | some i, .Name y _ :: as => nmV S i y && chkEs S es as
      | _, _ => false)
    | _ => false
  | S, .next i a, e => match e with
    | .Call (.Name x _) [.Name y _, z] [] _ => decide (x = "_law_next") && S.nx && glC S x && nmV S i y && chkE S a z && nst z
    | _ => false
  | S, .cat a b, e => match e with
    | .BinOp x .Add y _ => chkE S a x && chkE S b y
    | _ => false
  | S, .slen i, e => match e with
    | .Call (.Name x _) [.Name y _] [] _ => decide (x = "len") && blC S x && nmV S i y
    | _ => false
  | S, .sat i a, e => match e with
    | .Subscript (.Name y _) z _ => nmV S i y && chkE S a z && notSlice z
    | _ => false
def chkEs : Sc → Es → List Expr → Bool
  | _, .nil, xs => match xs with
    | [] => true
    | _ => false
  | S, .cons e es, xs => match xs with
    | x :: r => chkE S e x && nst x && chkEs S es r
    | _ => false
def chkO : Sc → Es → Option Expr → Bool
  | _, .nil, x => match x with
    | none => true
    | _ => false
  | S, .cons e es, x => match x with
    | some y => chkE S e y
    | _ => false
def chkKV : Sc → Es → List (Option Expr) → List Expr → Bool
  | _, .nil, ks, vs => match ks, vs with
    | [], [] => true
    | _, _ => false
  | S, .cons k r, ks, vs => match r with
    | .cons v es => match ks, vs with
      | some x :: xs, y :: ys => chkE S k x && chkE S v y && chkKV S es xs ys
      | _, _ => false
    | .nil => false
def chkIf : Sc → Es → List Expr → Bool
  | _, .nil, xs => match xs with
    | [] => true
    | _ => false
  | S, .cons e es, xs => match es, xs with
    | .nil, [x] => chkE S e x
    | _, _ => false
end
end Ly

set_option maxRecDepth 100000
set_option maxHeartbeats 2000000
/-! What passes the check is so: expressions. -/
namespace Ly
open PySem PySem.Spec PyProof.Rows L2
structure FOk (X : Cx) (x : Str) (sp : Sp) : Prop where
  ex : ∃ (k : Nat) (f : Addr) (fd : FuncData) (ps : List Str), FnOk X.prog X.w X.K X.mg X.base CX0 k f fd ps sp ∧ Room k X.A ∧ X.mg x = some (.ref f) ∧ PySem.W.keepIn X.K (.ref f) = true ∧ Binds X.K fd ps []
structure Ctx (X : Cx) (S : Sc) (cf : Nat → List D → W D) : Prop where
  calm : X.calm = true
  N : X.N = S.N
  nd : S.N.Nodup
  sc : X.env.scope = S.sc
  kind : S.sc.kind = .function
  fn : ∀ x, S.fn x = true → X.fn x = true
  hu : X.A.units + 200 < cLine
  bs : ∀ x, S.bs.contains x = true → X.mg x = none
  fs : ∀ i x w, S.fs[i]? = some (x, w) → FOk X x (spF X.K w (cf i))
  nx : S.nx = true → FOk X "_law_next" (spNext X.K)
section
variable {X : Cx} {S : Sc} {cf : Nat → List D → W D} {pw : Option Addr}
theorem Ctx.gl (C : Ctx X S cf) {x : Str} (h : glC S x = true) : Gl X x := by
  unfold Gl Env.kindOf
  rw [C.sc]
  unfold glC at h
  revert h
  cases S.sc.names.lookup x with
  | none => intro h; cases h
  | some k => cases k <;> intro h <;> first | rfl | cases h
theorem Ctx.bl (C : Ctx X S cf) {x : Str} (h : blC S x = true) : Gl X x ∧ X.mg x = none := by
  unfold blC at h
  rw [Bool.and_eq_true] at h
  exact ⟨C.gl h.1, C.bs x h.2⟩
theorem plainN_get {x : Str} (h : plainN x = true) : (x == ("__debug__" : Str)) = false ∧ (x == ("__classdict__" : Str)) = false := by
  unfold plainN at h
  rw [Bool.and_eq_true] at h
  exact ⟨by simpa using h.1, by simpa using h.2⟩
theorem Ctx.nm (C : Ctx X S cf) {i : Nat} {x : Str} (h : nmV S i x = true) : Nm X i x := by
  unfold nmV at h
  rw [Bool.and_eq_true, Bool.and_eq_true] at h
  obtain ⟨⟨h1, h2⟩, h3⟩ := h
  refine ⟨by rw [C.N]; exact of_decide_eq_true h1, ?_, (plainN_get h3).1, (plainN_get h3).2⟩
  unfold Vis
  rw [C.sc]
  revert h2
  cases S.sc.names.lookup x with
  | none => intro h; cases h
  | some k => cases k <;> intro h <;> first | exact .inl rfl | exact .inr (.inl rfl) | exact .inr (.inr rfl) | cases h
theorem Ctx.st (C : Ctx X S cf) {i : Nat} {x : Str} (h : stC S i x = true) : X.N[i]? = some x ∧ L2.Loc X.env.scope x ∧ (X.fn x = true ∨ X.env.scope.names.lookup x = some .local) := by
  unfold stC at h
  rw [Bool.and_eq_true, Bool.and_eq_true] at h
  obtain ⟨⟨h1, h2⟩, h3⟩ := h
  refine ⟨by rw [C.N]; exact of_decide_eq_true h1, ?_, ?_⟩
  · unfold L2.Loc
    rw [C.sc]
    revert h2
    cases S.sc.names.lookup x with
    | none => intro h; cases h
    | some k => cases k <;> intro h <;> first | exact .inl rfl | exact .inr rfl | cases h
  · rw [Bool.or_eq_true] at h3
    rcases h3 with h3 | h3
    · exact .inl (C.fn x h3)
    · refine .inr ?_
      rw [C.sc]
      revert h3
      cases S.sc.names.lookup x with
      | none => intro h; cases h
      | some k => cases k <;> intro h <;> first | rfl | cases h
theorem Ctx.nms (C : Ctx X S cf) : ∀ {es : List Expr} {is : List Nat}, Ly.nmAll S es is = true → NmAll X es is
  | [], [], _ => .nil
  | [], _ :: _, h => by simp [Ly.nmAll] at h
  | e :: es, [], h => by cases e <;> simp [Ly.nmAll] at h
  | e :: es, i :: is, h => by
    cases e <;> try (simp [Ly.nmAll] at h; done)
    simp only [Ly.nmAll, Bool.and_eq_true] at h
    obtain ⟨h1, h2, h3⟩ := C.st h.1
    exact .cons h1 h2 h3 (Ctx.nms C h.2)
theorem NmAll.gos (hN : X.N.Nodup) {es : List Expr} {is : List Nat} (h : NmAll X es is) : GOs X pw es is := by
  induction h with
  | nil => exact gos_nil
  | cons h1 h2 h3 _ ih => exact gos_cons (go_name hN h1 h2 h3) ih
theorem Ctx.go (C : Ctx X S cf) {t : Tg} {tg : Expr} (h : chkT S t tg = true) : GO X pw tg t := by
  have hN : X.N.Nodup := by rw [C.N]; exact C.nd
  cases t with
  | name i =>
    cases tg <;> try (simp [chkT] at h; done)
    obtain ⟨h1, h2, h3⟩ := C.st (show stC S i _ = true from h)
    exact go_name hN h1 h2 h3
  | tup ts =>
    cases tg <;> try (simp [chkT] at h; done)
    have q := C.nms (show Ly.nmAll S _ ts = true from h)
    exact go_tup C.calm q.names.1 (q.gos hN)
theorem Ctx.blk (C : Ctx X S cf) {scope : Scope} (hk : scope.kind = .function) (s : Shared) (H : Hp) (A : Addr) (cl : List (Str × Addr)) (fp : List Addr) : Ctx (X.blk s H scope (compEnvC scope cl A X.env) fp) (S.blk scope) cf where
  calm := C.calm
  N := C.N
  nd := C.nd
  sc := by
    show relabel scope X.env = relS scope S.sc
    rw [← C.sc]
    rfl
  kind := hk
  fn := fun x h => h
  hu := C.hu
  bs := C.bs
  fs := fun i x w h => let ⟨k, f, fd, ps, a⟩ := (C.fs i x w h).ex; ⟨⟨k, f, fd, ps, a⟩⟩
  nx := fun h => let ⟨k, f, fd, ps, a⟩ := (C.nx h).ex; ⟨⟨k, f, fd, ps, a⟩⟩
/-- all that is told of an expression -/
structure EOk (X : Cx) (pw : Option Addr) (cf : Nat → List D → W D) (e : Expr) (i : E) : Prop where
  val : EO X pw .val e (ev cf false i)
  peek : EO X pw .peek e (ev cf true i)
  fr : fresh i = true → EO X pw .fresh e (ev cf false i)
  test : TO X pw e (ev cf false i)
  tw : (∃ op xs p, e = .BoolOp op xs p) → TW X pw e (ev cf false i)
  st : ∀ (elt : Expr) (gs : List Comprehension) (scope : Scope) (pos py : Pos) (j : Nat) (y : Str) (spos : Pos), e = .ListComp elt gs scope pos → X.N[j]? = some y → X.env.scope.names.lookup y = some .local → swapsWith e (some (.Name y py)) spos.line X.env = pure true →
    SO X pw (.Assign [.Name y py] e spos) (fun κ Γ => ev cf false i Γ fun d => κ.nx (Γ.set j (.own d)))
inductive EsOk (X : Cx) (pw : Option Addr) (cf : Nat → List D → W D) : List Expr → Es → Prop
  | nil : EsOk X pw cf [] .nil
  | cons {x : Expr} {e : E} {xs : List Expr} {es : Es} : nst x = true → EOk X pw cf x e → EsOk X pw cf xs es → EsOk X pw cf (x :: xs) (.cons e es)
variable {e : Expr} {i : E}
def noLc : Expr → Bool
  | .ListComp .. => false
  | _ => true
theorem EOk.of (h : EO X pw .val e (ev cf false i)) (hp : ev cf true i = ev cf false i) (hf : fresh i = false) (ht : plainT e = true) (hb : noLc e = true) : EOk X pw cf e i :=
  ⟨h, by rw [hp]; exact h.look, fun z => by (rw [hf] at z; cases z), to_plain h ht, fun ⟨op, xs, p, z⟩ => by (rw [z] at ht; cases ht), fun _ _ _ _ _ _ _ _ z => by (rw [z] at hb; cases hb)⟩
theorem EOk.ofT (h : EO X pw .val e (ev cf false i)) (hp : ev cf true i = ev cf false i) (hf : fresh i = false) (ht : TO X pw e (ev cf false i)) (hw : (∃ op xs p, e = .BoolOp op xs p) → TW X pw e (ev cf false i)) (hb : noLc e = true) : EOk X pw cf e i :=
  ⟨h, by rw [hp]; exact h.look, fun z => by (rw [hf] at z; cases z), ht, hw, fun _ _ _ _ _ _ _ _ z => by (rw [z] at hb; cases hb)⟩
theorem EOk.ofF (h : EO X pw .fresh e (ev cf false i)) (hp : ev cf true i = ev cf false i) (ht : plainT e = true) (hb : noLc e = true) : EOk X pw cf e i :=
  ⟨h.froz, by rw [hp]; exact h.froz.look, fun _ => h, to_plain h.froz ht, fun ⟨op, xs, p, z⟩ => by (rw [z] at ht; cases ht), fun _ _ _ _ _ _ _ _ z => by (rw [z] at hb; cases hb)⟩
theorem EsOk.nst {xs : List Expr} {es : Es} (h : EsOk X pw cf xs es) : xs.all nst = true := by
  induction h with
  | nil => rfl
  | cons h1 _ _ ih => rw [List.all_cons, h1, ih]; rfl
theorem ns_of {x : Expr} (h : nst x = true) : ∀ y p, x ≠ .Starred y p := fun y p z => by
  rw [z] at h
  cases h
theorem EsOk.ao {xs : List Expr} {es : Es} (h : EsOk X pw cf xs es) (p : Bool) : AO X pw p xs (evEs cf p es) := by
  induction h with
  | nil => exact ao_nil
  | cons h1 h2 _ ih =>
    cases p with
    | true => exact ao_cons (ns_of h1) h2.peek ih
    | false => exact ao_cons (ns_of h1) h2.val ih
theorem EsOk.am {xs : List Expr} {es : Es} (h : EsOk X pw cf xs es) : AM X pw xs (freshL es) (evEs cf false es) := by
  induction h with
  | nil => exact am_nil
  | @cons x e xs es h1 h2 _ ih =>
    cases q : fresh e with
    | true =>
      have := am_own (h2.fr q) ih (se_cons h1)
      unfold freshL
      rw [q]
      exact this
    | false =>
      have := am_val h2.val ih (se_cons h1)
      unfold freshL
      rw [q]
      exact this
end
end Ly

set_option maxRecDepth 100000
set_option maxHeartbeats 2000000
/-! What passes the check is so: each kind of expression. -/
namespace Ly
open PySem PySem.Spec PyProof.Rows L2
section
variable {X : Cx} {S : Sc} {cf : Nat → List D → W D} {pw : Option Addr}
theorem rsub {c : Value} {md : Md} {g g' : List D → Option D} (h : CallR X c (rC X.K pw md g)) (e : ∀ ds z, g' ds = some z → g ds = some z) : CallR X c (rC X.K pw md g') :=
  cimp h fun vs H Q ⟨F, ds, z, a, b, c, d, k⟩ => ⟨F, ds, z, a, b, c, e ds z d, k⟩
theorem one_of {f : D → Option D} {g : List D → Option D} (h1 : ∀ d z, g [d] = some z → f d = some z) (h2 : g [] = none) (h3 : ∀ a b r, g (a :: b :: r) = none) : ∀ ds z, g ds = some z → g1 f ds = some z
  | [], z, h => by rw [h2] at h; cases h
  | [d], z, h => h1 d z h
  | a :: b :: r, z, h => by rw [h3] at h; cases h
def biV : Bi → Value
  | .len => .builtin "len" | .sorted => .builtin "sorted" | .tuple => .type "tuple" | .list => .type "list" | .dict => .type "dict" | .min => .builtin "min" | .max => .builtin "max" | .sum => .builtin "sum"
  | .any => .builtin "any" | .all => .builtin "all" | .abs => .builtin "abs" | .int => .type "int" | .str => .type "str" | _ => .none
def biM : Bi → Md
  | .sorted => .fresh | .list => .fresh | .dict => .fresh | _ => .val
theorem bi_rule (hc : X.calm = true) (hu : X.A.units + 200 < cLine) (f : Bi) (n : Str) (h : biN f = some n) : CallR X (biV f) (rC X.K pw (biM f) (biD f)) := by
  cases f <;> try (simp [biN] at h; done)
  · exact rsub cr_len (one_of (fun d z h => h) rfl fun _ _ _ => rfl)
  · exact rsub (cr_sortedAll hc (by omega)) (one_of (fun d z h => h) rfl fun _ _ _ => rfl)
  · exact rsub cr_tuple (one_of (fun d z h => by cases d <;> first | exact h | cases h) rfl fun a _ _ => by cases a <;> rfl)
  · exact rsub (cr_list hc) (one_of (fun d z h => by cases d <;> first | exact h | cases h) rfl fun a _ _ => by cases a <;> rfl)
  · exact rsub (cr_dict hc) (one_of (fun d z h => by cases d <;> first | exact h | cases h) rfl fun a _ _ => by cases a <;> rfl)
  · exact csplit (cr_min2 hc) (cr_minB hc (by omega)) fun ds z h => by
      rcases ds with _ | ⟨a, _ | ⟨b, _ | ⟨c, r⟩⟩⟩
      · cases h
      · exact .inr (by cases a <;> exact h)
      · cases a <;> cases b <;> first | exact .inl h | cases h
      · cases a <;> cases b <;> cases h
  · exact csplit (cr_max2 hc) (cr_maxB hc (by omega)) fun ds z h => by
      rcases ds with _ | ⟨a, _ | ⟨b, _ | ⟨c, r⟩⟩⟩
      · cases h
      · exact .inr (by cases a <;> exact h)
      · cases a <;> cases b <;> first | exact .inl h | cases h
      · cases a <;> cases b <;> cases h
  · exact rsub (cr_sumD hc) (one_of (fun d z h => by cases d <;> first | exact h | cases h) rfl fun a _ _ => by cases a <;> rfl)
  · exact rsub (cr_anyD hc) (one_of (fun d z h => by cases d <;> first | exact h | cases h) rfl fun a _ _ => by cases a <;> rfl)
  · exact rsub (cr_allD hc) (one_of (fun d z h => by cases d <;> first | exact h | cases h) rfl fun a _ _ => by cases a <;> rfl)
  · exact rsub cr_absD (one_of (fun d z h => by cases d <;> first | exact h | cases h) rfl fun a _ _ => by cases a <;> rfl)
  · exact rsub cr_intD (one_of (fun d z h => by cases d <;> first | exact h | cases h) rfl fun a _ _ => by cases a <;> rfl)
  · exact rsub cr_strD (one_of (fun d z h => by cases d <;> first | exact h | cases h) rfl fun a _ _ => by cases a <;> rfl)
end
end Ly

set_option maxRecDepth 100000
set_option maxHeartbeats 4000000
/-! Sets of ints and of texts: made of a list or a tuple. -/
namespace Ly
open PySem PySem.Spec PyProof.Rows L2
theorem and3 {a b c : Bool} (h : (a && b && c) = true) : a = true ∧ b = true ∧ c = true := by
  rw [Bool.and_eq_true, Bool.and_eq_true] at h
  exact ⟨h.1.1, h.1.2, h.2⟩
theorem and_get {a b : Bool} (h : (a && b) = true) : a = true ∧ b = true := by rwa [Bool.and_eq_true] at h
def kf (e : Int × Value) : Key := match e.2 with
  | .int i _ => .inl i
  | .str x _ => .inr x
  | _ => .inl 0
def memK (ks : List Key) (k : Key) : Bool := ks.any fun j => decide (j = k)
theorem memK_iff {ks : List Key} {k : Key} : memK ks k = true ↔ k ∈ ks := by
  unfold memK
  rw [List.any_eq_true]
  exact ⟨fun ⟨x, h, e⟩ => by rw [← of_decide_eq_true e]; exact h, fun h => ⟨k, h, decide_eq_true rfl⟩⟩
theorem kf_of {k : Key} {v : Value} {n : Int} (h : keyIs k v = true) : kf (n, v) = k ∧ v.scannable = true := by
  rcases keyIs_shape h with ⟨i, t, rfl, rfl⟩ | ⟨x, t, rfl, rfl⟩ <;> exact ⟨rfl, rfl⟩
section
variable {P : Program} {w : World} {A : Around} {E : Value → Shared → Prop} {s : Shared} {a : Addr} {ks : List Key}
def GoodK (P : Program) (w : World) (e : Int × Value) : Prop := keyIs (kf e) e.2 = true ∧ e.1 = (mixKind P w).hash (kf e)
/-- the set at a holds ks -/
def SetG (P : Program) (w : World) (h : Heap) (a : Addr) (ks : List Key) : Prop :=
  ∃ (ob : Obj) (es : Array (Int × Value)) (ep : Nat) (t : SetTable), h.get? a = some ob ∧ ob.ExactSet ∧ ob.data = .set es ep t ∧ (∀ e ∈ es.toList, GoodK P w e) ∧ (es.toList.map kf).Perm ks ∧ ks.Nodup ∧ es.size < scanBound ∧ t.fits es.size = true ∧ Ris t.place.toList ∧
    (w.params.followText "set-order" = true ∨ t.led = true)
theorem SetG.at {h h' : Heap} (R : SetG P w h a ks) (k : ∀ o, h.get? a = some o → h'.get? a = some o) : SetG P w h' a ks :=
  let ⟨ob, es, ep, t, e, r⟩ := R
  ⟨ob, es, ep, t, k ob e, r⟩
theorem elems_of {l : List (Int × Value)} (g : ∀ e ∈ l, GoodK P w e) : ElemsOf (mixKind P w) l := fun e he => ⟨⟨kf e, (g e he).1, (g e he).2⟩, (kf_of (n := e.1) (g e he).1).2⟩
theorem is_kf {e : Int × Value} (g : GoodK P w e) (k : Key) : (mixKind P w).is k e.2 = true ↔ kf e = k := by
  constructor
  · intro h
    exact (kf_of (n := e.1) h).1
  · intro h
    rw [← h]
    exact g.1
theorem SetG.setOf (R : SetG P w s.heap a ks) : s.heap.SetOf (mixKind P w) a (fun k => memK ks k) ks.length := by
  obtain ⟨ob, es, ep, t, e1, e2, e3, g, pm, nd, sb, fi, _⟩ := R
  refine ⟨ob, es, ep, t, e1, e2, e3, elems_of g, fun k => ?_, sb, fi, ?_⟩
  · rw [memK_iff, ← pm.mem_iff, List.mem_map]
    exact ⟨fun ⟨e, he, q⟩ => ⟨e, he, (is_kf (g e he) k).mpr q⟩, fun ⟨e, he, q⟩ => ⟨e, he, (is_kf (g e he) k).mp q⟩⟩
  · rw [← pm.length_eq, List.length_map, Array.length_toList]
/-- behind a new element: the table stored, laid anew where it grew too full -/
theorem setG_tail {gv : Bool → Sem Unit} (hg : ∀ (b : Bool) (s1 : Shared) (Q1 : Unit → Shared → Prop), Q1 () s1 → wpAny (model P w) A (gv b) Q1 E s1) {ob : Obj} {es es1 : Array (Int × Value)} {ep : Nat} {t t2 : SetTable} (at0 : s.heap.get? a = some ob) (ex : ob.ExactSet) (dat : ob.data = .set es ep t)
    (g1 : ∀ e ∈ es1.toList, GoodK P w e) (pm1 : (es1.toList.map kf).Perm ks) (nd : ks.Nodup) (few : es1.size < scanBound) (fit : t2.fits es1.size = true) (ris : Ris t2.place.toList) (led : w.params.followText "set-order" = true ∨ t2.led = true) {dm : Bool} {R : Option Bool → Shared → Prop}
    (fin : ∀ h', Heap.SameBut a s.heap h' → SetG P w h' a ks → R (some true) { s with heap := h' }) :
    wpAny (model P w) A (do
      storeSet a es1 t2
      if (!dm && t2.tooFull) = true then do
        gv (relayAll t2 es1 (SetTable.grown es1.size)).2.2
        storeSet a (relayAll t2 es1 (SetTable.grown es1.size)).1 (relayAll t2 es1 (SetTable.grown es1.size)).2.1
        pure (some true)
      else pure (some true)) R E s := by
  refine wpAny_bind (wpAny_storeSet_of at0 dat ?_ (fits_of_scanBound few))
  have at1 := store_at (es' := es1) (t' := t2) at0 dat
  have same1 := Heap.SameBut.update s.heap a (Obj.putSet es1 t2)
  split
  · have q1 := relayAll_perm t2 es1 (SetTable.grown es1.size)
    have q2 := relayAll_fits t2 es1 (SetTable.grown es1.size)
    have q3 := relayAll_ris t2 es1 (SetTable.grown es1.size)
    have q4 := relayAll_led t2 es1 (SetTable.grown es1.size)
    generalize relayAll t2 es1 (SetTable.grown es1.size) = Z at q1 q2 q3 q4 ⊢
    obtain ⟨es2, t3, gave⟩ := Z
    dsimp only at q1 q2 q3 q4 ⊢
    have z2 : es2.size = es1.size := by
      have := q1.length_eq
      rwa [Array.length_toList, Array.length_toList] at this
    have few2 : es2.size < scanBound := by omega
    refine wpAny_bind (hg _ _ _ (wpAny_bind (wpAny_storeSet_of at1 rfl ?_ (fits_of_scanBound few2))))
    have at2 := store_at (es' := es2) (t' := t3) at1 rfl
    refine wpAny_pure (fin _ (same1.trans (Heap.SameBut.update _ a _)) ⟨_, es2, _, t3, at2, ex, rfl, fun e he => g1 e (q1.mem_iff.mp he), (q1.map kf).trans pm1, nd, few2, q2, q3, led.imp id fun z => by rw [q4]; exact z⟩)
  · exact wpAny_pure (fin _ same1 ⟨_, es1, _, t2, at1, ex, rfl, g1, pm1, nd, few, fit, ris, led⟩)
def addKey (ks : List Key) (k : Key) : List Key := if memK ks k = true then ks else ks ++ [k]
theorem setG_add {k : Key} {v : Value} {Q : Bool → Shared → Prop} (R : SetG P w s.heap a ks) (hv : keyIs k v = true) (room : ks.length + 1 < scanBound) (fin : ∀ b h', Heap.SameBut a s.heap h' → SetG P w h' a (addKey ks k) → Q b { s with heap := h' }) :
    wpAny (model P w) A (setAddHashed a v ((mixKind P w).hash k)) Q E s := by
  obtain ⟨ob, es, ep, t, at0, ex, dat, g, pm, nd, few, fit, ris, led⟩ := R
  have is0 : (mixKind P w).is k v = true := hv
  have scn : v.scannable = true := (kf_of (n := 0) hv).2
  have els : ElemsOf (mixKind P w) es.toList := elems_of g
  have zes : es.size = ks.length := by rw [← pm.length_eq, List.length_map, Array.length_toList]
  unfold setAddHashed setAddHashedIn
  refine wpAny_holding (wpAny_bind (wpAny_setState_of at0 dat fit ?_))
  dsimp only
  rw [byScan_of scn few els]
  simp only [↓reduceIte]
  unfold setAddByScan
  refine wpAny_bind (wpAny_bind (wpAny_rule (wpAny_bind (wpAny_setScan_of is0 at0 dat fit els ?_))))
  cases hf : List.findIdx? (fun e => (mixKind P w).is k e.2) es.toList with
  | some j =>
    dsimp only
    obtain ⟨hj, pj, _⟩ := List.findIdx?_eq_some_iff_getElem.mp hf
    have hm : k ∈ ks := pm.mem_iff.mp (List.mem_map.mpr ⟨_, List.getElem_mem hj, (is_kf (g _ (List.getElem_mem hj)) k).mp pj⟩)
    refine wpAny_pure (wpAny_pure ?_)
    refine fin _ s.heap (Heap.SameBut.refl a s.heap) ?_
    unfold addKey
    rw [if_pos (memK_iff.mpr hm)]
    exact ⟨ob, es, ep, t, at0, ex, dat, g, pm, nd, few, fit, ris, led⟩
  | none =>
    dsimp only
    have hm : k ∉ ks := fun z => by
      obtain ⟨e, he, q⟩ := List.mem_map.mp (pm.mem_iff.mpr z)
      have c := List.findIdx?_eq_none_iff.mp hf e he
      rw [(is_kf (g e he) k).mpr q] at c
      cases c
    have ea : addKey ks k = ks ++ [k] := by unfold addKey; rw [if_neg (fun z => hm (memK_iff.mp z))]
    have gave0 : ∀ (b : Bool) {s1 : Shared} {Q1 : Unit → Shared → Prop}, Q1 () s1 → wpAny (model P w) A (match b with | true => rule "set.scan.the-table-gave-way" | false => pure ()) Q1 E s1 := fun b s1 Q1 q => by
      cases b with
      | true => exact wpAny_rule q
      | false => exact wpAny_pure q
    have q1 := layNew_perm t es ((mixKind P w).hash k) v
    have q2 := layNew_fits t es ((mixKind P w).hash k) v
    have q3 := layNew_ris t es ((mixKind P w).hash k) v ris
    have q4 := layNew_led t es ((mixKind P w).hash k) v
    generalize layNew t es ((mixKind P w).hash k) v = Z at q1 q2 q3 q4 ⊢
    obtain ⟨es1, t1, dm, gave⟩ := Z
    dsimp only at q1 q2 q3 q4 ⊢
    rw [Array.toList_push] at q1
    have ek : kf ((mixKind P w).hash k, v) = k := (kf_of hv).1
    have g1 : ∀ e ∈ es1.toList, GoodK P w e := fun e he => by
      rcases List.mem_append.mp (q1.mem_iff.mp he) with z | z
      · exact g e z
      · rw [List.mem_singleton.mp z]
        exact ⟨by rw [ek]; exact hv, by rw [ek]⟩
    have pm1 : (es1.toList.map kf).Perm (ks ++ [k]) := by
      refine (q1.map kf).trans ?_
      rw [List.map_append, List.map_singleton, ek]
      exact pm.append_right _
    have nd1 : (ks ++ [k]).Nodup := by
      rw [List.nodup_append]
      exact ⟨nd, by simp, fun x hx y hy z => hm (by rw [← List.mem_singleton.mp hy, ← z]; exact hx)⟩
    have z1 : es1.size = ks.length + 1 := by
      have := pm1.length_eq
      rw [List.length_map, Array.length_toList, List.length_append, List.length_singleton] at this
      exact this
    have few1 : es1.size < scanBound := by rw [z1]; exact room
    have led1 : w.params.followText "set-order" = true ∨ t1.led = true := led.imp id fun z => by rw [q4]; exact z
    have fin1 : ∀ h', Heap.SameBut a s.heap h' → SetG P w h' a (ks ++ [k]) → Q true { s with heap := h' } := fun h' sb r => fin true h' sb (by rw [ea]; exact r)
    refine wpAny_bind (gave0 _ ?_)
    split
    · refine wpAny_bind ?_
      rw [hashByValue_scannable 8 scn]
      refine wpAny_pure ?_
      refine setG_tail (ks := ks ++ [k]) ?_ at0 ex dat g1 pm1 nd1 few1 ?_ ?_ ?_ ?_
      · intro b s1 Q1 q
        cases b with
        | true => exact wpAny_rule q
        | false => exact wpAny_pure q
      · first
          | (split <;> first | exact q2 | exact SetTable.fits_plain_off q2)
          | exact q2
      · first
          | (split <;> exact q3)
          | exact q3
      · first
          | (split <;> exact led1)
          | exact led1
      · intro h' sb r
        dsimp only
        exact wpAny_pure (fin1 h' sb r)
    · refine wpAny_bind (wpAny_pure ?_)
      simp only [↓reduceIte]
      refine setG_tail (ks := ks ++ [k]) ?_ at0 ex dat g1 pm1 nd1 few1 q2 q3 led1 ?_
      · intro b s1 Q1 q
        cases b with
        | true => exact wpAny_rule q
        | false => exact wpAny_pure q
      · intro h' sb r
        dsimp only
        exact wpAny_pure (fin1 h' sb r)
end
end Ly

set_option maxRecDepth 100000
set_option maxHeartbeats 4000000
/-! set(xs) of ints or of texts; sorted(set(xs)), len(set(xs)). -/
namespace Ly
open PySem PySem.Spec PyProof.Rows L2
abbrev eSet (w : World) : Obj := { cls := .type "set", dict := none, data := .set #[] 0 (.fresh 0 0 (!w.params.followText "set-order")) }
def addKeys (ks more : List Key) : List Key := more.foldl addKey ks
theorem addKeys_len : ∀ (more ks : List Key), (addKeys ks more).length ≤ ks.length + more.length
  | [], ks => Nat.le_refl _
  | k :: r, ks => by
    have h1 := addKeys_len r (addKey ks k)
    have h2 : (addKey ks k).length ≤ ks.length + 1 := by
      unfold addKey
      split
      · omega
      · simp
    show (addKeys (addKey ks k) r).length ≤ _
    rw [List.length_cons]
    omega
section
variable {P : Program} {w : World} {A : Around} {E : Value → Shared → Prop} {s : Shared}
theorem eSet_ok {h : Heap} {a : Addr} (e : h.get? a = some (eSet w)) : SetG P w h a [] :=
  ⟨_, #[], 0, _, e, ⟨rfl, rfl, rfl⟩, rfl, fun _ z => by simp at z, by simp, List.nodup_nil, by decide, by rfl, List.Pairwise.nil, by
    show w.params.followText "set-order" = true ∨ (!w.params.followText "set-order") = true
    cases w.params.followText "set-order" <;> simp⟩
/-- the loop that fills -/
theorem fill_set {I : Addr} {fp wr : List Addr} {G : Array GenState → Array GenState → Prop} {n : Nat} {Pv : Nat → Value → Prop} {St : Nat → Shared → Prop} {R : Result → Shared → Prop} (W : WalksS P w A.in1 I fp wr G n Pv St) (L : Addr) (hL : L ∉ fp) (ks : List Key) (hn : n = ks.length) (room : ks.length + 1 < scanBound)
    (hv : ∀ i v, Pv i v → ∃ k, ks[i]? = some k ∧ keyIs k v = true) : ∀ (m i : Nat) (s : Shared), m + i = n → St i s → SetG P w s.heap L (addKeys [] (ks.take i)) → (∀ s', Moved (L :: wr) G s s' → SetG P w s'.heap L (addKeys [] ks) → R (.ok (.ret .none)) s') →
      codeAny (model P w) A (.builtin "set.update.loop" ⟨[.ref L, .ref I], []⟩) R s := by
  have nw : L ∉ wr := fun z => hL (W.sub _ z)
  have more : ∀ b ∈ wr, b ∈ L :: wr := fun _ z => List.mem_cons_of_mem _ z
  intro m
  induction m with
  | zero =>
    intro i s hi hst hS fin
    have ein : i = n := by omega
    subst ein
    refine codeAny_builtin PyProof.Rows.F.entry_set_update_loop ?_
    rw [Around.under_plainId PyProof.Rows.F.plain_set_update_loop _]
    show wpAny (model P w) A.in1 (pyNext (.ref I) >>= _) _ _ s
    refine wpAny_bind (W.done s _ _ hst fun s' mv => ?_)
    show wpAny (model P w) A.in1 (ret Value.none) _ _ s'
    rw [hn, List.take_length] at hS
    exact wpAny_pure (fin s' (mv.mono more) (hS.at fun o e => mv.heap L o nw e))
  | succ m ih =>
    intro i s hi hst hS fin
    have lt : i < n := by omega
    refine codeAny_builtin PyProof.Rows.F.entry_set_update_loop ?_
    rw [Around.under_plainId PyProof.Rows.F.plain_set_update_loop _]
    show wpAny (model P w) A.in1 (pyNext (.ref I) >>= _) _ _ s
    refine wpAny_bind (W.item i s _ _ lt hst fun v s' pv hst' mv => ?_)
    obtain ⟨k, hk, kv⟩ := hv i v pv
    have hS1 : SetG P w s'.heap L (addKeys [] (ks.take i)) := hS.at fun o e => mv.heap L o nw e
    show wpAny (model P w) A.in1 (holding [v] (setAdd L v) >>= _) _ _ s'
    refine wpAny_bind (wpAny_holding ?_)
    unfold setAdd
    refine wpAny_holding (wpAny_bind ((mixKind P w).pyHash (k := k) kv ?_))
    have few : (addKeys [] (ks.take i)).length + 1 < scanBound := by
      have q := addKeys_len (ks.take i) []
      rw [List.length_take, List.length_nil] at q
      omega
    refine setG_add (s := { s' with toks := s'.toks + 1 }) hS1 kv few fun b h' sb hS2 => ?_
    have hS3 : SetG P w h' L (addKeys [] (ks.take (i + 1))) := by
      have e : ks.take (i + 1) = ks.take i ++ [k] := by rw [List.take_add_one, hk]; rfl
      rw [e]
      unfold addKeys
      rw [List.foldl_append]
      exact hS2
    refine wpAny_pure ⟨plainId_quiet PyProof.Rows.F.plain_set_update_loop _, ih (i + 1) _ (by omega) (W.frame _ s' _ _ hst' (Nat.le_succ _) fun b hb o e => ?_) hS3 fun s2 mv2 hS4 => ?_⟩
    · rw [sb.2 b (fun z : b = L => hL (by rw [← z]; exact hb))]
      exact e
    · refine fin s2 (Moved.trans W.gtrans ((mv.mono more).then_heap (Nat.le_succ _) fun b o hb e => ?_) mv2) hS4
      rw [sb.2 b (fun z : b = L => hb (by rw [z]; exact List.mem_cons_self))]
      exact e
theorem call_set_list {l : Addr} {us : Array Value} (ks : List Key) {Q : Value → Shared → Prop} (calm : A.handled = none) (src : s.heap.IsList l us) (hk : us.size = ks.length) (hv : ∀ (i : Nat) (v : Value), us[i]? = some v → ∃ k, ks[i]? = some k ∧ keyIs k v = true) (room : ks.length + 1 < scanBound)
    (fin : ∀ (h' : Heap) (tk : Nat), SetG P w h' s.heap.objs.size (addKeys [] ks) → (∀ b o, s.heap.get? b = some o → h'.get? b = some o) → Q (.ref s.heap.objs.size) { s with heap := h', toks := tk }) :
    wpAny (model P w) A (call (.type "set") [.ref l]) Q E s := by
  obtain ⟨c, tl, hmro⟩ := PySem.F.called_set.mro
  have made0 := PySem.F.called_set.made
  have sub0 := PySem.F.called_set.sub
  refine wpAny_call (codeAny_of_tree ?_)
  show wpAny (model P w) _ (callAny (.type "set") _) _ _ _
  refine wpAny_pure ⟨Code.quiet_builtin _ (by decide +kernel), codeAny_builtin PySem.F.entry_type_call ?_⟩
  rw [Around.under_plain (weight_type_call_type "set" [.ref l] []) rfl]
  have a1 := PySem.F.called_set.notType
  have a2 := PySem.F.called_set.canCreate
  have a3 := PySem.F.typeCall_set_1 (.ref l)
  repeat (any_goals (first | assumption | wp_step))
  refine codeAny_mono (code_set_led1 (.ref l) (E := E) (Q₁ := fun ob s1 => ob = .ref s.heap.objs.size ∧ s1 = { s with heap := s.heap.push (eSet w) }) ⟨rfl, rfl⟩) fun r s1 hr => ?_
  cases r with
  | error e => exact hr
  | ok fl =>
    cases fl with
    | ret ob =>
      obtain ⟨rfl, rfl⟩ := hr
      have at0 : (s.heap.push (eSet w)).get? s.heap.objs.size = some (eSet w) := Heap.get?_push_size _ rfl
      have ty0 : Shared.TypeIs { s with heap := s.heap.push (eSet w) } (.ref s.heap.objs.size) "set" := ⟨_, at0, rfl⟩
      have b1 := PySem.F.called_set.init.lookup
      have b2 := PySem.F.called_set.init.bind (.ref s.heap.objs.size)
      repeat (any_goals (first | assumption | wp_step))
      refine codeAny_mono (codeAny_call_builtin (R := wants (fun r s2 => r = .none ∧ ∃ h' tk, s2 = { s with heap := h', toks := tk } ∧ SetG P w h' s.heap.objs.size (addKeys [] ks) ∧ (∀ b o, s.heap.get? b = some o → h'.get? b = some o)) E) PySem.F.called_set.init.plain PySem.F.entry_set_init (check_set_init_1 ty0 ?_)) fun r2 s2 hr2 => ?_
      · obtain ⟨ol, atl, cll, nl, dl⟩ := src
        obtain ⟨oc, od, oa, os⟩ := ol
        simp only at cll dl
        subst cll
        subst dl
        have atl1 : (s.heap.push (eSet w)).get? l = some { cls := .type "list", dict := od, data := .seq us nl, slots := os } := Heap.get?_push_of_some _ atl
        have c1 := PySem.F.sub_list_set
        have c2 := PySem.F.sub_list_frozenset
        have c3 : (Value.type "list" == Value.type "dict") = false := by decide
        have src1 : (s.heap.push (eSet w)).IsList l us := ⟨_, atl1, rfl, nl, rfl⟩
        unfold Builtin.«set.__init__» noKeywords Builtin.Frozenset.updateFrom
        generalize gPI : pyIter = PI
        wp_walk
        subst gPI
        refine wpAny_pyIter_list src1 (wpAny_bind (wpAny_runValue ?_))
        have ll : l < s.heap.objs.size := Heap.lt_size atl
        have calm3 : A.in1.in1.in1.handled = none := by simp [calm]
        have far : l ≠ (s.heap.push (eSet w)).objs.size := by
          rw [Heap.size_push]
          exact Nat.ne_of_lt (Nat.lt_succ_of_lt ll)
        have notin : s.heap.objs.size ∉ [(s.heap.push (eSet w)).objs.size, l] := by
          rw [Heap.size_push]
          simp only [List.mem_cons, List.not_mem_nil, or_false, not_or]
          exact ⟨Nat.ne_of_lt (Nat.lt_succ_self _), Nat.ne_of_gt ll⟩
        refine fill_set ((Walks.list calm3 _ l far us).toS) s.heap.objs.size notin ks hk room (fun i v e => hv i v e) us.size 0 _ rfl ⟨⟨_, Heap.get?_push_size _ rfl, rfl, rfl⟩, (src1.push _)⟩ ?new ?full
        case new =>
          refine eSet_ok (Heap.get?_push_of_some _ at0)
        case full =>
          intro s3 mv hS3
          obtain ⟨h3, g3, d3, tk3, os3⟩ := s3
          have eg : g3 = s.gens := mv.gens
          have ed : d3 = s.drawn := mv.drawn
          have eo : os3 = s.os := mv.os
          subst eg
          subst ed
          subst eo
          show wpAny (model P w) _ _ _ _ _
          refine wpAny_pure ?_
          show wpAny (model P w) _ (ret Value.none) _ _ _
          refine wpAny_pure ⟨rfl, h3, tk3, rfl, hS3, fun b o e => ?_⟩
          have lb : b < s.heap.objs.size := Heap.lt_size e
          refine mv.heap b o ?_ (Heap.get?_push_of_some _ (Heap.get?_push_of_some _ e))
          rw [Heap.size_push]
          simp only [List.mem_cons, List.not_mem_nil, or_false, not_or]
          exact ⟨Nat.ne_of_lt lb, Nat.ne_of_lt (Nat.lt_succ_of_lt lb)⟩
      · cases r2 with
        | error e => exact hr2
        | ok fl2 =>
          cases fl2 with
          | ret r =>
            obtain ⟨rfl, h3, tk3, rfl, hS3, kp3⟩ := hr2
            repeat (any_goals (first | assumption | wp_step))
            exact fin _ _ hS3 kp3
          | _ => exact hr2.elim
    | _ => exact hr.elim
theorem call_set_tuple {l : Addr} {us : Array Value} (ks : List Key) {Q : Value → Shared → Prop} (calm : A.handled = none) (src : s.heap.IsTuple l us) (hk : us.size = ks.length) (hv : ∀ (i : Nat) (v : Value), us[i]? = some v → ∃ k, ks[i]? = some k ∧ keyIs k v = true) (room : ks.length + 1 < scanBound)
    (fin : ∀ (h' : Heap) (tk : Nat), SetG P w h' s.heap.objs.size (addKeys [] ks) → (∀ b o, s.heap.get? b = some o → h'.get? b = some o) → Q (.ref s.heap.objs.size) { s with heap := h', toks := tk }) :
    wpAny (model P w) A (call (.type "set") [.ref l]) Q E s := by
  obtain ⟨c, tl, hmro⟩ := PySem.F.called_set.mro
  have made0 := PySem.F.called_set.made
  have sub0 := PySem.F.called_set.sub
  refine wpAny_call (codeAny_of_tree ?_)
  show wpAny (model P w) _ (callAny (.type "set") _) _ _ _
  refine wpAny_pure ⟨Code.quiet_builtin _ (by decide +kernel), codeAny_builtin PySem.F.entry_type_call ?_⟩
  rw [Around.under_plain (weight_type_call_type "set" [.ref l] []) rfl]
  have a1 := PySem.F.called_set.notType
  have a2 := PySem.F.called_set.canCreate
  have a3 := PySem.F.typeCall_set_1 (.ref l)
  repeat (any_goals (first | assumption | wp_step))
  refine codeAny_mono (code_set_led1 (.ref l) (E := E) (Q₁ := fun ob s1 => ob = .ref s.heap.objs.size ∧ s1 = { s with heap := s.heap.push (eSet w) }) ⟨rfl, rfl⟩) fun r s1 hr => ?_
  cases r with
  | error e => exact hr
  | ok fl =>
    cases fl with
    | ret ob =>
      obtain ⟨rfl, rfl⟩ := hr
      have at0 : (s.heap.push (eSet w)).get? s.heap.objs.size = some (eSet w) := Heap.get?_push_size _ rfl
      have ty0 : Shared.TypeIs { s with heap := s.heap.push (eSet w) } (.ref s.heap.objs.size) "set" := ⟨_, at0, rfl⟩
      have b1 := PySem.F.called_set.init.lookup
      have b2 := PySem.F.called_set.init.bind (.ref s.heap.objs.size)
      repeat (any_goals (first | assumption | wp_step))
      refine codeAny_mono (codeAny_call_builtin (R := wants (fun r s2 => r = .none ∧ ∃ h' tk, s2 = { s with heap := h', toks := tk } ∧ SetG P w h' s.heap.objs.size (addKeys [] ks) ∧ (∀ b o, s.heap.get? b = some o → h'.get? b = some o)) E) PySem.F.called_set.init.plain PySem.F.entry_set_init (check_set_init_1 ty0 ?_)) fun r2 s2 hr2 => ?_
      · obtain ⟨ol, atl, cll, nl, dl⟩ := src
        obtain ⟨oc, od, oa, os⟩ := ol
        simp only at cll dl
        subst cll
        subst dl
        have atl1 : (s.heap.push (eSet w)).get? l = some { cls := .type "tuple", dict := od, data := .seq us nl, slots := os } := Heap.get?_push_of_some _ atl
        have c1 := PySem.F.sub_tuple_set
        have c2 := PySem.F.sub_tuple_frozenset
        have c3 : (Value.type "tuple" == Value.type "dict") = false := by decide
        have src1 : (s.heap.push (eSet w)).IsTuple l us := ⟨_, atl1, rfl, nl, rfl⟩
        unfold Builtin.«set.__init__» noKeywords Builtin.Frozenset.updateFrom
        generalize gPI : pyIter = PI
        wp_walk
        subst gPI
        refine wpAny_pyIter_tuple src1 (wpAny_bind (wpAny_runValue ?_))
        have ll : l < s.heap.objs.size := Heap.lt_size atl
        have calm3 : A.in1.in1.in1.handled = none := by simp [calm]
        have far : l ≠ (s.heap.push (eSet w)).objs.size := by
          rw [Heap.size_push]
          exact Nat.ne_of_lt (Nat.lt_succ_of_lt ll)
        have notin : s.heap.objs.size ∉ [(s.heap.push (eSet w)).objs.size, l] := by
          rw [Heap.size_push]
          simp only [List.mem_cons, List.not_mem_nil, or_false, not_or]
          exact ⟨Nat.ne_of_lt (Nat.lt_succ_self _), Nat.ne_of_gt ll⟩
        refine fill_set ((Walks.tuple calm3 _ l far us).toS) s.heap.objs.size notin ks hk room (fun i v e => hv i v e) us.size 0 _ rfl ⟨⟨_, Heap.get?_push_size _ rfl, rfl, rfl⟩, (src1.push _)⟩ ?new ?full
        case new =>
          refine eSet_ok (Heap.get?_push_of_some _ at0)
        case full =>
          intro s3 mv hS3
          obtain ⟨h3, g3, d3, tk3, os3⟩ := s3
          have eg : g3 = s.gens := mv.gens
          have ed : d3 = s.drawn := mv.drawn
          have eo : os3 = s.os := mv.os
          subst eg
          subst ed
          subst eo
          show wpAny (model P w) _ _ _ _ _
          refine wpAny_pure ?_
          show wpAny (model P w) _ (ret Value.none) _ _ _
          refine wpAny_pure ⟨rfl, h3, tk3, rfl, hS3, fun b o e => ?_⟩
          have lb : b < s.heap.objs.size := Heap.lt_size e
          refine mv.heap b o ?_ (Heap.get?_push_of_some _ (Heap.get?_push_of_some _ e))
          rw [Heap.size_push]
          simp only [List.mem_cons, List.not_mem_nil, or_false, not_or]
          exact ⟨Nat.ne_of_lt lb, Nat.ne_of_lt (Nat.lt_succ_of_lt lb)⟩
      · cases r2 with
        | error e => exact hr2
        | ok fl2 =>
          cases fl2 with
          | ret r =>
            obtain ⟨rfl, h3, tk3, rfl, hS3, kp3⟩ := hr2
            repeat (any_goals (first | assumption | wp_step))
            exact fin _ _ hS3 kp3
          | _ => exact hr2.elim
    | _ => exact hr.elim
end
end Ly

set_option maxRecDepth 100000
set_option maxHeartbeats 4000000
/-! sorted(set(xs)), len(set(xs)) as expressions. -/
namespace Ly
open PySem PySem.Spec PyProof.Rows L2
def isIntD : D → Bool
  | .int _ => true
  | _ => false
def isStrD : D → Bool
  | .str _ => true
  | _ => false
def flatD (ds : List D) : Prop := ((∀ d ∈ ds, isIntD d = true) ∨ ∀ d ∈ ds, isStrD d = true) ∧ ∀ d ∈ ds, sh d = true
theorem setOk_get {ds : List D} (h : setOk ds = true) : ds.length < 4000 ∧ flatD ds := by
  unfold setOk at h
  obtain ⟨h1, h3, h2⟩ := and3 h
  refine ⟨of_decide_eq_true h1, ?_, fun d hd => List.all_eq_true.mp h3 d hd⟩
  rw [Bool.or_eq_true] at h2
  rcases h2 with h2 | h2
  · exact .inl fun d hd => by
      have := List.all_eq_true.mp h2 d hd
      cases d <;> first | rfl | cases this
  · exact .inr fun d hd => by
      have := List.all_eq_true.mp h2 d hd
      cases d <;> first | rfl | cases this
theorem flatD.sub {ds es : List D} (h : flatD ds) (k : ∀ d ∈ es, d ∈ ds) : flatD es := ⟨h.1.imp (fun h d hd => h d (k d hd)) fun h d hd => h d (k d hd), fun d hd => h.2 d (k d hd)⟩
theorem flatD.sortOk {ds : List D} (h : flatD ds) : sortOk ds = true := by
  unfold Ly.sortOk allAlike sortable
  rw [Bool.and_eq_true, Bool.and_eq_true]
  obtain ⟨h, hsh⟩ := h
  rcases h with h | h
  · refine ⟨⟨List.all_eq_true.mpr fun a ha => List.all_eq_true.mpr fun b hb => ?_, ?_⟩, List.all_eq_true.mpr hsh⟩
    · have q1 := h a ha
      have q2 := h b hb
      cases a <;> try (cases q1; done)
      cases b <;> first | rfl | cases q2
    · rw [Bool.or_eq_true]
      refine .inr (List.all_eq_true.mpr fun a ha => ?_)
      have q1 := h a ha
      cases a <;> first | rfl | cases q1
  · refine ⟨⟨List.all_eq_true.mpr fun a ha => List.all_eq_true.mpr fun b hb => ?_, ?_⟩, List.all_eq_true.mpr hsh⟩
    · have q1 := h a ha
      have q2 := h b hb
      cases a <;> try (cases q1; done)
      cases b <;> first | rfl | cases q2
    · rw [Bool.or_eq_true]
      refine .inr (List.all_eq_true.mpr fun a ha => ?_)
      have q1 := h a ha
      cases a <;> first | rfl | cases q1
theorem leB_eq (a b : D) : leB a b = !(ltB b a) := rfl
theorem leB_total : PySem.W.TotalLe leB := by
  show PySem.W.TotalLe (fun a b => PySem.W.dataLe false id a b)
  unfold PySem.W.dataLe
  exact PySem.W.sortLe_total _ _ _
theorem flat_anti {ds : List D} (h : flatD ds) {a b : D} (ha : a ∈ ds) (hb : b ∈ ds) (h1 : leB a b = true) (h2 : leB b a = true) : a = b := by
  rw [leB_eq, Bool.not_eq_true'] at h1 h2
  unfold ltB at h1 h2
  rcases h.1 with h | h
  · have q1 := h a ha
    have q2 := h b hb
    cases a <;> try (cases q1; done)
    cases b <;> try (cases q2; done)
    rw [PySem.W.dataLt_int] at h1 h2
    have h1 := of_decide_eq_false h1
    have h2 := of_decide_eq_false h2
    congr 1
    omega
  · have q1 := h a ha
    have q2 := h b hb
    cases a <;> try (cases q1; done)
    cases b <;> try (cases q2; done)
    rw [PySem.W.dataLt_str] at h1 h2
    have h1 := of_decide_eq_false h1
    have h2 := of_decide_eq_false h2
    congr 1
    exact PySem.W.str_of_cps (List.le_antisymm (List.not_lt.mp h1) (List.not_lt.mp h2))
theorem sortL_perm {ds es : List D} (h : flatD ds) (p : es.Perm ds) : sortL es = sortL ds := by
  have p2 : (sortL es).Perm (sortL ds) := (List.mergeSort_perm es leB).trans (p.trans (List.mergeSort_perm ds leB).symm)
  refine List.Perm.eq_of_pairwise (le := fun a b => leB a b = true) (fun a b ha hb h1 h2 => ?_) (PySem.W.sort_pairwise leB_total es) (PySem.W.sort_pairwise leB_total ds) p2
  have ha' : a ∈ ds := p.mem_iff.mp ((List.mergeSort_perm es leB).mem_iff.mp ha)
  have hb' : b ∈ ds := (List.mergeSort_perm ds leB).mem_iff.mp hb
  exact flat_anti h ha' hb' h1 h2
/-! ### each once -/
theorem onceL_mem : ∀ {ds : List D} {d : D}, (∀ x ∈ ds, keyB x = true) → (d ∈ onceL ds ↔ d ∈ ds)
  | [], d, _ => by simp [onceL]
  | x :: r, d, h => by
    have ih := onceL_mem (ds := r) (d := d) fun y hy => h y (List.mem_cons_of_mem _ hy)
    unfold onceL
    rw [List.mem_cons, List.mem_cons, List.mem_filter, ih]
    constructor
    · rintro (e | ⟨e, _⟩)
      · exact .inl e
      · exact .inr e
    · rintro (e | e)
      · exact .inl e
      · by_cases z : d = x
        · exact .inl z
        · refine .inr ⟨e, ?_⟩
          rw [Bool.not_eq_true']
          have hx := h x (by simp)
          have hd := h d (List.mem_cons_of_mem _ e)
          cases x <;> try (cases hx; done)
          · cases d <;> try (cases hd; done)
            · simp [keyEq]
              intro q
              exact z (by rw [q])
            · rfl
          · cases d <;> try (cases hd; done)
            · rfl
            · simp [keyEq]
              intro q
              exact z (by rw [q])
theorem onceL_nodup : ∀ {ds : List D}, (∀ x ∈ ds, keyB x = true) → (onceL ds).Nodup
  | [], _ => List.nodup_nil
  | x :: r, h => by
    have ih := onceL_nodup (ds := r) fun y hy => h y (List.mem_cons_of_mem _ hy)
    unfold onceL
    refine List.nodup_cons.mpr ⟨fun z => ?_, ih.sublist List.filter_sublist⟩
    have q := (List.mem_filter.mp z).2
    have hx := h x (by simp)
    cases x <;> first | (cases hx; done) | (simp [keyEq] at q)
theorem addKey_mem {ks : List Key} {k j : Key} : j ∈ addKey ks k ↔ j ∈ ks ∨ j = k := by
  unfold addKey
  split
  · rename_i h
    exact ⟨.inl, fun z => z.elim id fun z => by rw [z]; exact memK_iff.mp h⟩
  · rw [List.mem_append, List.mem_singleton]
theorem addKeys_mem : ∀ {more ks : List Key} {j : Key}, j ∈ addKeys ks more ↔ j ∈ ks ∨ j ∈ more
  | [], ks, j => by simp [addKeys]
  | k :: r, ks, j => by
    have ih := addKeys_mem (more := r) (ks := addKey ks k) (j := j)
    show j ∈ addKeys (addKey ks k) r ↔ _
    rw [ih, addKey_mem, List.mem_cons]
    exact or_assoc
theorem addKeys_nodup : ∀ {more ks : List Key}, ks.Nodup → (addKeys ks more).Nodup
  | [], ks, h => h
  | k :: r, ks, h => by
    refine addKeys_nodup (more := r) (ks := addKey ks k) ?_
    unfold addKey
    split
    · exact h
    · rename_i q
      rw [List.nodup_append]
      exact ⟨h, by simp, fun x hx y hy z => q (by rw [← List.mem_singleton.mp hy, ← z]; exact memK_iff.mpr hx)⟩
theorem nodup_kD : ∀ {ks : List Key}, ks.Nodup → (ks.map kD).Nodup
  | [], _ => List.nodup_nil
  | k :: r, h => by
    obtain ⟨h1, h2⟩ := List.nodup_cons.mp h
    refine List.nodup_cons.mpr ⟨fun z => ?_, nodup_kD h2⟩
    obtain ⟨j, hj, e⟩ := List.mem_map.mp z
    exact h1 (by rw [← kD_inj e]; exact hj)
theorem once_perm {ks : List Key} : ((addKeys [] ks).map kD).Perm (onceL (ks.map kD)) := by
  have hk : ∀ x ∈ ks.map kD, keyB x = true := fun x hx => by
    obtain ⟨k, _, rfl⟩ := List.mem_map.mp hx
    exact keyB_kD k
  refine (List.perm_ext_iff_of_nodup (nodup_kD (addKeys_nodup List.nodup_nil)) (onceL_nodup hk)).mpr fun a => ?_
  rw [onceL_mem hk, List.mem_map, List.mem_map]
  constructor
  · rintro ⟨k, h, e⟩
    exact ⟨k, by simpa using addKeys_mem.mp h, e⟩
  · rintro ⟨k, h, e⟩
    exact ⟨k, addKeys_mem.mpr (.inr h), e⟩
theorem keys_of_flat {K : Frag} {F : Hp} : ∀ {xs : List V} {ds : List D}, RpL K F xs ds → (∀ d ∈ ds, keyB d = true) → ∃ ks : List Key, xs = ks.map kV ∧ ds = ks.map kD
  | _, _, .nil, _ => ⟨[], rfl, rfl⟩
  | _, _, .cons r rr, h => by
    obtain ⟨ks, e1, e2⟩ := keys_of_flat rr fun d hd => h d (List.mem_cons_of_mem _ hd)
    obtain ⟨k, rfl, rfl⟩ := key_of_rp r (h _ (by simp))
    exact ⟨k :: ks, by rw [e1]; rfl, by rw [e2]; rfl⟩
theorem flatD.keyB {ds : List D} (h : flatD ds) : ∀ d ∈ ds, keyB d = true := fun d hd => by
  rcases h.1 with h | h
  · have := h d hd
    cases d <;> first | rfl | cases this
  · have := h d hd
    cases d <;> first | rfl | cases this
section
variable {X : Cx} {pw : Option Addr} {e : Expr} {fe : Env → W D} {pos p p2 q : Pos}
theorem Inv.same {pins : List (Addr × Obj)} {σ : St} {H : Hp} {s s' : Shared} (I : Inv X pins σ H s) (k : ∀ b o, s.heap.get? b = some o → s'.heap.get? b = some o) (g : s'.gens = s.gens) (o : s'.os = s.os) : Inv X pins σ H s' := by
  have J : Inv X pins σ H { s with heap := s'.heap, gens := s'.gens, drawn := s'.drawn, toks := s'.toks } := L2.Inv.call I (ch := []) (Un.kept k) (I.hok.kept k) (by rw [g]; exact I.bare) (fun _ z => nomatch z)
  have es : s' = { s with heap := s'.heap, gens := s'.gens, drawn := s'.drawn, toks := s'.toks } := by
    cases s'
    cases s
    cases o
    rfl
  rw [es]
  exact J
/-- sorted, from a way to collect the items in any order -/
theorem sorted_any {pins : List (Addr × Obj)} {s : Shared} {σ : St} {F H : Hp} {Q : VK} {v : Value} {ds : List D} (hu : X.A.units + 100 < cLine) (I : Inv X pins σ H s) (hs : Same F H) (hw : WOk F H pw) (ho : flatD ds) (hz : ds.length ≤ sizeLine)
    (col : ∀ (R : List Value → Shared → Prop) (E' : Value → Shared → Prop), (∀ us s1 es, (∀ b o, s.heap.get? b = some o → s1.heap.get? b = some o) → s1.gens = s.gens → s1.os = s.os → es.Perm ds → PySem.W.EachIs (Stands X.K F) us es → R us s1) → wpAny (model X.prog X.w) X.A.in1 (collect v) R E' s)
    (k : ∀ v F' H', Step pw F H F' H' → Res X.K pw .fresh F' H H' v (.list (sortL ds)) → Q v H') : wpAny (model X.prog X.w) X.A (call (.builtin "sorted") [v]) (EP X pins σ Q) X.xe s := by
  refine Calls.call_function_entry kind_sorted plain_sorted entry_sorted (args_sorted1 _) ?_
  unfold Builtin.«sorted»
  refine wpAny_bind (m := checkCount "sorted" 1 1 _) (wpAny_pure ?_)
  refine wpAny_bind (col _ _ fun us s1 es hk hg hos hp he => ?_)
  have flat : flatD es := ho.sub fun d hd => hp.mem_iff.mp hd
  have so := flat.sortOk
  unfold sortOk at so
  obtain ⟨so, h3⟩ := and_get so
  obtain ⟨h1, h2⟩ := and_get so
  have hze : es.length ≤ sizeLine := by rw [hp.length_eq]; exact hz
  have hl : us.length ≤ sizeLine := by rw [each_len he]; exact hze
  have I1 : Inv X pins σ H s1 := Inv.same I hk hg hos
  refine wpAny_bind (wpAny_newList ?_ hl)
  have at0 : (s1.heap.push (seqObj "list" us.toArray 0)).get? s1.heap.objs.size = some (seqObj "list" us.toArray 0) := Heap.get?_push_size _ rfl
  show wpAny _ _ _ _ _ { s1 with heap := s1.heap.push (seqObj "list" us.toArray 0) }
  have rd := each_far (o := seqObj "list" us.toArray 0) (each_reads I1 hs he h3)
  refine wpAny_bind (wpAny_holding ?_)
  refine PySem.W.list_sort_data (s := { s1 with heap := s1.heap.push (seqObj "list" us.toArray 0) }) (enc := id) (R := Stands X.K F) at0 he rd (by rw [List.map_id]; exact alike_get h1) (by rw [List.map_id]; exact sortable_get h2) hze (fun b hb => ?_) fun out hol hou => ?_
  · have q := SeqAt.depth_of_shaped (List.all_eq_true.mp h3 b hb)
    show X.A.units + 1 + 1 + b.depth < cLine
    omega
  · have hou : PySem.W.EachIs (Stands X.K F) out (sortL es) := hou
    rw [sortL_perm ho hp] at hou
    obtain ⟨xs, vx, rx⟩ := of_each hou
    obtain ⟨c, hc⟩ := sortedHeap_at (vs := us) (out := out.toArray) at0
    have hlx : xs.length ≤ sizeLine := by rw [vx.length, hol]; exact hze
    have kp : ∀ b u, s1.heap.get? b = some u → (sortedHeap (s1.heap.push (seqObj "list" us.toArray 0)) s1.heap.objs.size us out.toArray).get? b = some u := fun b u q => by
      have hb := Heap.lt_size q
      rw [sortedHeap_old (Nat.ne_of_lt hb) (by rw [size_push']; exact Nat.lt_succ_of_lt hb)]
      exact Heap.get?_push_of_some _ q
    have hn : H s1.heap.objs.size = none := I1.hok.fresh (Nat.le_refl _)
    obtain ⟨st, rr⟩ := fresh_list (K := X.K) hs hw hn rx
    refine wpAny_pure ⟨_, rfl, .ref s1.heap.objs.size, _, I1.laid (t' := s1.toks) kp (Nat.le_refl _) (show ObjOk X.prog X.w _ _ _ (.lst xs) from ⟨hlx, out, c, vx, hc⟩), rfl, k _ _ _ st rr⟩
theorem each_perm {α β : Type} {R : α → β → Prop} {f : β → β} : ∀ {us vs : List α}, us.Perm vs → ∀ {ds : List β}, PySem.W.EachIs R vs ds → ∃ es, es.Perm ds ∧ PySem.W.EachIs R us es := by
  intro us vs h
  induction h with
  | nil => intro ds e; exact ⟨ds, .refl _, e⟩
  | cons x _ ih =>
    intro ds e
    cases e with
    | cons h1 h2 =>
      obtain ⟨es, p, e'⟩ := ih h2
      exact ⟨_ :: es, p.cons _, .cons h1 e'⟩
  | swap x y l =>
    intro ds e
    cases e with
    | cons h1 h2 => cases h2 with
      | cons h2 h3 => exact ⟨_, .swap _ _ _, .cons h2 (.cons h1 h3)⟩
  | trans _ _ ih1 ih2 =>
    intro ds e
    obtain ⟨es, p, e'⟩ := ih2 e
    obtain ⟨es2, p2, e2⟩ := ih1 e'
    exact ⟨es2, p2.trans p, e2⟩
/-- the set of what stands at a, made -/
theorem made_set {pins : List (Addr × Obj)} {s : Shared} {σ : St} {F H : Hp} {v : V} {u : Value} {d : D} {ds : List D} {Q : Value → Shared → Prop} (hc : X.calm = true) (I : Inv X pins σ H s) (hs : Same F H) (ru : RelV v u) (r : RpH X.K pw F H v d) (hd : d = .list ds ∨ d = .tuple ds) (h4 : ds.length < 4000) (hf : flatD ds)
    (fin : ∀ (h' : Heap) (tk : Nat) (ks : List Key), ds = ks.map kD → SetG X.prog X.w h' s.heap.objs.size (addKeys [] ks) → (∀ b o, s.heap.get? b = some o → h'.get? b = some o) → Q (.ref s.heap.objs.size) { s with heap := h', toks := tk }) :
    wpAny (model X.prog X.w) X.A (call (.type "set") [u]) Q X.xe s := by
  have key : ∀ {xs : List V} {us : List Value}, RpL X.K F xs ds → Vals xs us → ∃ ks : List Key, ds = ks.map kD ∧ us.length = ks.length ∧ ∀ (i : Nat) (w : Value), us[i]? = some w → ∃ k, ks[i]? = some k ∧ keyIs k w = true := fun {xs us} r1 rv => by
    obtain ⟨ks, e1, e2⟩ := keys_of_flat r1 hf.keyB
    subst e1
    refine ⟨ks, e2, by rw [← rv.length, List.length_map], fun i w hw => ?_⟩
    have hi : i < ks.length := by
      have := (List.getElem?_eq_some_iff.mp hw).1
      rw [← rv.length, List.length_map] at this
      exact this
    have hk : (ks.map kV)[i]? = some (kV ks[i]) := by rw [List.getElem?_map, List.getElem?_eq_getElem hi]; rfl
    obtain ⟨w2, e3, e4⟩ := rv.get hk
    rw [hw] at e3
    cases e3
    exact ⟨ks[i], List.getElem?_eq_getElem hi, kV_is (P := X.prog) (w := X.w) e4⟩
  have room : ∀ ks : List Key, ds = ks.map kD → ks.length + 1 < scanBound := fun ks e => by
    rw [e, List.length_map] at h4
    unfold scanBound
    omega
  rcases hd with rfl | rfl
  · cases r with
    | @lst a xs _ h1 r1 =>
      cases ru
      obtain ⟨us, rv, pl, _⟩ := I.list (.of h1)
      obtain ⟨ks, e1, e2, e3⟩ := key r1 rv
      exact call_set_list ks (I.ok.hd hc) pl.isList (by simpa using e2) (fun i w h => e3 i w (by simpa using h)) (room ks e1) fun h' tk g k => fin h' tk ks e1 g k
  · cases r with
    | @tup a xs _ h1 r1 =>
      cases ru
      obtain ⟨us, rv, pl, _⟩ := I.tuple (Same.sqT hs h1)
      obtain ⟨ks, e1, e2, e3⟩ := key r1 rv
      exact call_set_tuple ks (I.ok.hd hc) (show s.heap.IsTuple a us.toArray from pl) (by simpa using e2) (fun i w h => e3 i w (by simpa using h)) (room ks e1) fun h' tk g k => fin h' tk ks e1 g k
theorem biSet_get {ds : List D} {z : D} {f : Bi} (hf : f = .sortedSet ∨ f = .lenSet) (h : biD f ds = some z) : ∃ d xs, ds = [d] ∧ (d = .list xs ∨ d = .tuple xs) ∧ setOk xs = true ∧ z = (if f = .sortedSet then .list (sortL (onceL xs)) else .int (onceL xs).length) := by
  rcases ds with _ | ⟨d, _ | ⟨d2, r⟩⟩
  · rcases hf with rfl | rfl <;> cases h
  · rcases hf with rfl | rfl
    · cases d <;> try (cases h; done)
      · rename_i xs
        have h : gd (setOk xs) (PyData.list (sortL (onceL xs))) = some z := h
        obtain ⟨h1, rfl⟩ := gd_some h
        exact ⟨_, xs, rfl, .inl rfl, h1, rfl⟩
      · rename_i xs
        have h : gd (setOk xs) (PyData.list (sortL (onceL xs))) = some z := h
        obtain ⟨h1, rfl⟩ := gd_some h
        exact ⟨_, xs, rfl, .inr rfl, h1, rfl⟩
    · cases d <;> try (cases h; done)
      · rename_i xs
        have h : gd (setOk xs) (PyData.int (onceL xs).length) = some z := h
        obtain ⟨h1, rfl⟩ := gd_some h
        exact ⟨_, xs, rfl, .inl rfl, h1, rfl⟩
      · rename_i xs
        have h : gd (setOk xs) (PyData.int (onceL xs).length) = some z := h
        obtain ⟨h1, rfl⟩ := gd_some h
        exact ⟨_, xs, rfl, .inr rfl, h1, rfl⟩
  · rcases hf with rfl | rfl <;> cases h
theorem eo_sortedSet (hc : X.calm = true) (hu : X.A.units + 200 < cLine) (hg : Gl X "sorted") (hm : X.mg "sorted" = none) (hg2 : Gl X "set") (hm2 : X.mg "set" = none) (he : EO X pw .peek e fe) (hs1 : starEach [e] X.env = (false, eval e X.env) :: starEach [] X.env) :
    EO X pw .fresh (.Call (.Name "sorted" p) [.Call (.Name "set" p2) [e] [] q] [] pos) (fun Γ => W.bind (W.bind (fe Γ) fun d => W.bind (W.ok []) fun ds => W.ok (d :: ds)) fun ds => W.opt (biD .sortedSet ds)) := ⟨fun pins s σ H0 F H Γ R I B hf => by
  refine Call_ (ld_blt I hg hm boot_sorted (callWith_builtin1 (args_cons (Call_ (ld_blt I hg2 hm2 boot_set (callWith_type1 (args_cons (thn (he.run pins s σ H0 F H Γ _ I B hf) fun u s1 ⟨v, F1, H1, d, I1, ru, st, rs, hr⟩ => args_nil ?_) hs1) hs1 rfl))) rfl) rfl rfl))
  obtain ⟨z, hz, hr⟩ := hr
  obtain ⟨d', xs, e1, hd, so, ez⟩ := biSet_get (.inl rfl) hz
  cases e1
  rw [if_pos rfl] at ez
  subst ez
  obtain ⟨h4, fl⟩ := setOk_get so
  refine made_set hc I1 st.fh ru rs hd h4 fl fun h' tk ks ek g kp => args_nil ?_
  have I2 : Inv X pins σ H1 { s1 with heap := h', toks := tk } := I1.kept kp
  obtain ⟨ob, es, ep, t, at0, ex, dat, gk, pm, nd, few, fit, ris, led⟩ := g
  have hk : ∀ x ∈ xs, keyB x = true := fl.keyB
  have fo : flatD (onceL xs) := fl.sub fun x hx => (onceL_mem hk).mp hx
  have pe : (es.toList.map fun e => kD (kf e)).Perm (onceL xs) := by
    have := (pm.map kD).trans (once_perm (ks := ks))
    rw [List.map_map] at this
    rw [ek]
    exact this
  have lo : (onceL xs).length ≤ sizeLine := by
    rw [← pe.length_eq, List.length_map, Array.length_toList, sizeLine_eq]
    unfold scanBound at few
    omega
  have st2 : EP X pins σ (fun v H' => ∃ F' d, Step pw F H F' H' ∧ Res X.K pw .fresh F' H H' v d ∧ R d) = EP X pins σ (fun v H' => ∃ F' d, Step pw F H F' H' ∧ Res X.K pw .fresh F' H H' v d ∧ R d) := rfl
  refine wpAny_mono (sorted_any (pw := pw) (F := F1) (ds := onceL xs) (Q := fun v H' => ∃ F' d, Step pw F H F' H' ∧ Res X.K pw .fresh F' H H' v d ∧ R d) (by omega) I2 st.fh st.w fo lo (fun R' E' kk => ?_) fun v' F' H' st3 rs3 => ?_) (fun u' s' ⟨v', H', I', r', F', d', st', rs', hr'⟩ => ⟨v', F', H', d', I', r', st', rs', hr'⟩) fun _ _ z => z
  · refine collect_set (A := X.A.in1) (I.ok.hd hc) ⟨ob, at0, ex.1, dat⟩ fit few ris led fun s' out k1 k2 k3 k4 k5 => ?_
    have each0 : PySem.W.EachIs (Stands X.K F1) (es.toList.map (·.2)) (es.toList.map fun e => kD (kf e)) := by
      have : ∀ l : List (Int × Value), (∀ e ∈ l, GoodK X.prog X.w e) → PySem.W.EachIs (Stands X.K F1) (l.map (·.2)) (l.map fun e => kD (kf e)) := fun l => by
        induction l with
        | nil => intro _; exact .nil
        | cons a l ih => intro h; exact .cons ⟨kV (kf a), relV_key (h a (by simp)).1, rp_key _⟩ (ih fun e he => h e (List.mem_cons_of_mem _ he))
      exact this _ gk
    obtain ⟨es2, p3, e3⟩ := each_perm (f := id) k5 each0
    exact kk out s' es2 k1 k3 k4 (p3.trans pe) e3
  · obtain ⟨a, e1, e2, e3⟩ := rs3
    exact ⟨F', _, st.trans st3, ⟨a, e1, none_back B.w st e2, e3⟩, hr⟩⟩
theorem eo_lenSet (hc : X.calm = true) (hg : Gl X "len") (hm : X.mg "len" = none) (hg2 : Gl X "set") (hm2 : X.mg "set" = none) (he : EO X pw .peek e fe) (hs1 : starEach [e] X.env = (false, eval e X.env) :: starEach [] X.env) :
    EO X pw .val (.Call (.Name "len" p) [.Call (.Name "set" p2) [e] [] q] [] pos) (fun Γ => W.bind (W.bind (fe Γ) fun d => W.bind (W.ok []) fun ds => W.ok (d :: ds)) fun ds => W.opt (biD .lenSet ds)) := ⟨fun pins s σ H0 F H Γ R I B hf => by
  refine Call_ (ld_blt I hg hm boot_len (callWith_builtin1 (args_cons (Call_ (ld_blt I hg2 hm2 boot_set (callWith_type1 (args_cons (thn (he.run pins s σ H0 F H Γ _ I B hf) fun u s1 ⟨v, F1, H1, d, I1, ru, st, rs, hr⟩ => args_nil ?_) hs1) hs1 rfl))) rfl) rfl rfl))
  obtain ⟨z, hz, hr⟩ := hr
  obtain ⟨d', xs, e1, hd, so, ez⟩ := biSet_get (.inr rfl) hz
  cases e1
  rw [if_neg (by decide)] at ez
  subst ez
  obtain ⟨h4, fl⟩ := setOk_get so
  refine made_set hc I1 st.fh ru rs hd h4 fl fun h' tk ks ek g kp => args_nil ?_
  have I2 : Inv X pins σ H1 { s1 with heap := h', toks := tk } := I1.kept kp
  obtain ⟨ob, es, ep, t, at0, ex, dat, gk, pm, nd, few, fit, ris, led⟩ := g
  have lo : es.size = (onceL xs).length := by
    have := ((pm.map kD).trans (once_perm (ks := ks))).length_eq
    rw [List.length_map, List.length_map, Array.length_toList, ← ek] at this
    exact this
  refine call_len_set at0 ex dat fit (by unfold scanBound at few; omega) ⟨.int (onceL xs).length, F1, H1, _, I2.kept (fun _ _ z => z), ⟨_, by rw [lo]⟩, st, .int _, hr⟩⟩
end
end Ly

set_option maxRecDepth 100000
set_option maxHeartbeats 4000000
/-! What passes the check is so: all expressions. -/
namespace Ly
open PySem PySem.Spec PyProof.Rows L2
section
variable {X : Cx} {S : Sc} {cf : Nat → List D → W D} {pw : Option Addr}
theorem one_es {x : Expr} {es : Es} (h : EsOk X pw cf [x] es) : ∃ e, es = .cons e .nil ∧ nst x = true ∧ EOk X pw cf x e := by
  cases h with
  | cons h1 h2 h3 => cases h3; exact ⟨_, rfl, h1, h2⟩
theorem two_es {x y : Expr} {es : Es} (h : EsOk X pw cf [x, y] es) : ∃ e e2, es = .cons e (.cons e2 .nil) ∧ nst x = true ∧ EOk X pw cf x e ∧ nst y = true ∧ EOk X pw cf y e2 := by
  cases h with
  | cons h1 h2 h3 => cases h3 with
    | cons h3 h4 h5 => cases h5; exact ⟨_, _, rfl, h1, h2, h3, h4⟩
theorem snd_con {d : D} {e : Expr} (h : conC d e = true) : EOk X pw cf e (.con d) := by
  have main : ∀ {v : V}, PE X e (tC v) → (∀ F, Rp X.K F v d) → plainT e = true → noLc e = true → EOk X pw cf e (.con d) := fun h1 h2 h3 h4 => EOk.of (i := .con d) (eo_const h1 h2) rfl rfl h3 h4
  cases d <;> cases e <;> try (simp [conC] at h; done)
  all_goals
    rename_i c k pos
    cases c <;> try (simp [conC] at h; done)
  · exact main pe_non (fun F => .non) rfl rfl
  · have e := (show (_ == _) = true from h)
    rw [beq_iff_eq] at e
    subst e
    exact main pe_bl (fun F => .bl _) rfl rfl
  · have e := (show (_ == _) = true from h)
    rw [beq_iff_eq] at e
    subst e
    exact main pe_int (fun F => .int _) rfl rfl
  · have e := of_decide_eq_true (show decide _ = true from h)
    subst e
    exact main pe_str (fun F => .str _) rfl rfl
theorem snd_bi (C : Ctx X S cf) {f : Bi} {n : Str} {args : List Expr} {es : Es} {p pos : Pos} (hn : biN f = some n) (hb : blC S n = true) (h : EsOk X pw cf args es) (h0 : args ≠ []) : EOk X pw cf (.Call (.Name n p) args [] pos) (.bi f es) := by
  obtain ⟨hg, hm⟩ := C.bl hb
  have rule := bi_rule (pw := pw) C.calm C.hu f n hn
  cases h with
  | nil => exact absurd rfl h0
  | @cons x e xs es h1 h2 h3 =>
    have ao := (EsOk.cons h1 h2 h3).ao true
    have st := se_cons (es := xs) (env := X.env) h1
    have pl := pl_any (pos := pos) (env := X.env) h3.nst
    cases f <;> (try (simp [biN] at hn; done)) <;> (obtain rfl := Option.some.inj hn)
    · exact EOk.of (i := .bi .len _) (eo_callB rule hg hm PySem.boot_len ao (by decide) (by decide) st pl) rfl rfl rfl rfl
    · exact EOk.ofF (i := .bi .sorted _) (eo_callB rule hg hm boot_sorted ao (by decide) (by decide) st pl) rfl rfl rfl
    · exact EOk.of (i := .bi .tuple _) (eo_callTy rule hg hm PyProof.Rows.boot_tuple ao (by decide) (by decide) st pl) rfl rfl rfl rfl
    · exact EOk.ofF (i := .bi .list _) (eo_callTy rule hg hm PyProof.Rows.boot_list ao (by decide) (by decide) st pl) rfl rfl rfl
    · exact EOk.ofF (i := .bi .dict _) (eo_callTy rule hg hm PyProof.Rows.boot_dict ao (by decide) (by decide) st pl) rfl rfl rfl
    · exact EOk.of (i := .bi .min _) (eo_callB rule hg hm PyProof.Rows.boot_min ao (by decide) (by decide) st pl) rfl rfl rfl rfl
    · exact EOk.of (i := .bi .max _) (eo_callB rule hg hm PyProof.Rows.boot_max ao (by decide) (by decide) st pl) rfl rfl rfl rfl
    · exact EOk.of (i := .bi .sum _) (eo_callB rule hg hm PyProof.Rows.boot_sum ao (by decide) (by decide) st pl) rfl rfl rfl rfl
    · exact EOk.of (i := .bi .any _) (eo_callB rule hg hm PyProof.Rows.boot_any ao (by decide) (by decide) st pl) rfl rfl rfl rfl
    · exact EOk.of (i := .bi .all _) (eo_callB rule hg hm PyProof.Rows.boot_all ao (by decide) (by decide) st pl) rfl rfl rfl rfl
    · exact EOk.of (i := .bi .abs _) (eo_callB rule hg hm (by decide +kernel) ao (by decide) (by decide) st pl) rfl rfl rfl rfl
    · exact EOk.of (i := .bi .int _) (eo_callTy rule hg hm PyProof.Rows.boot_int ao (by decide) (by decide) st pl) rfl rfl rfl rfl
    · exact EOk.of (i := .bi .str _) (eo_callTy rule hg hm PyProof.Rows.boot_str ao (by decide) (by decide) st pl) rfl rfl rfl rfl
theorem snd_listItems (C : Ctx X S cf) {es : Es} {o : Expr} {p apos cpos pos : Pos} (hb : blC S "list" = true) (h : EsOk X pw cf [o] es) (hp : plainO o = true) (hl : (apos.endLine == cpos.line) = true) :
    EOk X pw cf (.Call (.Name "list" p) [.Call (.Attribute o "items" apos) [] [] cpos] [] pos) (.bi .listItems es) := by
  obtain ⟨hg, hm⟩ := C.bl hb
  obtain ⟨e, rfl, h1, h2⟩ := one_es h
  exact EOk.ofF (i := .bi .listItems (.cons e .nil)) (eo_listItems C.calm h2.peek hg hm PyProof.Rows.boot_list (base_id hp) hl rfl) rfl rfl rfl
theorem snd_listRg (C : Ctx X S cf) {es : Es} {as : List Expr} {p q qq pos : Pos} (hb : blC S "list" = true) (hb2 : blC S "range" = true) (h : EsOk X pw cf as es) (hl : (as.length == 1 || as.length == 2) = true) :
    EOk X pw cf (.Call (.Name "list" p) [.Call (.Name "range" q) as [] qq] [] pos) (.bi .listRange es) := by
  obtain ⟨hg, hm⟩ := C.bl hb
  obtain ⟨hg2, hm2⟩ := C.bl hb2
  match as, h, hl with
  | [x], h, _ =>
    obtain ⟨e, rfl, h1, h2⟩ := one_es h
    exact EOk.ofF (i := .bi .listRange (.cons e .nil)) (eo_listRg1 C.calm hg hm hg2 hm2 h2.peek (se_cons h1) rfl) rfl rfl rfl
  | [x, y], h, _ =>
    obtain ⟨e, e2, rfl, h1, h2, h3, h4⟩ := two_es h
    exact EOk.ofF (i := .bi .listRange (.cons e (.cons e2 .nil))) (eo_listRg2 C.calm hg hm hg2 hm2 h2.peek h4.peek (se_cons h1) (se_cons h3) rfl) rfl rfl rfl
theorem snd_sortedSet (C : Ctx X S cf) {es : Es} {y : Expr} {p q qq pos : Pos} (hb : blC S "sorted" = true) (hb2 : blC S "set" = true) (h : EsOk X pw cf [y] es) :
    EOk X pw cf (.Call (.Name "sorted" p) [.Call (.Name "set" q) [y] [] qq] [] pos) (.bi .sortedSet es) := by
  obtain ⟨hg, hm⟩ := C.bl hb
  obtain ⟨hg2, hm2⟩ := C.bl hb2
  obtain ⟨e, rfl, h1, h2⟩ := one_es h
  exact EOk.ofF (i := .bi .sortedSet (.cons e .nil)) (eo_sortedSet C.calm C.hu hg hm hg2 hm2 h2.peek (se_cons h1)) rfl rfl rfl
theorem snd_lenSet (C : Ctx X S cf) {es : Es} {y : Expr} {p q qq pos : Pos} (hb : blC S "len" = true) (hb2 : blC S "set" = true) (h : EsOk X pw cf [y] es) :
    EOk X pw cf (.Call (.Name "len" p) [.Call (.Name "set" q) [y] [] qq] [] pos) (.bi .lenSet es) := by
  obtain ⟨hg, hm⟩ := C.bl hb
  obtain ⟨hg2, hm2⟩ := C.bl hb2
  obtain ⟨e, rfl, h1, h2⟩ := one_es h
  exact EOk.of (i := .bi .lenSet (.cons e .nil)) (eo_lenSet C.calm hg hm hg2 hm2 h2.peek (se_cons h1)) rfl rfl rfl rfl
theorem snd_get (C : Ctx X S cf) {oi : E} {es : Es} {o : Expr} {args : List Expr} {apos cpos : Pos} (ho : EOk X pw cf o oi) (h : EsOk X pw cf args es) (hp : plainO o = true) (hl : (apos.endLine == cpos.line) = true) (hz : (args.length == 1 || args.length == 2) = true) :
    EOk X pw cf (.Call (.Attribute o "get" apos) args [] cpos) (.me .get oi es) := by
  have hu : X.A.units + 1 < cLine := by have := C.hu; omega
  match args, h, hz with
  | [x], h, _ =>
    obtain ⟨e, rfl, h1, h2⟩ := one_es h
    have st := se_cons (es := []) (env := X.env) h1
    have m : M1 X o "get" apos x cpos := ⟨base_id hp, by rw [st]; rfl, hl, by rw [st]; rfl⟩
    exact EOk.of (i := .me .get oi (.cons e .nil)) (eo_get1 hu ho.peek h2.val m) rfl rfl rfl rfl
  | [x, y], h, _ =>
    obtain ⟨e, e2, rfl, h1, h2, h3, h4⟩ := two_es h
    have st := se_cons (es := [y]) (env := X.env) h1
    have st2 := se_cons (es := []) (env := X.env) h3
    have m : M2 X o "get" apos x y cpos := ⟨base_id hp, by rw [st, st2]; rfl, hl, by rw [st, st2]; rfl⟩
    exact EOk.of (i := .me .get oi (.cons e (.cons e2 .nil))) (eo_get2 hu ho.peek h2.val h4.val m) rfl rfl rfl rfl
theorem snd_isi (C : Ctx X S cf) {t : Ty} {ai : E} {y : Expr} {p q pos : Pos} (hb : blC S "isinstance" = true) (hb2 : blC S (tyS t) = true) (h : EOk X pw cf y ai) (hy : nst y = true) : EOk X pw cf (.Call (.Name "isinstance" p) [y, .Name (tyS t) q] [] pos) (.isi ai t) := by
  obtain ⟨hg, hm⟩ := C.bl hb
  obtain ⟨hg2, hm2⟩ := C.bl hb2
  exact EOk.of (i := .isi ai t) (eo_isi hg hm PyProof.Rows.boot_isinstance hg2 hm2 (by cases t <;> decide +kernel) (by cases t <;> decide) (by cases t <;> decide) h.peek (se_cons hy)) rfl rfl rfl rfl
theorem snd_call (C : Ctx X S cf) {f : Nat} {x : Str} {a : Expr} {as : List Expr} {es : Es} {p pos : Pos} (hf : S.fs[f]? = some (x, false)) (hg : glC S x = true) (hn : plainN x = true) (h : EsOk X pw cf (a :: as) es) : EOk X pw cf (.Call (.Name x p) (a :: as) [] pos) (.call f none es) := by
  obtain ⟨⟨k, fa, fd, ps, F, hr, hm, hk, hb⟩⟩ := C.fs f x false hf
  have main := eo_call (p := p) (pos := pos) F hr (C.gl hg) hm hk hb (h.ao false) (plainN_get hn).1 (by
    cases h with
    | cons h1 _ _ => exact se_cons h1) (by
    cases h with
    | cons _ _ h3 => exact pl_any h3.nst)
  have e : ev cf false (.call f none es) = fun Γ => W.bind (evEs cf false es Γ) fun ds => cf f ds := by
    funext Γ Q
    apply propext
    constructor
    · rintro ⟨_, _, h⟩
      exact h
    · intro h
      exact ⟨(), rfl, h⟩
  exact EOk.of (i := .call f none es) (by rw [e]; exact main) rfl rfl rfl rfl
theorem snd_callW (C : Ctx X S cf) {f i : Nat} {x y : Str} {as : List Expr} {es : Es} {p p2 pos : Pos} (hf : S.fs[f]? = some (x, true)) (hg : glC S x = true) (hn : plainN x = true) (hy : nmV S i y = true) (h : EsOk X pw cf as es) : EOk X pw cf (.Call (.Name x p) (.Name y p2 :: as) [] pos) (.call f (some i) es) := by
  obtain ⟨⟨k, fa, fd, ps, F, hr, hm, hk, hb⟩⟩ := C.fs f x true hf
  have nm := C.nm hy
  exact EOk.of (i := .call f (some i) es) (eo_callW nm.at_ nm.vis nm.d nm.c F hr (C.gl hg) hm hk hb (h.ao false) (plainN_get hn).1 (pl_any h.nst)) rfl rfl rfl rfl
theorem snd_next (C : Ctx X S cf) {i : Nat} {y : Str} {a : E} {z : Expr} {p p2 pos : Pos} (hx : S.nx = true) (hg : glC S "_law_next" = true) (hy : nmV S i y = true) (h : EOk X pw cf z a) (hz : nst z = true) : EOk X pw cf (.Call (.Name "_law_next" p) [.Name y p2, z] [] pos) (.next i a) := by
  obtain ⟨⟨k, fa, fd, ps, F, hr, hm, hk, hb⟩⟩ := C.nx hx
  have nm := C.nm hy
  exact EOk.of (i := .next i a) (eo_next nm.at_ nm.vis nm.d nm.c F hr (C.gl hg) hm hk hb h.val (by decide) (se_cons hz)) rfl rfl rfl rfl
theorem snd_slen (C : Ctx X S cf) {i : Nat} {y : Str} {p p2 pos : Pos} (hb : blC S "len" = true) (hy : nmV S i y = true) : EOk X pw cf (.Call (.Name "len" p) [.Name y p2] [] pos) (.slen i) := by
  obtain ⟨hg, hm⟩ := C.bl hb
  have nm := C.nm hy
  refine EOk.of (i := .slen i) (.by (pe_callB call_len hg hm PySem.boot_len (pa_cons (pe_var nm.at_ nm.vis nm.d nm.c) pa_nil)) fun σ H0 F H Γ R B hf => ?_) rfl rfl rfl rfl
  obtain ⟨ns, hn, hf⟩ := hf
  have h := B.e.slot i
  generalize get Γ i = sl at h hn
  cases sl <;> try (cases hn; done)
  cases hn
  obtain ⟨a, e1, q⟩ := h
  refine ⟨_, e1, _, _, rfl, .inl ⟨_, Same.sqL B.s q, rfl⟩, F, _, B.refl, ?_, hf⟩
  rw [List.length_map]
  exact Rp.int _
theorem snd_sat (C : Ctx X S cf) {i : Nat} {y : Str} {a : E} {z : Expr} {p2 pos : Pos} (hy : nmV S i y = true) (h : EOk X pw cf z a) (hz : notSlice z = true) : EOk X pw cf (.Subscript (.Name y p2) z pos) (.sat i a) := by
  have nm := C.nm hy
  refine EOk.of (i := .sat i a) (.by (pe_ix ix_list (pe_var nm.at_ nm.vis nm.d nm.c) h.val.pe (notSlice_eq hz)) fun σ H0 F H Γ R B hf => ?_) rfl rfl rfl rfl
  obtain ⟨ns, hn, hf⟩ := hf
  have q := B.e.slot i
  generalize get Γ i = sl at q hn
  cases sl <;> try (cases hn; done)
  cases hn
  obtain ⟨b, e1, q⟩ := q
  refine ⟨_, e1, H0, F, Γ, _, B, hf, fun x F1 H1 v hr st rs => ?_⟩
  obtain ⟨k, hk, m, hm, hr⟩ := hr
  cases x <;> try (cases hk; done)
  cases hk
  have rs : Rp X.K F1 v (.int k) := rs
  cases rs
  obtain ⟨_, h1, h2⟩ := Option.bind_eq_some_iff.mp hm
  have h1 := of_decide_eq_true (gd_some h1).1
  refine ⟨_, _, _, .int m, rfl, rfl, Same.sqL st.fh (Same.sqL st.f q), ?_, F1, _, st, .int m, hr⟩
  have lt := (List.getElem?_eq_some_iff.mp h2).1
  unfold L2.atI L2.ixN
  rw [List.length_map, if_pos h1, if_pos (by omega)]
  show (ns.map V.int)[k.toNat]? = _
  rw [List.getElem?_map, h2]
  rfl
/-- what is walked -/
theorem snd_it (C : Ctx X S cf) {k : Ik} {tg it : Expr} {xs : List Expr} {es : Es} (hi : itA S k tg it = some xs) (h : EsOk X pw cf xs es) :
    IO X pw tg it (pk k) (fun Γ => W.bind (evEs cf (pk k) es Γ) fun as => W.opt (walkD k as)) ∧ IO X pw tg it false (fun Γ => W.bind (evEs cf false es Γ) fun as => W.opt (walkD k as)) := by
  cases k with
  | seq =>
    cases hi
    obtain ⟨e, rfl, h1, h2⟩ := one_es h
    exact ⟨io_seq (k := true) h2.peek, io_seq (k := false) h2.val⟩
  | keys =>
    cases hi
    obtain ⟨e, rfl, h1, h2⟩ := one_es h
    exact ⟨io_keys h2.val, io_keys h2.val⟩
  | range =>
    unfold itA at hi
    dsimp only at hi
    split at hi
    · split at hi
      · rename_i x p args pos hc
        cases hi
        obtain ⟨c1, c2, c3⟩ := and3 hc
        have e := of_decide_eq_true c1
        subst e
        obtain ⟨hg, hm⟩ := C.bl c2
        match xs, h, c3 with
        | [a], h, _ =>
          obtain ⟨e, rfl, h1, h2⟩ := one_es h
          exact ⟨io_range1 hg hm (h.ao false) (se_cons h1), io_range1 hg hm (h.ao false) (se_cons h1)⟩
        | [a, b], h, _ =>
          obtain ⟨e, e2, rfl, h1, h2, h3, h4⟩ := two_es h
          have st := se_cons (es := [b]) (env := X.env) h1
          have st2 := se_cons (es := []) (env := X.env) h3
          exact ⟨io_range2 hg hm (h.ao false) (by rw [st, st2]; rfl) st2, io_range2 hg hm (h.ao false) (by rw [st, st2]; rfl) st2⟩
      · cases hi
    · cases hi
  | zip =>
    unfold itA at hi
    dsimp only at hi
    split at hi
    · split at hi
      · rename_i hc
        cases hi
        obtain ⟨c1, c2, c3⟩ := and3 hc
        have e := of_decide_eq_true c1
        subst e
        obtain ⟨hg, hm⟩ := C.bl c2
        match xs, h, c3 with
        | [a, b], h, _ =>
          obtain ⟨e, e2, rfl, h1, h2, h3, h4⟩ := two_es h
          have st := se_cons (es := [b]) (env := X.env) h1
          have st2 := se_cons (es := []) (env := X.env) h3
          exact ⟨io_zip hg hm (h.ao false) st (by rw [st2]; rfl), io_zip hg hm (h.ao false) st (by rw [st2]; rfl)⟩
      · cases hi
    · cases hi
  | enum =>
    unfold itA at hi
    dsimp only at hi
    split at hi
    · split at hi
      · rename_i hc
        cases hi
        obtain ⟨c1, c2, c3⟩ := and3 hc
        have e := of_decide_eq_true c1
        subst e
        obtain ⟨hg, hm⟩ := C.bl c2
        match xs, h, c3 with
        | [a], h, _ =>
          obtain ⟨e, rfl, h1, h2⟩ := one_es h
          exact ⟨io_enum hg hm (h.ao false) (se_cons h1), io_enum hg hm (h.ao false) (se_cons h1)⟩
      · cases hi
    · cases hi
  | items =>
    unfold itA at hi
    dsimp only at hi
    split at hi
    · split at hi
      · rename_i hc
        cases hi
        obtain ⟨c1, c2, c3⟩ := and3 hc
        have e := of_decide_eq_true c1
        subst e
        obtain ⟨e, rfl, h1, h2⟩ := one_es h
        exact ⟨io_items h2.val (base_id c2) c3, io_items h2.val (base_id c2) c3⟩
      · cases hi
    · cases hi
  | values =>
    unfold itA at hi
    dsimp only at hi
    split at hi
    · split at hi
      · rename_i hc
        cases hi
        obtain ⟨c1, c2, c3⟩ := and3 hc
        have e := of_decide_eq_true c1
        subst e
        obtain ⟨e, rfl, h1, h2⟩ := one_es h
        exact ⟨io_values h2.val (base_id c2) c3, io_values h2.val (base_id c2) c3⟩
      · cases hi
    · cases hi
end
end Ly

set_option maxRecDepth 100000
set_option maxHeartbeats 4000000
/-! What passes the check is so: comprehensions, all expressions. -/
namespace Ly
open PySem PySem.Spec PyProof.Rows L2
section
variable {cf : Nat → List D → W D} {pw : Option Addr}
theorem own_snd (S : Sc) (own : List Nat) : (own.map fun i => (S.N.getD i "", i)).map (·.2) = own := by
  rw [List.map_map]
  simp [Function.comp_def]
theorem subL_get {is js : List Nat} (h : subL is js = true) : ∀ i ∈ is, i ∈ js := fun i hi => by
  have := List.all_eq_true.mp h i hi
  simpa using this
theorem snd_comp1 {X : Cx} {S : Sc} (C : Ctx X S cf) {k : Ik} {own : List Nat} {t : Tg} {es ifs : Es} {el : E} {tg it elt : Expr} {fs : List Expr} {scope : Scope} {pos : Pos} (hio : IO X pw tg it (pk k) (fun Γ => W.bind (evEs cf (pk k) es Γ) fun as => W.opt (walkD k as)))
    (hb : blkC S.N S.sc scope (own.map fun i => (S.N.getD i "", i)) = true) (hif : ∀ X', Ctx X' (S.blk scope) cf → IfO X' pw fs (evIfs cf ifs)) (hel : ∀ X', Ctx X' (S.blk scope) cf → EO X' pw .val elt (ev cf false el)) (ht : chkT (S.blk scope) t tg = true) (hs : notSet it = true) (hw : subL (tgs t) own = true) :
    EOk X pw cf (.ListComp elt [⟨tg, it, fs, 0⟩] scope pos) (.comp own t k es ifs (.elt el)) := by
  have ok := blkOk_by hb
  have hN : X.N.Nodup := by rw [C.N]; exact C.nd
  have ok' : BlkOk X.N X.env.scope scope (own.map fun i => (S.N.getD i "", i)) := by rw [C.N, C.sc]; exact ok
  have cb := fun (s : Shared) (H : Hp) (A : Addr) (cl : List (Str × Addr)) (fp : List Addr) => C.blk ok.kind s H A cl fp
  have hw' : ∀ i ∈ tgs t, i ∈ (own.map fun i => (S.N.getD i "", i)).map (·.2) := by rw [own_snd]; exact subL_get hw
  have e1 := eo_lc (pos := pos) (elt := elt) (fe := ev cf false el) C.calm hN hio ok' (fun s H A cl fp => (cb s H A cl fp).go ht) (fun s H A cl fp => hif _ (cb s H A cl fp)) (fun s H A cl fp => hel _ (cb s H A cl fp)) (set_id hs) hw'
  have e2 := fun (i : Nat) (y : Str) (py spos : Pos) (hy : X.N[i]? = some y) (hyl : X.env.scope.names.lookup y = some .local) (hsw : swapsWith (.ListComp elt [⟨tg, it, fs, 0⟩] scope pos) (some (.Name y py)) spos.line X.env = pure true) =>
    so_setLc (pos := pos) (elt := elt) (fe := ev cf false el) C.calm hN hy hyl hsw hio ok' (fun s H A cl fp => (cb s H A cl fp).go ht) (fun s H A cl fp => hif _ (cb s H A cl fp)) (fun s H A cl fp => hel _ (cb s H A cl fp)) (set_id hs) hw'
  rw [own_snd] at e1
  refine ⟨e1.froz, e1.froz.look, fun _ => e1, to_plain e1.froz rfl, fun ⟨_, _, _, z⟩ => (by cases z), fun elt' gs sc' p' py j y spos z hy hyl hsw => ?_⟩
  cases z
  have := e2 j y py spos hy hyl hsw
  rw [own_snd] at this
  exact this
theorem snd_comp2 {X : Cx} {S : Sc} (C : Ctx X S cf) {k k1 : Ik} {own : List Nat} {t t1 : Tg} {es es1 ifs ifs1 : Es} {el : E} {tg it tg1 it1 elt : Expr} {fs fs1 : List Expr} {scope : Scope} {pos : Pos} (hio : IO X pw tg it (pk k) (fun Γ => W.bind (evEs cf (pk k) es Γ) fun as => W.opt (walkD k as)))
    (hb : blkC S.N S.sc scope (own.map fun i => (S.N.getD i "", i)) = true) (hif : ∀ X', Ctx X' (S.blk scope) cf → IfO X' pw fs (evIfs cf ifs)) (hif1 : ∀ X', Ctx X' (S.blk scope) cf → IfO X' pw fs1 (evIfs cf ifs1)) (hio1 : ∀ X', Ctx X' (S.blk scope) cf → IO X' pw tg1 it1 false (fun Γ => W.bind (evEs cf false es1 Γ) fun as => W.opt (walkD k1 as)))
    (hel : ∀ X', Ctx X' (S.blk scope) cf → EO X' pw .val elt (ev cf false el)) (ht : chkT (S.blk scope) t tg = true) (ht1 : chkT (S.blk scope) t1 tg1 = true) (hs : notSet it = true) (hs1 : notSet it1 = true) (hw : subL (tgs t) own = true) (hw1 : subL (tgs t1) own = true) :
    EOk X pw cf (.ListComp elt [⟨tg, it, fs, 0⟩, ⟨tg1, it1, fs1, 0⟩] scope pos) (.comp own t k es ifs (.gen t1 k1 es1 ifs1 (.elt el))) := by
  have ok := blkOk_by hb
  have hN : X.N.Nodup := by rw [C.N]; exact C.nd
  have ok' : BlkOk X.N X.env.scope scope (own.map fun i => (S.N.getD i "", i)) := by rw [C.N, C.sc]; exact ok
  have cb := fun (s : Shared) (H : Hp) (A : Addr) (cl : List (Str × Addr)) (fp : List Addr) => C.blk ok.kind s H A cl fp
  have hw' : ∀ i ∈ tgs t, i ∈ (own.map fun i => (S.N.getD i "", i)).map (·.2) := by rw [own_snd]; exact subL_get hw
  have hw1' : ∀ i ∈ tgs t1, i ∈ (own.map fun i => (S.N.getD i "", i)).map (·.2) := by rw [own_snd]; exact subL_get hw1
  have e1 := eo_lc2 (pos := pos) (elt := elt) (fe := ev cf false el) C.calm hN hio ok' (fun s H A cl fp => (cb s H A cl fp).go ht) (fun s H A cl fp => hif _ (cb s H A cl fp)) (fun s H A cl fp => hio1 _ (cb s H A cl fp)) (fun s H A cl fp => (cb s H A cl fp).go ht1) (fun s H A cl fp => hif1 _ (cb s H A cl fp)) (fun s H A cl fp => hel _ (cb s H A cl fp)) (set_id hs) (fun env => set_id hs1) hw' hw1'
  have e2 := fun (i : Nat) (y : Str) (py spos : Pos) (hy : X.N[i]? = some y) (hyl : X.env.scope.names.lookup y = some .local) (hsw : swapsWith (.ListComp elt [⟨tg, it, fs, 0⟩, ⟨tg1, it1, fs1, 0⟩] scope pos) (some (.Name y py)) spos.line X.env = pure true) =>
    so_setLc2 (pos := pos) (elt := elt) (fe := ev cf false el) C.calm hN hy hyl hsw hio ok' (fun s H A cl fp => (cb s H A cl fp).go ht) (fun s H A cl fp => hif _ (cb s H A cl fp)) (fun s H A cl fp => hio1 _ (cb s H A cl fp)) (fun s H A cl fp => (cb s H A cl fp).go ht1) (fun s H A cl fp => hif1 _ (cb s H A cl fp)) (fun s H A cl fp => hel _ (cb s H A cl fp)) (set_id hs) (fun env => set_id hs1) hw' hw1'
  rw [own_snd] at e1
  refine ⟨e1.froz, e1.froz.look, fun _ => e1, to_plain e1.froz rfl, fun ⟨_, _, _, z⟩ => (by cases z), fun elt' gs sc' p' py j y spos z hy hyl hsw => ?_⟩
  cases z
  have := e2 j y py spos hy hyl hsw
  rw [own_snd] at this
  exact this
theorem ok_cat {X : Cx} : OpOk X pw .fresh (binaryOp .Add) catD := by
  have : addL = catD := by
    funext x y
    cases x <;> cases y <;> rfl
  rw [← this]
  exact ok_addL
theorem bin_ok {X : Cx} {o : Bop} : OpOk X pw .val (binaryOp (bopOf o)) (binD o) := by
  have := ok_bin (X := X) (pw := pw) o
  cases o <;> exact this
mutual
theorem snd_E : ∀ (i : E) {X : Cx} {S : Sc} {e : Expr}, Ctx X S cf → chkE S i e = true → EOk X pw cf e i
  | .var i, X, S, e, C, h => by
    unfold chkE at h
    split at h
    · have nm := C.nm h
      exact ⟨eo_var nm.at_ nm.vis nm.d nm.c, eo_varP nm.at_ nm.vis nm.d nm.c, fun z => (by cases z), to_plain (eo_var nm.at_ nm.vis nm.d nm.c) rfl, fun ⟨_, _, _, z⟩ => (by cases z), fun _ _ _ _ _ _ _ _ z => (by cases z)⟩
    · cases h
  | .con d, X, S, e, C, h => snd_con h
  | .tup es, X, S, e, C, h => by
    unfold chkE at h
    split at h
    · obtain ⟨h1, h2⟩ := and_get h
      exact EOk.of (i := .tup es) (eo_tup ((snd_Es es C h1).ao false) (of_decide_eq_true h2)) rfl rfl rfl rfl
    · cases h
  | .lst es, X, S, e, C, h => by
    unfold chkE at h
    split at h
    · obtain ⟨h1, h2⟩ := and_get h
      exact EOk.ofF (i := .lst es) (eo_lst ((snd_Es es C h1).ao false) (of_decide_eq_true h2)) rfl rfl rfl
    · cases h
  | .dct es, X, S, e, C, h => by
    unfold chkE at h
    split at h
    · rename_i ks vs pos
      obtain ⟨h1, h2, h3⟩ := and3 h
      obtain ⟨ko, ha⟩ := snd_KV es C h1 pos
      cases ks with
      | nil =>
        cases vs with
        | nil =>
          have e0 : ev cf false (.dct es) = fun Γ => W.bind (W.ok []) fun ps => W.opt (gd (ps.all fun p => keyB p.1) (.dict (mergeD [] ps))) := by
            cases es with
            | nil => rfl
            | cons a b => cases b <;> (unfold chkKV at h1; simp at h1)
          exact EOk.ofF (i := .dct es) (by rw [e0]; exact eo_dct0) rfl rfl rfl
        | cons _ _ => simp at h2
      | cons k ks => exact EOk.ofF (i := .dct es) (eo_dct ko ha (of_decide_eq_true h2) (by simp) (of_decide_eq_true h3)) rfl rfl rfl
    · cases h
  | .bin o a b, X, S, e, C, h => by
    unfold chkE at h
    split at h
    · obtain ⟨h1, h2, h3⟩ := and3 h
      have e := of_decide_eq_true h1
      subst e
      exact EOk.of (i := .bin o a b) (eo_op bin_ok (snd_E a C h2).peek (snd_E b C h3).peek) rfl rfl rfl rfl
    · cases h
  | .neg a, X, S, e, C, h => by
    unfold chkE at h
    split at h
    · exact EOk.of (i := .neg a) (eo_neg (snd_E a C h).val) rfl rfl rfl rfl
    · cases h
  | .not a, X, S, e, C, h => by
    unfold chkE at h
    split at h
    · exact EOk.ofT (i := .not a) (eo_not (snd_E a C h).val) rfl rfl (tw_not (snd_E a C h).test).to (fun ⟨_, _, _, z⟩ => (by cases z)) rfl
    · cases h
  | .and a b, X, S, e, C, h => by
    unfold chkE at h
    split at h
    · rename_i x y rest pos
      obtain ⟨h1, h2⟩ := and_get h
      have ea := snd_E a C h1
      cases rest with
      | nil =>
        have eb := snd_E b C h2
        have tw := tw_and (pos := pos) ea.test (tw_and1 (op := .And) eb.test)
        exact EOk.ofT (i := .and a b) (eo_and ea.val (eo_one eb.val)) rfl rfl tw.to (fun _ => tw) rfl
      | cons z r =>
        have eb := snd_E b C h2
        have tw := tw_and (pos := pos) ea.test (eb.tw ⟨_, _, _, rfl⟩)
        exact EOk.ofT (i := .and a b) (eo_and ea.val eb.val) rfl rfl tw.to (fun _ => tw) rfl
    · cases h
  | .or a b, X, S, e, C, h => by
    unfold chkE at h
    split at h
    · rename_i x y rest pos
      obtain ⟨h1, h2⟩ := and_get h
      have ea := snd_E a C h1
      cases rest with
      | nil =>
        have eb := snd_E b C h2
        have tw := tw_or (pos := pos) ea.test (tw_and1 (op := .Or) eb.test)
        exact EOk.ofT (i := .or a b) (eo_or ea.val (eo_one eb.val)) rfl rfl tw.to (fun _ => tw) rfl
      | cons z r =>
        have eb := snd_E b C h2
        have tw := tw_or (pos := pos) ea.test (eb.tw ⟨_, _, _, rfl⟩)
        exact EOk.ofT (i := .or a b) (eo_or ea.val eb.val) rfl rfl tw.to (fun _ => tw) rfl
    · cases h
  | .cmp o a b, X, S, e, C, h => by
    unfold chkE at h
    split at h
    · obtain ⟨h0, h4⟩ := and_get h
      obtain ⟨h1, h2, h3⟩ := and3 h0
      have e := of_decide_eq_true h1
      subst e
      have hu : X.A.units + 66 < cLine := by have := C.hu; omega
      have hm := (show (!_) = true from h4)
      rw [Bool.not_eq_true'] at hm
      exact EOk.ofT (i := .cmp o a b) (eo_cmp hu (snd_E a C h2).peek (snd_E b C h3).peek hm) rfl rfl (to_cmp hu (snd_E a C h2).peek (snd_E b C h3).peek hm) (fun ⟨_, _, _, z⟩ => (by cases z)) rfl
    · cases h
  | .cmp2 o o2 a b c, X, S, e, C, h => by
    unfold chkE at h
    split at h
    · obtain ⟨h0, h6⟩ := and_get h
      obtain ⟨h0, h5⟩ := and_get h0
      obtain ⟨h0, h4⟩ := and_get h0
      obtain ⟨h1, h2, h3⟩ := and3 h0
      have e := of_decide_eq_true h1
      subst e
      have e := of_decide_eq_true h2
      subst e
      have hu : X.A.units + 66 < cLine := by have := C.hu; omega
      have hm := (show (!_) = true from h6)
      rw [Bool.not_eq_true'] at hm
      exact EOk.ofT (i := .cmp2 o o2 a b c) (eo_cmp2 hu (snd_E a C h3).peek (snd_E b C h4).peek (snd_E c C h5).peek hm) rfl rfl (to_cmp2 hu (snd_E a C h3).peek (snd_E b C h4).peek (snd_E c C h5).peek hm) (fun ⟨_, _, _, z⟩ => (by cases z)) rfl
    · cases h
  | .ite t a b, X, S, e, C, h => by
    unfold chkE at h
    split at h
    · rename_i pos
      obtain ⟨h1, h2, h3⟩ := and3 h
      have tw := tw_ite (pos := pos) (snd_E t C h1).test (snd_E a C h2).test (snd_E b C h3).test
      exact EOk.ofT (i := .ite t a b) (eo_ite (md := .val) (snd_E t C h1).test (snd_E a C h2).val (snd_E b C h3).val) rfl rfl tw.to (fun ⟨_, _, _, z⟩ => (by cases z)) rfl
    · cases h
  | .idx a i, X, S, e, C, h => by
    unfold chkE at h
    split at h
    · obtain ⟨h1, h2, h3⟩ := and3 h
      have hu : X.A.units + 66 < cLine := by have := C.hu; omega
      exact EOk.of (i := .idx a i) (eo_idx hu (snd_E a C h1).peek (snd_E i C h2).val h3) rfl rfl rfl rfl
    · cases h
  | .cut a lo hi, X, S, e, C, h => by
    unfold chkE at h
    split at h
    · obtain ⟨h1, h2, h3⟩ := and3 h
      exact EOk.of (i := .cut a lo hi) (eo_cut (snd_E a C h1).peek (snd_O lo C h2) (snd_O hi C h3)) rfl rfl rfl rfl
    · cases h
  | .rev _, _, _, _, _, h => by cases h
  | .comp own t k es ifs rest, X, S, e, C, h => by
    unfold chkE at h
    split at h
    · rename_i elt gs scope pos
      cases rest with
      | elt el =>
        split at h
        · rename_i hg
          cases hg
          obtain ⟨h, h7⟩ := and_get h
          obtain ⟨h, h6⟩ := and_get h
          obtain ⟨h, h5⟩ := and_get h
          obtain ⟨h, h4⟩ := and_get h
          obtain ⟨h1, h2, h3⟩ := and3 h
          unfold both at h1
          split at h1
          · rename_i xs hxs
            exact snd_comp1 C (snd_it C hxs (snd_Es es C h1)).1 h5 (fun X' C' => snd_If ifs C' h2) (fun X' C' => (snd_E el C' h4).val) h3 h6 h7
          · cases h1
        · rename_i hg
          cases hg
        · cases h
      | gen t1 k1 es1 ifs1 r1 =>
        split at h
        · rename_i hg
          cases hg
        · rename_i hg
          cases hg
          cases r1 with
          | elt el =>
            obtain ⟨h, h12⟩ := and_get h
            obtain ⟨h, h11⟩ := and_get h
            obtain ⟨h, h10⟩ := and_get h
            obtain ⟨h, h9⟩ := and_get h
            obtain ⟨h, h8⟩ := and_get h
            obtain ⟨h, h7⟩ := and_get h
            obtain ⟨h, h6⟩ := and_get h
            obtain ⟨h, h5⟩ := and_get h
            obtain ⟨h, h4⟩ := and_get h
            obtain ⟨h1, h2, h3⟩ := and3 h
            unfold both at h1
            split at h1
            · rename_i xs hxs
              unfold both at h4
              split at h4
              · rename_i xs1 hxs1
                exact snd_comp2 C (snd_it C hxs (snd_Es es C h1)).1 h8 (fun X' C' => snd_If ifs C' h2) (fun X' C' => snd_If ifs1 C' h5) (fun X' C' => (snd_it C' hxs1 (snd_Es es1 C' h4)).2) (fun X' C' => (snd_E el C' h7).val) h3 h6 h9 h10 h11 h12
              · cases h4
            · cases h1
          | gen _ _ _ _ _ => cases h
        · cases h
    · cases h
  | .bi f es, X, S, e, C, h => by
    unfold chkE at h
    split at h
    · rename_i x p args pos
      split at h
      · rename_i n hn
        obtain ⟨h, h4⟩ := and_get h
        obtain ⟨h1, h2, h3⟩ := and3 h
        have e := of_decide_eq_true h1
        subst e
        exact snd_bi C hn h2 (snd_Es es C h3) (of_decide_eq_true h4)
      · split at h
        · obtain ⟨h, h6⟩ := and_get h
          obtain ⟨h, h5⟩ := and_get h
          obtain ⟨h, h4⟩ := and_get h
          obtain ⟨h1, h2, h3⟩ := and3 h
          have e := of_decide_eq_true h1
          subst e
          have e := of_decide_eq_true h3
          subst e
          exact snd_listItems C h2 (snd_Es es C h4) h5 h6
        · obtain ⟨h, h6⟩ := and_get h
          obtain ⟨h, h5⟩ := and_get h
          obtain ⟨h, h4⟩ := and_get h
          obtain ⟨h1, h2, h3⟩ := and3 h
          have e := of_decide_eq_true h1
          subst e
          have e := of_decide_eq_true h3
          subst e
          exact snd_listRg C h2 h4 (snd_Es es C h5) h6
        · obtain ⟨h, h5⟩ := and_get h
          obtain ⟨h, h4⟩ := and_get h
          obtain ⟨h1, h2, h3⟩ := and3 h
          have e := of_decide_eq_true h1
          subst e
          have e := of_decide_eq_true h3
          subst e
          exact snd_sortedSet C h2 h4 (snd_Es es C h5)
        · obtain ⟨h, h5⟩ := and_get h
          obtain ⟨h, h4⟩ := and_get h
          obtain ⟨h1, h2, h3⟩ := and3 h
          have e := of_decide_eq_true h1
          subst e
          have e := of_decide_eq_true h3
          subst e
          exact snd_lenSet C h2 h4 (snd_Es es C h5)
        · cases h
    · cases h
  | .me m o es, X, S, e, C, h => by
    unfold chkE at h
    split at h
    · split at h
      · obtain ⟨h, h6⟩ := and_get h
        obtain ⟨h, h5⟩ := and_get h
        obtain ⟨h, h4⟩ := and_get h
        obtain ⟨h1, h2, h3⟩ := and3 h
        have e := of_decide_eq_true h1
        subst e
        exact snd_get C (snd_E o C h2) (snd_Es es C h3) h4 h5 h6
      · cases h
    · cases h
  | .isi a t, X, S, e, C, h => by
    unfold chkE at h
    split at h
    · obtain ⟨h, h6⟩ := and_get h
      obtain ⟨h, h5⟩ := and_get h
      obtain ⟨h, h4⟩ := and_get h
      obtain ⟨h1, h2, h3⟩ := and3 h
      have e := of_decide_eq_true h1
      subst e
      have e := of_decide_eq_true h3
      subst e
      exact snd_isi C h2 h4 (snd_E a C h5) h6
    · cases h
  | .call f w es, X, S, e, C, h => by
    unfold chkE at h
    split at h
    · rename_i x p args pos
      obtain ⟨h, h4⟩ := and_get h
      obtain ⟨h1, h2, h3⟩ := and3 h
      have hf := of_decide_eq_true h1
      cases w with
      | none =>
        cases args with
        | nil => cases h4
        | cons a as => exact snd_call C hf h2 h3 (snd_Es es C h4)
      | some i =>
        cases args with
        | nil => cases h4
        | cons a as =>
          cases a <;> try (cases h4; done)
          obtain ⟨h5, h6⟩ := and_get h4
          exact snd_callW C hf h2 h3 h5 (snd_Es es C h6)
    · cases h
  | .next i a, X, S, e, C, h => by
    unfold chkE at h
    split at h
    · obtain ⟨h, h6⟩ := and_get h
      obtain ⟨h, h5⟩ := and_get h
      obtain ⟨h, h4⟩ := and_get h
      obtain ⟨h1, h2, h3⟩ := and3 h
      have e := of_decide_eq_true h1
      subst e
      exact snd_next C h2 h3 h4 (snd_E a C h5) h6
    · cases h
  | .cat a b, X, S, e, C, h => by
    unfold chkE at h
    split at h
    · obtain ⟨h1, h2⟩ := and_get h
      exact EOk.ofF (i := .cat a b) (eo_op ok_cat (snd_E a C h1).peek (snd_E b C h2).peek) rfl rfl rfl
    · cases h
  | .slen i, X, S, e, C, h => by
    unfold chkE at h
    split at h
    · obtain ⟨h1, h2, h3⟩ := and3 h
      have e := of_decide_eq_true h1
      subst e
      exact snd_slen C h2 h3
    · cases h
  | .sat i a, X, S, e, C, h => by
    unfold chkE at h
    split at h
    · obtain ⟨h1, h2, h3⟩ := and3 h
      exact snd_sat C h1 (snd_E a C h2) h3
    · cases h
theorem snd_Es : ∀ (es : Es) {X : Cx} {S : Sc} {xs : List Expr}, Ctx X S cf → chkEs S es xs = true → EsOk X pw cf xs es
  | .nil, X, S, xs, C, h => by
    unfold chkEs at h
    split at h
    · exact .nil
    · cases h
  | .cons e es, X, S, xs, C, h => by
    unfold chkEs at h
    split at h
    · obtain ⟨h1, h2, h3⟩ := and3 h
      exact .cons h2 (snd_E e C h1) (snd_Es es C h3)
    · cases h
theorem snd_O : ∀ (es : Es) {X : Cx} {S : Sc} {x : Option Expr}, Ctx X S cf → chkO S es x = true → OO X pw x (evO cf es)
  | .nil, X, S, x, C, h => by
    unfold chkO at h
    split at h
    · exact oo_none
    · cases h
  | .cons e es, X, S, x, C, h => by
    unfold chkO at h
    split at h
    · exact oo_some (snd_E e C h).val
    · cases h
theorem snd_KV : ∀ (es : Es) {X : Cx} {S : Sc} {ks : List (Option Expr)} {vs : List Expr}, Ctx X S cf → chkKV S es ks vs = true → ∀ pos : Pos, KO X pw pos ks vs (evKV cf es) ∧ ks.all (·.isSome) = true
  | .nil, X, S, ks, vs, C, h => by
    unfold chkKV at h
    split at h
    · exact fun pos => ⟨ko_nil, rfl⟩
    · cases h
  | .cons k .nil, X, S, ks, vs, C, h => by
    unfold chkKV at h
    cases h
  | .cons k (.cons v es), X, S, ks, vs, C, h => by
    unfold chkKV at h
    dsimp only at h
    split at h
    · obtain ⟨h1, h2, h3⟩ := and3 h
      intro pos
      obtain ⟨q1, q2⟩ := snd_KV es C h3 pos
      exact ⟨ko_cons (snd_E k C h1).val (snd_E v C h2).val q1, by rw [List.all_cons, q2]; rfl⟩
    · cases h
theorem snd_If : ∀ (es : Es) {X : Cx} {S : Sc} {xs : List Expr}, Ctx X S cf → chkIf S es xs = true → IfO X pw xs (evIfs cf es)
  | .nil, X, S, xs, C, h => by
    unfold chkIf at h
    split at h
    · exact ifo_nil
    · cases h
  | .cons e es, X, S, xs, C, h => by
    unfold chkIf at h
    split at h
    · exact ifo_one (snd_E e C h).test
    · cases h
end
end
end Ly

set_option maxRecDepth 100000
set_option maxHeartbeats 4000000
/-! The check of statements, and that it is sound. -/
namespace Ly
open PySem PySem.Spec PyProof.Rows L2
def notTup : Expr → Bool
  | .Tuple .. => false
  | _ => true
def isLc : Expr → Bool
  | .ListComp .. => true
  | _ => false
/-- several names at once: how they are stored -/
def parC (S : Sc) (ts vs : List Expr) (is : List Nat) : Bool := match swN S.sc ts vs with
  | some none => nmAll S ts is && decide (vs.length = is.length) && decide (is.length ≤ 1000)
  | some (some ns) => match ts, vs, is with
    | [.Name x _, .Name y _], [_, _], [i, j] => decide (ns = [x, y]) && decide (S.N[i]? = some x) && decide (S.N[j]? = some y) && decide (i ≠ j) && isLoc (S.sc.names.lookup x) && isLoc (S.sc.names.lookup y)
    | [.Name x _, .Name y _, .Name z _], [_, _, _], [i, j, l] => decide (ns = [x, y, z]) && decide (S.N[i]? = some x) && decide (S.N[j]? = some y) && decide (S.N[l]? = some z) && decide (i ≠ j) && decide (i ≠ l) && decide (j ≠ l) &&
      isLoc (S.sc.names.lookup x) && isLoc (S.sc.names.lookup y) && isLoc (S.sc.names.lookup z)
    | _, _, _ => false
  | none => false
mutual
def chkS : Sc → Ly.S → Stmt → Bool
  | S, .asg t e, st => match st with
    | .Assign [tg] v _ => match t, tg with
      | .name j, .Name y _ => stC S j y && chkE S e v && (nocomp v || isLc v)
      | .tup is, .Tuple ts _ _ => nmAll S ts is && chkE S e v && notTup v
      | _, _ => false
    | _ => false
  | S, .par is es, st => match st with
    | .Assign [.Tuple ts _ _] (.Tuple vs _ _) _ => chkEs S es vs && parC S ts vs is
    | _ => false
  | S, .aug i o e, st => match st with
    | .AugAssign (.Name x _) op v _ => decide (op = bopOf o) && nmV S i x && stC S i x && chkE S e v && decide (o ≠ .pow)
    | _ => false
  | S, .put i k v, st => match st with
    | .Assign [.Subscript (.Name x _) a _] b _ => nmV S i x && chkE S k a && chkE S v b
    | _ => false
  | S, .lset i k v, st => match st with
    | .Assign [.Subscript (.Name x _) a _] b _ => nmV S i x && chkE S k a && chkE S v b && notSlice a
    | _ => false
  | S, .append i e, st => match st with
    | .Expr (.Call (.Attribute (.Name x _) m apos) [v] [] cpos) _ => decide (m = "append") && nmV S i x && chkE S e v && nst v && (apos.endLine == cpos.line)
    | _ => false
  | S, .extend i e, st => match st with
    | .Expr (.Call (.Attribute (.Name x _) m apos) [v] [] cpos) _ => decide (m = "extend") && nmV S i x && chkE S e v && nst v && (apos.endLine == cpos.line)
    | _ => false
  | S, .ret e, st => match st with
    | .Return (some v) _ => chkE S e v
    | _ => false
  | S, .ite t a b, st => match st with
    | .If c xs ys _ => chkE S t c && chkSs S a xs && chkSs S b ys
    | _ => false
  | S, .for t k es ks b, st => match st with
    | .For tg it body [] _ => both (itA S k tg it) (chkEs S es) && chkT S t tg && chkSs S b body && notSet it
    | _ => false
  | S, .while n t ks b, st => match st with
    | .While c body [] _ => chkE S t c && chkSs S b body
    | _ => false
  | _, .brk, st => match st with
    | .Break _ => true
    | _ => false
  | _, _, _ => false
def chkSs : Sc → Ss → List Stmt → Bool
  | _, .nil, sts => match sts with
    | [] => true
    | _ => false
  | S, .cons s ss, sts => match s with
    | .freeze _ => chkSs S ss sts
    | _ => match sts with
      | st :: r => chkS S s st && chkSs S ss r
      | _ => false
end
theorem isLoc_get {o : Option NameKind} (h : isLoc o = true) : o = some .local := by
  cases o with
  | none => cases h
  | some k => cases k <;> first | rfl | cases h
section
variable {cf : Nat → List D → W D} {pw : Option Addr}
theorem sw_tup {v : Expr} {ts : List Expr} {k l : Nat} {p : Pos} {env : PySem.Env} : swapsWithSole [.Tuple ts k p] v l env = pure false := by cases v <;> rfl
theorem sw_sub {v a b : Expr} {p : Pos} {l : Nat} {env : PySem.Env} : swapsWith v (some (.Subscript a b p)) l env = pure false := by cases v <;> rfl
theorem sw_sub2 {v a b : Expr} {p : Pos} {l : Nat} {env : PySem.Env} : swapsWithSole [.Subscript a b p] v l env = pure false := by cases v <;> rfl
theorem sst_sub {v a b : Expr} {p : Pos} {env : PySem.Env} : swappedStores [.Subscript a b p] v env = pure none := by cases v <;> rfl
theorem sst_no {v : Expr} {ts : List Expr} {k : Nat} {p : Pos} {env : PySem.Env} (h : notTup v = true) : swappedStores [.Tuple ts k p] v env = pure none := by cases v <;> first | rfl | cases h
theorem lc_fresh {S : Sc} {e : E} {elt : Expr} {gs : List Comprehension} {sc : Scope} {p : Pos} (h : chkE S e (.ListComp elt gs sc p) = true) : fresh e = true := by
  cases e <;> first | rfl | (unfold chkE at h; cases h; done) | skip
  rename_i d
  unfold chkE at h
  cases d <;> cases h
theorem snd_asg {X : Cx} {S : Sc} (C : Ctx X S cf) {j : Nat} {y : Str} {py pos : Pos} {v : Expr} {e : E} (hs : stC S j y = true) (he : EOk X pw cf v e) (hce : chkE S e v = true) (hc : (nocomp v || isLc v) = true) : SO X pw (.Assign [.Name y py] v pos) (evS cf (.asg (.name j) e)) := by
  obtain ⟨h1, h2, h3⟩ := C.st hs
  have hN : X.N.Nodup := by rw [C.N]; exact C.nd
  have fin : swapsWith v (some (.Name y py)) pos.line X.env = pure false → SO X pw (.Assign [.Name y py] v pos) (evS cf (.asg (.name j) e)) := fun hw => by
    cases q : fresh e with
    | true =>
      have e1 : evS cf (.asg (.name j) e) = fun κ Γ => ev cf false e Γ fun d => κ.nx (Γ.set j (.own d)) := by
        funext κ Γ
        simp only [evS, q, if_true]
      rw [e1]
      exact so_setOwn hN h1 h2 (he.fr q) hw h3
    | false =>
      have e1 : evS cf (.asg (.name j) e) = fun κ Γ => ev cf false e Γ fun d => κ.nx (Γ.set j (.val d)) := by
        funext κ Γ
        simp only [evS, q, if_false, Bool.false_eq_true]
      rw [e1]
      exact so_set hN h1 h2 he.val hw h3
  rw [Bool.or_eq_true] at hc
  rcases hc with hc | hc
  · exact fin (sw_no hc)
  · cases v <;> try (cases hc; done)
    rename_i elt gs scope p2
    cases q : swC X.env.scope scope y py p2 with
    | false => exact fin (sw_no2 q)
    | true =>
      obtain ⟨g1, g2⟩ := sw_yes (elt := elt) (gs := gs) (l := pos.line) (by rw [C.sc]; exact C.kind) q
      have main := he.st elt gs scope p2 py j y pos rfl h1 g1 g2
      cases q2 : fresh e with
      | true =>
        have e1 : evS cf (.asg (.name j) e) = fun κ Γ => ev cf false e Γ fun d => κ.nx (Γ.set j (.own d)) := by
          funext κ Γ
          simp only [evS, q2, if_true]
        rw [e1]
        exact main
      | false =>
        rw [lc_fresh hce] at q2
        cases q2
theorem snd_par {X : Cx} {S : Sc} (C : Ctx X S cf) {ts vs : List Expr} {is : List Nat} {es : Es} {k k2 : Nat} {p p2 pos : Pos} (h : EsOk X pw cf vs es) (hp : parC S ts vs is = true) : SO X pw (.Assign [.Tuple ts k p] (.Tuple vs k2 p2) pos) (evS cf (.par is es)) := by
  have hN : X.N.Nodup := by rw [C.N]; exact C.nd
  have am := h.am
  unfold parC at hp
  split at hp
  · rename_i hw
    obtain ⟨h1, h2, h3⟩ := and3 hp
    exact so_parT C.calm hN (C.nms h1) am (of_decide_eq_true h2) (of_decide_eq_true h3) sw_tup (swN_eq (by rw [C.sc]; exact C.kind) (by rw [C.sc]; exact hw))
  · rename_i ns hw
    split at hp
    · rename_i x px y py a b i j
      obtain ⟨hp, h6⟩ := and_get hp
      obtain ⟨hp, h5⟩ := and_get hp
      obtain ⟨hp, h4⟩ := and_get hp
      obtain ⟨h1, h2, h3⟩ := and3 hp
      have e := of_decide_eq_true h1
      subst e
      exact so_par2 C.calm hN (by rw [C.N]; exact of_decide_eq_true h2) (by rw [C.N]; exact of_decide_eq_true h3) (of_decide_eq_true h4) (by rw [C.sc]; exact isLoc_get h5) (by rw [C.sc]; exact isLoc_get h6) am (swN_eq (by rw [C.sc]; exact C.kind) (by rw [C.sc]; exact hw)) sw_tup
    · rename_i x px y py z pz a b c i j l
      obtain ⟨hp, h10⟩ := and_get hp
      obtain ⟨hp, h9⟩ := and_get hp
      obtain ⟨hp, h8⟩ := and_get hp
      obtain ⟨hp, h7⟩ := and_get hp
      obtain ⟨hp, h6⟩ := and_get hp
      obtain ⟨hp, h5⟩ := and_get hp
      obtain ⟨hp, h4⟩ := and_get hp
      obtain ⟨h1, h2, h3⟩ := and3 hp
      have e := of_decide_eq_true h1
      subst e
      exact so_par3 C.calm hN (by rw [C.N]; exact of_decide_eq_true h2) (by rw [C.N]; exact of_decide_eq_true h3) (by rw [C.N]; exact of_decide_eq_true h4) (of_decide_eq_true h5) (of_decide_eq_true h6) (of_decide_eq_true h7) (by rw [C.sc]; exact isLoc_get h8) (by rw [C.sc]; exact isLoc_get h9) (by rw [C.sc]; exact isLoc_get h10) am
        (swN_eq (by rw [C.sc]; exact C.kind) (by rw [C.sc]; exact hw)) sw_tup
    · cases hp
  · cases hp
mutual
theorem snd_S : ∀ (s : Ly.S) {X : Cx} {S : Sc} {st : Stmt}, Ctx X S cf → PassesOwn (model X.prog X.w) X.A X.env X.xe → chkS S s st = true → SO X pw st (evS cf s)
  | .asg t e, X, S, st, C, hp, h => by
    unfold chkS at h
    split at h
    · split at h
      · obtain ⟨h1, h2, h3⟩ := and3 h
        exact snd_asg C h1 (snd_E e C h2) h2 h3
      · obtain ⟨h1, h2, h3⟩ := and3 h
        have q := C.nms h1
        have hN : X.N.Nodup := by rw [C.N]; exact C.nd
        exact so_unpack (go_tup C.calm q.names.1 (q.gos hN)) (snd_E e C h2).val sw_tup (sst_no h3) rfl
      · cases h
    · cases h
  | .par is es, X, S, st, C, hp, h => by
    unfold chkS at h
    split at h
    · obtain ⟨h1, h2⟩ := and_get h
      exact snd_par C (snd_Es es C h1) h2
    · cases h
  | .aug i o e, X, S, st, C, hp, h => by
    unfold chkS at h
    split at h
    · obtain ⟨h, h5⟩ := and_get h
      obtain ⟨h, h4⟩ := and_get h
      obtain ⟨h1, h2, h3⟩ := and3 h
      have e := of_decide_eq_true h1
      subst e
      have hN : X.N.Nodup := by rw [C.N]; exact C.nd
      obtain ⟨g1, g2, g3⟩ := C.st h3
      exact so_aug h5 hN (C.nm h2) g2 g3 (snd_E _ C h4).val
    · cases h
  | .put i k v, X, S, st, C, hp, h => by
    unfold chkS at h
    split at h
    · obtain ⟨h1, h2, h3⟩ := and3 h
      exact so_put (by have := C.hu; omega) (C.nm h1) (snd_E k C h2).val (snd_E v C h3).val sw_sub
    · cases h
  | .lset i k v, X, S, st, C, hp, h => by
    unfold chkS at h
    split at h
    · obtain ⟨h, h4⟩ := and_get h
      obtain ⟨h1, h2, h3⟩ := and3 h
      exact so_lset h4 (C.nm h1) (snd_E k C h2).val (snd_E v C h3).val sw_sub2 sst_sub
    · cases h
  | .append i e, X, S, st, C, hp, h => by
    unfold chkS at h
    split at h
    · obtain ⟨h, h5⟩ := and_get h
      obtain ⟨h, h4⟩ := and_get h
      obtain ⟨h1, h2, h3⟩ := and3 h
      have e := of_decide_eq_true h1
      subst e
      exact so_append (C.nm h2) (snd_E _ C h3).val (base_id rfl) (se_cons h4) h5
    · cases h
  | .extend i e, X, S, st, C, hp, h => by
    unfold chkS at h
    split at h
    · obtain ⟨h, h5⟩ := and_get h
      obtain ⟨h, h4⟩ := and_get h
      obtain ⟨h1, h2, h3⟩ := and3 h
      have e := of_decide_eq_true h1
      subst e
      exact so_extend (C.nm h2) (snd_E _ C h3).peek (base_id rfl) (se_cons h4) h5
    · cases h
  | .ret e, X, S, st, C, hp, h => by
    unfold chkS at h
    split at h
    · exact so_ret (snd_E e C h).val
    · cases h
  | .ite t a b, X, S, st, C, hp, h => by
    unfold chkS at h
    split at h
    · obtain ⟨h1, h2, h3⟩ := and3 h
      exact so_ite (snd_E t C h1).test (snd_Ss a C hp h2) (snd_Ss b C hp h3)
    · cases h
  | .for t k es ks b, X, S, st, C, hp, h => by
    unfold chkS at h
    split at h
    · obtain ⟨h, h4⟩ := and_get h
      obtain ⟨h1, h2, h3⟩ := and3 h
      unfold both at h1
      split at h1
      · rename_i xs hxs
        exact so_for hp C.calm (snd_it C hxs (snd_Es es C h1)).2 (C.go h2) (snd_Ss b C hp h3) (set_id h4)
      · cases h1
    · cases h
  | .while n t ks b, X, S, st, C, hp, h => by
    unfold chkS at h
    split at h
    · obtain ⟨h1, h2⟩ := and_get h
      exact so_while hp (snd_E t C h1).test (snd_Ss b C hp h2)
    · cases h
  | .brk, X, S, st, C, hp, h => by
    unfold chkS at h
    split at h
    · exact so_break
    · cases h
  | .augput _ _ _ _, X, S, st, C, hp, h => by unfold chkS at h; cases h
  | .pop _ _ _, X, S, st, C, hp, h => by unfold chkS at h; cases h
  | .remove _ _, X, S, st, C, hp, h => by unfold chkS at h; cases h
  | .insert _ _ _, X, S, st, C, hp, h => by unfold chkS at h; cases h
  | .update _ _, X, S, st, C, hp, h => by unfold chkS at h; cases h
  | .freeze _, X, S, st, C, hp, h => by unfold chkS at h; cases h
theorem snd_Ss : ∀ (ss : Ss) {X : Cx} {S : Sc} {sts : List Stmt}, Ctx X S cf → PassesOwn (model X.prog X.w) X.A X.env X.xe → chkSs S ss sts = true → SsO X pw sts (evSs cf ss)
  | .nil, X, S, sts, C, hp, h => by
    unfold chkSs at h
    split at h
    · exact sso_nil
    · cases h
  | .cons s ss, X, S, sts, C, hp, h => by
    unfold chkSs at h
    split at h
    · exact sso_freeze (snd_Ss ss C hp h)
    · split at h
      · obtain ⟨h1, h2⟩ := and_get h
        exact sso_cons (f := evS cf s) (g := evSs cf ss) (snd_S s C hp h1) (snd_Ss ss C hp h2)
      · cases h
end
end
end Ly

set_option maxRecDepth 100000
set_option maxHeartbeats 4000000
/-! The defs of a text, all together. -/
namespace Ly
open PySem PySem.Spec PyProof.Rows L2
/-- a def: its name, its text, its small syntax, its names -/
structure Df where
  x : Str
  st : Stmt
  fn : Fn
  N : List Str
def Df.ps (d : Df) : List Str := d.N.take (d.fn.ar + (if d.fn.w then 1 else 0))
def nodupB : List Str → Bool
  | [] => true
  | x :: r => !(r.contains x) && nodupB r
theorem nodupB_get : ∀ {l : List Str}, nodupB l = true → l.Nodup
  | [], _ => List.nodup_nil
  | x :: r, h => by
    unfold nodupB at h
    obtain ⟨h1, h2⟩ := and_get h
    refine List.nodup_cons.mpr ⟨fun z => ?_, nodupB_get h2⟩
    have h1 := (show (!_) = true from h1)
    rw [Bool.not_eq_true'] at h1
    have : r.contains x = true := by simpa using z
    rw [h1] at this
    cases this
def isFree : NameKind → Bool
  | .free => true
  | _ => false
def isFun : ScopeKind → Bool
  | .function => true
  | _ => false
/-- the scope of a def -/
def fsC (N P : List Str) (sc : Scope) : Bool := isFun sc.kind && !sc.isCoroutine && !sc.isGenerator && nodupB N && decide (N.take P.length = P) && (P.all fun x => locB (sc.names.lookup x)) && (sc.names.all fun y => !(isFree y.2))
theorem fsC_get {N P : List Str} {sc : Scope} (h : fsC N P sc = true) : FnScope N P sc := by
  unfold fsC at h
  obtain ⟨h, h7⟩ := and_get h
  obtain ⟨h, h6⟩ := and_get h
  obtain ⟨h, h5⟩ := and_get h
  obtain ⟨h, h4⟩ := and_get h
  obtain ⟨h1, h2, h3⟩ := and3 h
  refine ⟨?_, by simpa using h2, by simpa using h3, nodupB_get h4, of_decide_eq_true h5, fun x hx => ?_, fun y hy z => ?_⟩
  · revert h1
    cases sc.kind <;> intro h <;> first | rfl | cases h
  · have q := List.all_eq_true.mp h6 x hx
    revert q
    cases sc.names.lookup x with
    | none => intro h; cases h
    | some k => cases k <;> intro h <;> first | exact .inl rfl | exact .inr rfl | cases h
  · have q := List.all_eq_true.mp h7 y hy
    rw [z] at q
    cases q
def Df.sc (d : Df) (fs : List (Str × Bool)) (bs : List Str) : Sc := ⟨d.N, defScope d.st, fun _ => true, fs, bs, true⟩
def chkD (fs : List (Str × Bool)) (bs : List Str) (d : Df) : Bool := fsC d.N d.ps (defScope d.st) && decide (d.fn.n = d.N.length) && decide (d.fn.ar + (if d.fn.w then 1 else 0) ≤ d.N.length) && chkSs (d.sc fs bs) d.fn.body (defBody d.st)
def Df.sig (d : Df) : Str × Bool := (d.x, d.fn.w)
section
variable {P : Program} {w : World} {K : Frag} {mg : Str → Option Value} {base : Heap}
/-- the slots at a def's start -/
theorem start_ok {n : Nat} {d : Df} {F H : Hp} {pw : Option Addr} {xs : List V} {ds : List D} {vs : List V} (hn : d.fn.n = d.N.length) (ha : d.fn.ar + (if d.fn.w then 1 else 0) ≤ d.N.length) (hs : Same F H) (hw : WOk F H pw) (r : RpL K F xs ds) (hl : ds.length = d.fn.ar)
    (hv : if d.fn.w then ∃ p, pw = some p ∧ vs = .ref p :: xs else vs = xs) : Base K pw H F H (L2.start d.N vs) (Ly.start d.fn ds) ∧ (L2.start d.N vs).length = d.N.length := by
  have lx : xs.length = d.fn.ar := by rw [r.length, hl]
  have gv : ∀ (i : Nat) (ys : List V) (m : Nat), (ys.map some ++ List.replicate m (none : Option V))[i]? = if i < ys.length then (ys[i]?).map some else (if i < ys.length + m then some none else none) := fun i ys m => by
    by_cases h : i < ys.length
    · rw [if_pos h, List.getElem?_append_left (by simpa using h), List.getElem?_map]
    · rw [if_neg h, List.getElem?_append_right (by simpa using h)]
      by_cases h2 : i < ys.length + m
      · rw [if_pos h2, List.getElem?_replicate, if_pos (by rw [List.length_map]; omega)]
      · rw [if_neg h2, List.getElem?_replicate, if_neg (by rw [List.length_map]; omega)]
  have key : ∀ (i : Nat) (m : Nat) (sl : Sl), get (ds.map Sl.val ++ List.replicate m Sl.non) i = sl → (sl = .non ∨ ∃ d v, sl = .val d ∧ ds[i]? = some d ∧ xs[i]? = some v ∧ Rp K F v d) := fun i m sl e => by
    unfold get at e
    rw [List.getD_eq_getElem?_getD] at e
    by_cases h : i < ds.length
    · rw [List.getElem?_append_left (by simpa using h), List.getElem?_map] at e
      obtain ⟨dd, hd⟩ : ∃ dd, ds[i]? = some dd := ⟨ds[i], by simp [h]⟩
      obtain ⟨v, hv, rv⟩ := r.get hd
      rw [hd] at e
      exact .inr ⟨dd, v, e.symm, hd, hv, rv⟩
    · rw [List.getElem?_append_right (by simpa using h), List.getElem?_replicate] at e
      refine .inl ?_
      rw [← e]
      split <;> rfl
  cases hw' : d.fn.w with
  | false =>
    rw [hw'] at hv ha
    simp only [if_false, Bool.false_eq_true] at hv ha
    subst hv
    have es : Ly.start d.fn ds = ds.map Sl.val ++ List.replicate (d.fn.n - d.fn.ar) Sl.non := by
      unfold Ly.start
      rw [hw']
      simp
    have eL : (L2.start d.N vs).length = d.N.length := by
      unfold L2.start
      rw [List.length_append, List.length_map, List.length_replicate]
      omega
    refine ⟨⟨hs, hw, ⟨?_, fun i => ?_, fun i j d1 d2 q h1 h2 _ _ => ?_⟩⟩, eL⟩
    · rw [es, eL, List.length_append, List.length_map, List.length_replicate, hl]
      omega
    · rw [es]
      rcases key i (d.fn.n - d.fn.ar) _ rfl with z | ⟨dd, v, z, hd, hv, rv⟩
      · rw [z]; trivial
      · rw [z]
        refine ⟨v, ?_, rv⟩
        unfold L2.start
        rw [gv, if_pos (List.getElem?_eq_some_iff.mp hv).1, hv]
        rfl
    · rw [es] at h1
      rcases key i (d.fn.n - d.fn.ar) _ h1 with z | ⟨dd, v, z, _⟩ <;> cases z
  | true =>
    rw [hw'] at hv ha
    simp only [if_true] at hv ha
    obtain ⟨q, rfl, rfl⟩ := hv
    have es : Ly.start d.fn ds = Sl.obj :: (ds.map Sl.val ++ List.replicate (d.fn.n - d.fn.ar - 1) Sl.non) := by
      unfold Ly.start
      rw [hw']
      simp
    have eL : (L2.start d.N (.ref q :: xs)).length = d.N.length := by
      unfold L2.start
      rw [List.length_append, List.length_map, List.length_replicate, List.length_cons]
      omega
    have eS : L2.start d.N (.ref q :: xs) = some (.ref q) :: (xs.map some ++ List.replicate (d.N.length - (xs.length + 1)) none) := by
      unfold L2.start
      simp
    have g0 : ∀ i, get (Sl.obj :: (ds.map Sl.val ++ List.replicate (d.fn.n - d.fn.ar - 1) Sl.non)) (i + 1) = get (ds.map Sl.val ++ List.replicate (d.fn.n - d.fn.ar - 1) Sl.non) i := fun i => by
      unfold get
      simp [List.getD]
    refine ⟨⟨hs, hw, ⟨?_, fun i => ?_, fun i j d1 d2 p h1 h2 _ _ => ?_⟩⟩, eL⟩
    · rw [es, eL, List.length_cons, List.length_append, List.length_map, List.length_replicate, hl]
      omega
    · rw [es]
      cases i with
      | zero =>
        show ∃ p, (L2.start d.N (.ref q :: xs))[0]? = some (some (.ref p)) ∧ some q = some p
        exact ⟨q, by rw [eS]; rfl, rfl⟩
      | succ i =>
        rw [g0]
        rcases key i (d.fn.n - d.fn.ar - 1) _ rfl with z | ⟨dd, v, z, hd, hv, rv⟩
        · rw [z]; trivial
        · rw [z]
          refine ⟨v, ?_, rv⟩
          rw [eS, List.getElem?_cons_succ, gv, if_pos (List.getElem?_eq_some_iff.mp hv).1, hv]
          rfl
    · rw [es] at h1
      cases i with
      | zero => cases h1
      | succ i =>
        rw [g0] at h1
        rcases key i (d.fn.n - d.fn.ar - 1) _ h1 with z | ⟨dd, v, z, _⟩ <;> cases z
structure At (K : Frag) (mg : Str → Option Value) (d : Df) (f : Addr) (fd : FuncData) : Prop where
  fun_ : Fun K d.x d.x d.st f fd
  mg : mg d.x = some (.ref f)
  binds : Binds K fd d.ps []
theorem spF_none {w : Bool} {g : List D → W D} (h : ∀ ds R, ¬ g ds R) {vs : List V} {H : Hp} {Q : VK} {E : XK} : ¬ spF K w g vs H Q E := fun ⟨_, _, ds, _, R, _, _, _, hg, _⟩ => h ds R hg
/-- every def, to every depth -/
theorem table {defs : List Df} {bs : List Str} {fN : Addr} {fdN : FuncData} {psN : List Str} (at_ : ∀ d ∈ defs, ∃ f fd, At K mg d f fd) (chk : ∀ d ∈ defs, chkD (defs.map Df.sig) bs d = true) (hb : ∀ x, bs.contains x = true → mg x = none)
    (nx : FnOk P w K mg base CX0 1 fN fdN psN (spNext K)) (nm : mg "_law_next" = some (.ref fN)) (nk : PySem.W.keepIn K (.ref fN) = true) (nb : Binds K fdN psN []) :
    ∀ (k i : Nat) (d : Df), defs[i]? = some d → ∃ f fd, FnOk P w K mg base CX0 (k + 1) f fd d.ps (spF K d.fn.w (cfN (defs.map Df.fn) k i)) ∧ At K mg d f fd := by
  intro k
  induction k with
  | zero =>
    intro i d hd
    obtain ⟨f, fd, a⟩ := at_ d (List.mem_of_getElem? hd)
    refine ⟨f, fd, ⟨fun vs H Q E h => (spF_none (K := K) (g := cfN (defs.map Df.fn) 0 i) (fun _ _ z => z) h).elim, fun A outer s H args us vs Q E _ _ _ _ h => (spF_none (K := K) (g := cfN (defs.map Df.fn) 0 i) (fun _ _ z => z) h).elim⟩, a⟩
  | succ k ih =>
    intro i d hd
    obtain ⟨f, fd, a⟩ := at_ d (List.mem_of_getElem? hd)
    have hc := chk d (List.mem_of_getElem? hd)
    unfold chkD at hc
    obtain ⟨hc, c4⟩ := and_get hc
    obtain ⟨c1, c2, c3⟩ := and3 hc
    have S := fsC_get c1
    have hn := of_decide_eq_true c2
    have har := of_decide_eq_true c3
    have hfi : (defs.map Df.fn)[i]? = some d.fn := by rw [List.getElem?_map, hd]; rfl
    have len : ∀ vs H Q E, spF K d.fn.w (cfN (defs.map Df.fn) (k + 1) i) vs H Q E → vs.length = d.ps.length := by
      rintro vs H Q E ⟨pw, F, ds, xs, R, hs, hw, r, ⟨fn', hf', hl, _⟩, hv, _⟩
      rw [hfi] at hf'
      cases hf'
      unfold Df.ps
      rw [List.length_take, Nat.min_eq_left har, ← hl, ← r.length]
      cases q : d.fn.w with
      | false => rw [q] at hv; simp only [if_false, Bool.false_eq_true] at hv; rw [hv]; simp
      | true => rw [q] at hv; simp only [if_true] at hv; obtain ⟨p, _, rfl⟩ := hv; simp
    refine ⟨f, fd, a.fun_.ok S len (fun cdv A outer s H vs Q E hr h => ?_), a⟩
    obtain ⟨pw, F, ds, xs, R, hs, hw, r, ⟨fn', hf', hl, hbody⟩, hv, kq⟩ := h
    rw [hfi] at hf'
    cases hf'
    obtain ⟨B, hlen⟩ := start_ok (K := K) (n := 0) hn har hs hw r hl hv
    have C : Ctx (cxOf CX0 P w K mg base d.N d.x (defScope d.st) f cdv A outer s H E).nox (d.sc (defs.map Df.sig) bs) (cfN (defs.map Df.fn) k) := {
      calm := rfl
      N := rfl
      nd := S.nd
      sc := rfl
      kind := S.kind
      fn := fun x _ => rfl
      hu := by
        have := hr.un
        show (A.deeper _).units + 200 < cLine
        omega
      bs := hb
      fs := fun j x wj hj => by
        have hj : (defs.map Df.sig)[j]? = some (x, wj) := hj
        rw [List.getElem?_map] at hj
        obtain ⟨dj, hdj, e⟩ := Option.map_eq_some_iff.mp hj
        obtain ⟨rfl, rfl⟩ : dj.x = x ∧ dj.fn.w = wj := by
          unfold Df.sig at e
          cases e
          exact ⟨rfl, rfl⟩
        obtain ⟨fj, fdj, okj, aj⟩ := ih j dj hdj
        exact ⟨⟨k + 1, fj, fdj, dj.ps, okj, hr, aj.mg, aj.fun_.kp, aj.binds⟩⟩
      nx := fun _ => ⟨⟨1, fN, fdN, psN, nx, hr.mono (by omega), nm, nk, nb⟩⟩ }
    have ss := snd_Ss (cf := cfN (defs.map Df.fn) k) (pw := pw) d.fn.body C PassesOwn.never c4
    refine ⟨_, ss F H, F, Ly.start d.fn ds, _, ⟨hlen, same_refl _, B.refl, B⟩, hbody, fun σ' F' H' Γ' S' q => ?_, fun _ _ _ _ _ q => q.elim, fun _ _ _ _ _ q => q.elim, fun v F' H' dv st rv q => kq v F' H' dv q st rv⟩
    exact kq .non F' H' .none q S'.st .non
end
end Ly

set_option maxRecDepth 100000
set_option maxHeartbeats 4000000
/-! The drawing of a number. -/
namespace Ly
open PySem PySem.Spec PyProof.Rows L2
/-- the object of the draws -/
def wK (l : Addr) (n : Int) : List (Key × V) := [(.inr "draws", .ref l), (.inr "at", .int n)]
theorem neDA : ¬ ((Sum.inr ("draws" : Str) : Key) = Sum.inr ("at" : Str)) := by decide +kernel
theorem wK_at (l : Addr) (n : Int) : valV (wK l n) (.inr "at") = some (.int n) := by
  unfold wK
  rw [valV_neg (p := ((.inr "draws" : Key), V.ref l)) neDA, valV_pos rfl]
theorem wK_draws (l : Addr) (n : Int) : valV (wK l n) (.inr "draws") = some (.ref l) := by
  unfold wK
  rw [valV_pos rfl]
theorem wK_put (l : Addr) (n m : Int) : putK (wK l n) (.inr "at") (.int m) = wK l m := by
  unfold putK wK
  rw [if_pos (by simp)]
  show [if (Sum.inr ("draws" : Str) : Key) = Sum.inr ("at" : Str) then _ else ((Sum.inr "draws" : Key), V.ref l), if (Sum.inr ("at" : Str) : Key) = Sum.inr ("at" : Str) then ((Sum.inr "at" : Key), V.int m) else _] = _
  rw [if_neg neDA, if_pos rfl]
theorem glC_gl {X : Cx} {sc : Scope} {N : List Str} {x : Str} (hs : X.env.scope = sc) (h : glC ⟨N, sc, fun _ => true, [], [], true⟩ x = true) : Gl X x := by
  unfold Gl Env.kindOf
  rw [hs]
  unfold glC at h
  revert h
  show isGlo (sc.names.lookup x) = true → _
  cases sc.names.lookup x with
  | none => intro h; first | rfl | cases h
  | some k => cases k <;> intro h <;> first | rfl | cases h
theorem vis_par {N P : List Str} {sc : Scope} (S : FnScope N P sc) {x : Str} (h : x ∈ P) : Vis sc x := (S.par x h).imp id .inl
section
variable {P : Program} {w : World} {K : PySem.W.Frag} {mg : Str → Option Value} {base : Heap}
theorem ok_next {st : Stmt} {f : Addr} {fd : FuncData} {p1 p2 p3 p4 p5 q1 q2 q3 q4 q5 q6 q7 q8 q9 r1 r2 r3 r4 r5 r6 r7 r8 r9 r10 r11 r12 r13 r14 r15 r16 : Pos} (F : Fun K "_law_next" "_law_next" st f fd) (S : FnScope ["w", "many"] ["w", "many"] (defScope st))
    (hb : defBody st = [.AugAssign (.Subscript (.Name "w" p1) (.Constant (.str "at") 0 p2) p3) .Add (.Constant (.int 1) 0 p4) p5,
      .Return (some (.IfExp (.Compare (.Subscript (.Name "w" q1) (.Constant (.str "at") 0 q2) q3) [.LtE] [.Call (.Name "len" q4) [.Subscript (.Name "w" q5) (.Constant (.str "draws") 0 q6) q7] [] q8] q9)
        (.BinOp (.Call (.Name "int" r1) [.Subscript (.Subscript (.Name "w" r2) (.Constant (.str "draws") 0 r3) r4) (.BinOp (.Subscript (.Name "w" r5) (.Constant (.str "at") 0 r6) r7) .Sub (.Constant (.int 1) 0 r8) r9) r10] [] r11) .Mod (.Name "many" r12) r13) (.Constant (.int 0) 0 r14) r15)) r16])
    (g1 : glC ⟨["w", "many"], defScope st, fun _ => true, [], [], true⟩ "len" = true) (g2 : glC ⟨["w", "many"], defScope st, fun _ => true, [], [], true⟩ "int" = true) (hl : mg "len" = none) (hi : mg "int" = none) : FnOk P w K mg base CX0 1 f fd ["w", "many"] (spNext K) := by
  refine F.ok S (fun vs H Q E h => ?_) (fun cdv A outer s H vs Q E hr h => ?_)
  · obtain ⟨p, F, n, rfl, _⟩ := h
    rfl
  · obtain ⟨p, F, n, rfl, hs, hw, n0, n1, k⟩ := h
    rw [hb]
    have hu : (cxOf CX0 P w K mg base ["w", "many"] "_law_next" (defScope st) f cdv A outer s H E).nox.A.units + 1 < cLine := by
      have := hr.un
      show (A.deeper _).units + 1 < cLine
      omega
    have vw : Vis (defScope st) "w" := vis_par S (by simp)
    have vm : Vis (defScope st) "many" := vis_par S (by simp)
    have G1 : Gl (cxOf CX0 P w K mg base ["w", "many"] "_law_next" (defScope st) f cdv A outer s H E).nox "len" := glC_gl rfl g1
    have G2 : Gl (cxOf CX0 P w K mg base ["w", "many"] "_law_next" (defScope st) f cdv A outer s H E).nox "int" := glC_gl rfl g2
    have W := fun (pos : Pos) => pe_var (X := (cxOf CX0 P w K mg base ["w", "many"] "_law_next" (defScope st) f cdv A outer s H E).nox) (i := 0) (pos := pos) rfl vw (by decide) (by decide)
    have M := fun (pos : Pos) => pe_var (X := (cxOf CX0 P w K mg base ["w", "many"] "_law_next" (defScope st) f cdv A outer s H E).nox) (i := 1) (pos := pos) rfl vm (by decide) (by decide)
    refine ⟨_, pss_cons (ps_daug hu (W _) pe_str pe_int (fun pins s σ H x y v u Q I rx ry q => iop_add pins s σ H x y v u Q I rx ry q) fun _ _ _ => rfl)
      (pss_one (ps_ret (pe_ifExp (pt_cmp (pc_le (pe_dget hu (W _) pe_str fun _ _ => rfl) (pe_callB call_len G1 hl boot_len (pa_cons (pe_dget hu (W _) pe_str fun _ _ => rfl) pa_nil))))
        (pe_op op_mod (pe_callTy call_int1 G2 hi boot_int (pa_cons (pe_ix ix_list (pe_dget hu (W _) pe_str fun _ _ => rfl) (pe_op op_sub (pe_dget hu (W _) pe_str fun _ _ => rfl) pe_int) fun _ _ => rfl) pa_nil)) (M _)) pe_int))), ?_⟩
    obtain ⟨fp, l, m, ns, hp, hF, h0, hm⟩ := hw
    have np : l ≠ p := fun z => by
      rw [z, fp] at hF
      cases hF
    have hp : H p = some (.dK (wK l m)) := hp
    have s0 : (L2.start ["w", "many"] [V.ref p, V.int n])[0]? = some (some (V.ref p)) := rfl
    have s1 : (L2.start ["w", "many"] [V.ref p, V.int n])[1]? = some (some (V.int n)) := rfl
    refine ⟨_, s0, p, _, rfl, .inl ⟨wK l m, .inr "at", .inl hp, rfl, (wK_at _ _).symm⟩, m, 1, rfl, rfl, _, .inl ⟨wK l m, .inr "at", hp, rfl, by rw [sizeLine_eq]; exact (by decide : (2 : Nat) < 16777216), by rw [wK_put]⟩, ?_⟩
    have hp2 : upd H p (HO.dK (wK l (m + 1))) p = some (.dK (wK l (m + 1))) := upd_same
    have hl2 : upd H p (HO.dK (wK l (m + 1))) l = some (.lst (ns.map V.int)) := by rw [upd_ne np]; exact hs _ _ hF
    have st : Step (some p) F H F (upd H p (HO.dK (wK l (m + 1)))) := ⟨fun _ _ e => e, fun b o e => by
        rw [upd_ne (fun z => by rw [z, fp] at e; cases e)]
        exact hs _ _ e, fun b o e z => by
        rw [upd_ne (fun y => z (by rw [y]))]
        exact e, fun b e z => absurd e z, fp, l, m + 1, ns, hp2, hF, h0, by omega⟩
    refine ⟨_, s0, p, _, rfl, .inl ⟨_, .inr "at", .inl hp2, rfl, (wK_at _ _).symm⟩, ?_⟩
    refine ⟨_, s0, p, _, rfl, .inl ⟨_, .inr "draws", .inl hp2, rfl, (wK_draws _ _).symm⟩, ?_⟩
    refine ⟨_, _, rfl, .inl ⟨_, .of hl2, rfl⟩, _, _, rfl, rfl, _, rfl, ?_⟩
    rw [List.length_map]
    show if decide (m + 1 ≤ (ns.length : Int)) = true then _ else _
    by_cases hle : m + 1 ≤ (ns.length : Int)
    · rw [if_pos (decide_eq_true hle)]
      obtain ⟨v, hv⟩ : ∃ v, ns[m.toNat]? = some v := ⟨ns[m.toNat], List.getElem?_eq_getElem (by omega)⟩
      refine ⟨_, s0, p, _, rfl, .inl ⟨_, .inr "draws", .inl hp2, rfl, (wK_draws _ _).symm⟩, _, s0, p, _, rfl, .inl ⟨_, .inr "at", .inl hp2, rfl, (wK_at _ _).symm⟩, m + 1, 1, rfl, rfl, l, _, m + 1 - 1, .int v, rfl, rfl, .of hl2, ?_, .inl ⟨v, rfl, _, s1, v, n, rfl, rfl, n0, ?_⟩⟩
      · unfold L2.atI L2.ixN
        rw [List.length_map, if_pos (by omega), if_pos (by omega)]
        show (ns.map V.int)[(m + 1 - 1).toNat]? = _
        rw [show m + 1 - 1 = m by omega, List.getElem?_map, hv]
        rfl
      · exact k _ _ _ (Int.emod_nonneg _ (by omega)) (Int.emod_lt_of_pos _ n0) st
    · rw [if_neg (fun z => hle (of_decide_eq_true z))]
      exact k 0 _ _ (by omega) n0 st
end
end Ly

set_option maxRecDepth 100000
set_option maxHeartbeats 4000000
/-! To reckon with the small syntax. -/
namespace Ly
open PySem
/-- a loop and what holds at its turns -/
theorem forL_inv {step : D → Ko → Env → Prop} {κ : Ko} (I : Nat → Env → Prop) {items : List D} (hs : ∀ (i : Nat) (d : D) (Γ : Env) (κ' : Ko), items[i]? = some d → I i Γ → (∀ Γ', I (i + 1) Γ' → κ'.nx Γ') → (∀ Γ', I (i + 1) Γ' → κ'.ct Γ') → κ'.rt = κ.rt → κ'.bk = κ.nx → step d κ' Γ)
    (he : ∀ Γ, I items.length Γ → κ.nx Γ) {Γ : Env} (h0 : I 0 Γ) : forL step κ items Γ := by
  suffices h : ∀ (r : List D) (n : Nat) (Γ : Env), n + r.length = items.length → (∀ i, r[i]? = items[n + i]?) → I n Γ → forL step κ r Γ from h items 0 Γ (by simp) (fun i => by simp) h0
  intro r
  induction r with
  | nil =>
    intro n Γ hl hi h
    exact he Γ (by rw [← hl]; exact h)
  | cons d r ih =>
    intro n Γ hl hi h
    have nx : ∀ Γ', I (n + 1) Γ' → forL step κ r Γ' := fun Γ' h' => ih (n + 1) Γ' (by rw [← hl, List.length_cons]; omega) (fun i => by
      have := hi (i + 1)
      rw [List.getElem?_cons_succ] at this
      rw [this]
      congr 1
      omega) h'
    exact hs n d Γ _ (by have := hi 0; simpa using this.symm) h nx nx rfl rfl
section
variable {α β γ : Type}
theorem b_ok (a : α) (f : α → W β) : W.bind (W.ok a) f = f a := rfl
theorem b_some (a : α) (f : α → W β) : W.bind (W.opt (some a)) f = f a := by
  funext Q
  show (∃ b, some a = some b ∧ f b Q) = f a Q
  simp
theorem o_some (a : α) : W.opt (some a) = W.ok a := by
  funext Q
  show (∃ b, some a = some b ∧ Q b) = Q a
  simp
theorem b_b (m : W α) (f : α → W β) (g : β → W γ) : W.bind (W.bind m f) g = W.bind m fun a => W.bind (f a) g := rfl
theorem b_ite (c : Prop) [Decidable c] (x y : W α) (f : α → W β) : W.bind (if c then x else y) f = if c then W.bind x f else W.bind y f := by split <;> rfl
theorem q_b (m : W α) (f : α → W β) (Q : β → Prop) : W.bind m f Q = m fun a => f a Q := rfl
theorem q_ok (a : α) (Q : α → Prop) : W.ok a Q = Q a := rfl
theorem q_some (a : α) (Q : α → Prop) : W.opt (some a) Q = Q a := by rw [o_some]; rfl
theorem q_ite (c : Prop) [Decidable c] (x y : W α) (Q : α → Prop) : (if c then x else y) Q = if c then x Q else y Q := by split <;> rfl
theorem i_ok (c : Prop) [Decidable c] (x y : α) : (if c then W.ok x else W.ok y) = W.ok (if c then x else y) := by split <;> rfl
theorem i_some (c : Prop) [Decidable c] (x y : α) : (if c then some x else some y) = some (if c then x else y) := by split <;> rfl
theorem i_int (c : Prop) [Decidable c] (x y : Int) : (if c then PyData.int x else PyData.int y) = .int (if c then x else y) := by split <;> rfl
theorem i_str (c : Prop) [Decidable c] (x y : Str) : (if c then PyData.str x else PyData.str y) = .str (if c then x else y) := by split <;> rfl
theorem i_bool (c : Prop) [Decidable c] (x y : Bool) : (if c then PyData.bool x else PyData.bool y) = .bool (if c then x else y) := by split <;> rfl
theorem i_list (c : Prop) [Decidable c] (x y : List D) : (if c then PyData.list x else PyData.list y) = .list (if c then x else y) := by split <;> rfl
theorem i_tup (c : Prop) [Decidable c] (x y : List D) : (if c then PyData.tuple x else PyData.tuple y) = .tuple (if c then x else y) := by split <;> rfl
theorem i_dict (c : Prop) [Decidable c] (x y : List (D × D)) : (if c then PyData.dict x else PyData.dict y) = .dict (if c then x else y) := by split <;> rfl
end
theorem g_pos {α : Type} {b : Bool} {a : α} (h : b = true) : gd b a = some a := if_pos h
theorem gd_t {α : Type} {a : α} : gd true a = some a := rfl
/-! values -/
theorem v_addI (a b : Int) : binD .add (.int a) (.int b) = some (.int (a + b)) := rfl
theorem v_addT (a b : List D) : binD .add (.tuple a) (.tuple b) = gd (decide (a.length + b.length ≤ lim)) (.tuple (a ++ b)) := rfl
theorem v_addL (a b : List D) : binD .add (.list a) (.list b) = gd (decide (a.length + b.length ≤ lim)) (.list (a ++ b)) := rfl
theorem v_addS (a b : Str) : binD .add (.str a) (.str b) = gd (decide (a.length + b.length ≤ lim)) (.str (a ++ b)) := rfl
theorem v_cat (a b : List D) : catD (.list a) (.list b) = gd (decide (a.length + b.length ≤ lim)) (.list (a ++ b)) := rfl
theorem v_sub (a b : Int) : binD .sub (.int a) (.int b) = some (.int (a - b)) := rfl
theorem v_mul (a b : Int) : binD .mul (.int a) (.int b) = gd (mulOk a b) (.int (a * b)) := rfl
theorem v_mulL (a : List D) (k : Int) : binD .mul (.list a) (.int k) = gd (decide (k < 9223372036854775808) && decide (-9223372036854775808 ≤ k) && decide (a.length * k.toNat ≤ lim)) (.list (List.replicate k.toNat a).flatten) := rfl
theorem v_div (a b : Int) : binD .fdiv (.int a) (.int b) = gd (decide (0 < b) && decide (b < 1073741824)) (.int (a / b)) := rfl
theorem v_mod (a b : Int) : binD .mod (.int a) (.int b) = gd (decide (0 < b)) (.int (a % b)) := rfl
theorem v_pow (a b : Int) : binD .pow (.int a) (.int b) = gd (decide (0 ≤ b) && decide (b ≤ 1000000) && decide (a.natAbs < 2 ^ 64)) (.int (a ^ b.toNat)) := rfl
theorem c_eqI (a b : Int) : cmpD .eq (.int a) (.int b) = some (a == b) := rfl
theorem c_eqS (a b : Str) : cmpD .eq (.str a) (.str b) = some (a == b) := rfl
theorem c_eqB (a b : Bool) : cmpD .eq (.bool a) (.bool b) = some (a == b) := rfl
theorem c_eqN : cmpD .eq .none .none = some true := rfl
theorem p_seq : pk .seq = true := rfl
theorem p_keys : pk .keys = false := rfl
theorem p_range : pk .range = false := rfl
theorem p_zip : pk .zip = false := rfl
theorem p_enum : pk .enum = false := rfl
theorem p_items : pk .items = false := rfl
theorem p_values : pk .values = false := rfl
theorem c_neI (a b : Int) : cmpD .ne (.int a) (.int b) = some (!(a == b)) := rfl
theorem c_neS (a b : Str) : cmpD .ne (.str a) (.str b) = some (!(a == b)) := rfl
theorem c_lt (a b : Int) : cmpD .lt (.int a) (.int b) = some (decide (a < b)) := rfl
theorem c_gt (a b : Int) : cmpD .gt (.int a) (.int b) = some (decide (b < a)) := rfl
theorem c_le (a b : Int) : cmpD .le (.int a) (.int b) = some (decide (a ≤ b)) := rfl
theorem c_ge (a b : Int) : cmpD .ge (.int a) (.int b) = some (decide (b ≤ a)) := rfl
def isNo_ : D → Bool
  | .none => true
  | _ => false
theorem c_isN (d : D) : cmpD .is d .none = some (isNo_ d) := by cases d <;> rfl
theorem c_isnotN (d : D) : cmpD .isnot d .none = some (!isNo_ d) := by cases d <;> rfl
theorem n_none : isNo_ .none = true := rfl
theorem n_int (i : Int) : isNo_ (.int i) = false := rfl
theorem n_bool (i : Bool) : isNo_ (.bool i) = false := rfl
theorem n_str (i : Str) : isNo_ (.str i) = false := rfl
theorem n_tup (i : List D) : isNo_ (.tuple i) = false := rfl
theorem n_list (i : List D) : isNo_ (.list i) = false := rfl
theorem n_dict (i : List (D × D)) : isNo_ (.dict i) = false := rfl
theorem c_inD (x : D) (kvs : List (D × D)) : cmpD .isin x (.dict kvs) = gd (keyB x) (hasD kvs x) := rfl
theorem c_inL (x : D) (ds : List D) : cmpD .isin x (.list ds) = gd (memOk x ds) (memD x ds) := rfl
theorem c_inT (x : D) (ds : List D) : cmpD .isin x (.tuple ds) = gd (memOk x ds) (memD x ds) := rfl
theorem x_list (ds : List D) (i : Int) : idxD (.list ds) (.int i) = (ixN ds.length i).bind fun k => ds[k]? := rfl
theorem x_tup (ds : List D) (i : Int) : idxD (.tuple ds) (.int i) = (ixN ds.length i).bind fun k => ds[k]? := rfl
theorem x_nat {n : Nat} {i : Nat} (h : i < n) : ixN n (i : Int) = some i := by
  unfold ixN
  rw [if_pos (by omega), if_pos (by omega)]
  rfl
theorem x_int {n : Nat} {i : Int} (h0 : 0 ≤ i) (h : i < n) : ixN n i = some i.toNat := by
  unfold ixN
  rw [if_pos h0, if_pos h]
theorem l_list (ds : List D) : biD .len [.list ds] = some (.int ds.length) := rfl
theorem l_tup (ds : List D) : biD .len [.tuple ds] = some (.int ds.length) := rfl
theorem l_dict (ds : List (D × D)) : biD .len [.dict ds] = some (.int ds.length) := rfl
theorem f_int (i : Int) : biD .int [.int i] = some (.int i) := rfl
theorem f_abs (i : Int) : biD .abs [.int i] = some (.int (if i < 0 then -i else i)) := rfl
theorem f_tupL (ds : List D) : biD .tuple [.list ds] = some (.tuple ds) := rfl
theorem f_tupT (ds : List D) : biD .tuple [.tuple ds] = some (.tuple ds) := rfl
theorem f_listL (ds : List D) : biD .list [.list ds] = some (.list ds) := rfl
theorem f_listT (ds : List D) : biD .list [.tuple ds] = some (.list ds) := rfl
theorem f_listD (ds : List (D × D)) : biD .list [.dict ds] = some (.list (ds.map (·.1))) := rfl
theorem f_items (ds : List (D × D)) : biD .listItems [.dict ds] = some (.list (ds.map fun p => .tuple [p.1, p.2])) := rfl
theorem f_min (a b : Int) : biD .min [.int a, .int b] = some (.int (if b < a then b else a)) := rfl
theorem f_max (a b : Int) : biD .max [.int a, .int b] = some (.int (if a < b then b else a)) := rfl
theorem w_range (b : Int) : walkD .range [.int b] = gd (smallI b) (rangeL 0 b) := rfl
theorem w_range2 (a b : Int) : walkD .range [.int a, .int b] = gd (smallI a && smallI b) (rangeL a b) := rfl
theorem w_list (ds : List D) : walkD .seq [.list ds] = some ds := rfl
theorem w_tup (ds : List D) : walkD .seq [.tuple ds] = some ds := rfl
theorem w_keys (ds : List (D × D)) : walkD .keys [.dict ds] = some (ds.map (·.1)) := rfl
theorem t_bool (c : Bool) : boolD (.bool c) = some c := rfl
theorem t_int (c : Int) : intD (.int c) = some c := rfl
theorem s_pv (d : D) : peek (.val d) = some d := rfl
theorem s_po (d : D) : peek (.own d) = some d := rfl
theorem s_vv (d : D) : vals (.val d) = some d := rfl
theorem s_g0 (a : Sl) (l : Env) : get (a :: l) 0 = a := rfl
theorem s_gs (a : Sl) (l : Env) (n : Nat) : get (a :: l) (n + 1) = get l n := rfl
theorem s_k0 (Γ : Env) : kill [] Γ = Γ := rfl
theorem s_kc (k : Nat) (ks : List Nat) (Γ : Env) : kill (k :: ks) Γ = kill ks (Γ.set k .non) := rfl
theorem s_tn (i : Nat) (d : D) (Γ : Env) : tgB (.name i) d Γ = some (Γ.set i (.val d)) := rfl
theorem ge997 (z : Int) : 0 ≤ z % 997 := Int.emod_nonneg _ (by decide)
/-- what an item of a range is -/
theorem range_at {b : Int} {i : Nat} {d : D} (h : (rangeL 0 b)[i]? = some d) : d = .int i ∧ (i : Int) < b := by
  unfold rangeL at h
  rw [List.getElem?_map, Option.map_eq_some_iff] at h
  obtain ⟨j, hj, rfl⟩ := h
  have hl := (List.getElem?_eq_some_iff.mp hj).1
  rw [List.length_range] at hl
  rw [List.getElem?_range hl] at hj
  cases hj
  exact ⟨by simp, by omega⟩
theorem range_len (b : Int) : (rangeL 0 b).length = b.toNat := by simp [rangeL]
end Ly

set_option maxRecDepth 100000
set_option maxHeartbeats 4000000
/-! The draws. -/
namespace Ly
open PySem
def es1 (a : E) : Es := .cons a .nil
def es2 (a b : E) : Es := .cons a (.cons b .nil)
def ci (i : Int) : E := .con (.int i)
def drIn : Ss := .cons (.ite (.cmp .gt (.var 6) (ci 0)) (.cons (.append 2 (.bin .mod (.bi .int (es1 (.var 6))) (ci 997))) (.cons (.asg (.name 6) (.bin .fdiv (.var 6) (ci 997))) .nil)) .nil) .nil
def drBody1 : Ss :=
  .cons (.asg (.name 5) (.bi .abs (es1 (.bi .int (es1 (.sat 0 (.var 4)))))))
  (.cons (.asg (.name 3) (.bin .mod (.bi .int (es1 (.bin .add (.bin .add (.bin .mul (.var 3) (ci 48271)) (.bin .mod (.var 5) (ci 1000003))) (.var 4)))) (ci 65537)))
  (.cons (.asg (.name 6) (.ite (.cmp .ge (.var 5) (.bin .pow (ci 10) (ci 18))) (.var 5) (ci 0)))
  (.cons (.asg (.name 2) (.cat (.var 2) (.ite (.cmp .eq (.var 6) (ci 0)) (.lst (es2 (.bin .mod (.bi .int (es1 (.var 5))) (ci 997)) (.bin .mod (.bin .mod (.bi .int (es1 (.bin .add (.bin .mul (.var 3) (ci 69621)) (ci 5)))) (ci 65521)) (ci 997)))) (.lst .nil))))
  (.cons (.for (.name 7) .range (es1 (ci 60)) [7] drIn) .nil))))
def drBody2 : Ss :=
  .cons (.asg (.name 3) (.bin .mod (.bi .int (es1 (.bin .add (.bin .add (.bin .mul (.var 3) (ci 16807)) (.var 4)) (ci 1)))) (ci 65537)))
  (.cons (.append 2 (.bin .mod (.bi .int (es1 (.var 3))) (ci 997))) .nil)
def drBody : Ss :=
  .cons (.par [2, 3] (es2 (.lst .nil) (ci 7)))
  (.cons (.for (.name 4) .range (es1 (.slen 0)) [4, 5, 6, 7] drBody1)
  (.cons (.for (.name 4) .range (es1 (.var 1)) [4] drBody2)
  (.cons (.ret (.cut (.var 2) .nil (es1 (.var 1)))) .nil)))
def drSt (ns : List Int) (N : Int) (ms : List Int) (m : Int) (a b c d : Sl) : Env := [.scr ns, .val (.int N), .own (.list (ms.map .int)), .val (.int m), a, b, c, d]
theorem mem_two {p : Prop} [Decidable p] {a b x : Int} (h : x ∈ (if p then [a, b] else [])) : x = a ∨ x = b := by
  split at h
  · simpa using h
  · cases h
theorem len_two (p : Prop) [Decidable p] (a b : Int) : (if p then [a, b] else []).length ≤ 2 := by split <;> simp
theorem dr2 {cf : Nat → List D → W D} {ns ms : List Int} {N m k : Int} {a b c d : Sl} {κ : Ko} (hl : ms.length < lim) (h : ∀ z, 0 ≤ z → κ.nx (drSt ns N (ms ++ [z % 997]) z (.val (.int k)) b c d)) :
    evSs cf drBody2 κ (drSt ns N ms m (.val (.int k)) b c d) := by
  have h := h _ (Int.emod_nonneg (m * 16807 + k + 1) (by decide : (65537 : Int) ≠ 0))
  simpa [drBody2, evSs, evS, ev, evEs, es1, ci, b_ok, b_some, b_b, q_b, q_ok, q_some, drSt, s_g0, s_gs, s_pv, s_vv, s_po, v_addI, v_mul, v_mod, mulOk, gd_t, f_int, fresh, get, hl] using h
theorem drI {cf : Nat → List D → W D} {ns ms : List Int} {N m t x r : Int} {a b c d : Sl} {κ : Ko} (hl : ms.length < lim)
    (h1 : κ.nx (drSt ns N (ms ++ [r % 997]) m a b (.val (.int (r / 997))) d)) (h2 : κ.nx (drSt ns N ms m a b (.val (.int r)) d)) : evSs cf drIn κ (drSt ns N ms m a b (.val (.int r)) d) := by
  simp only [drSt] at h1 h2
  by_cases h : 0 < r
  · simpa [drIn, evSs, evS, ev, evEs, es1, ci, b_ok, b_some, b_b, q_b, q_ok, q_some, drSt, s_g0, s_gs, s_pv, s_vv, s_po, v_mod, v_div, gd_t, f_int, fresh, get, hl, c_gt, t_bool, h] using h1
  · simpa [drIn, evSs, evS, ev, evEs, es1, ci, b_ok, b_some, b_b, q_b, q_ok, q_some, drSt, s_g0, s_gs, s_pv, s_vv, s_po, v_mod, v_div, gd_t, f_int, fresh, get, hl, c_gt, t_bool, h] using h2
def drI1 (ns : List Int) (N : Int) (L : Nat) (Γ : Env) : Prop := ∃ ms m a b c d, Γ = drSt ns N ms m a b c d ∧ (∀ x ∈ ms, 0 ≤ x) ∧ ms.length ≤ L
theorem dr1 {cf : Nat → List D → W D} {ns ms : List Int} {N m : Int} {k : Nat} {κ : Ko} (hk : k < ns.length) (hl : ms.length + 100 < lim)
    (h : ∀ Γ, drI1 ns N (ms.length + 62) Γ → κ.nx Γ) (h0 : ∀ x ∈ ms, 0 ≤ x) : evSs cf drBody1 κ (drSt ns N ms m (.val (.int k)) .non .non .non) := by
  obtain ⟨v, hv⟩ : ∃ v, ns[k]? = some v := ⟨ns[k], List.getElem?_eq_getElem hk⟩
  have loop : ∀ (ms2 : List Int) (m2 : Int) (a b : Sl) (r : Int), (∀ x ∈ ms2, 0 ≤ x) → ms2.length ≤ ms.length + 2 →
      evSs cf (.cons (.for (.name 7) .range (es1 (ci 60)) [7] drIn) .nil) κ (drSt ns N ms2 m2 a b (.val (.int r)) .non) := fun ms2 m2 a b r p0 p1 => by
    simp only [evSs, evS, ev, evEs, es1, ci, b_ok, b_some, b_b, q_b, q_ok, q_some]
    refine ⟨rangeL 0 60, rfl, forL_inv (fun i Γ => ∃ ms3 r d, Γ = drSt ns N ms3 m2 a b (.val (.int r)) d ∧ (∀ x ∈ ms3, 0 ≤ x) ∧ ms3.length ≤ ms.length + 2 + i) ?_ ?_ ⟨ms2, r, _, rfl, p0, p1⟩⟩
    · rintro i d Γ κ' hi ⟨ms3, r, d', rfl, q0, q1⟩ nx _ _ _
      obtain ⟨rfl, hi⟩ := range_at hi
      refine ⟨_, rfl, drI (t := 0) (x := 0) (c := .non) (d := .val (.int i)) (by omega) (nx _ ⟨_, _, _, rfl, fun x hx => ?_, by rw [List.length_append, List.length_singleton]; omega⟩) (nx _ ⟨_, _, _, rfl, q0, by omega⟩)⟩
      rcases List.mem_append.mp hx with hx | hx
      · exact q0 x hx
      · rw [List.mem_singleton.mp hx]; exact ge997 _
    · rintro Γ ⟨ms3, r, d', rfl, q0, q1⟩
      exact h _ ⟨ms3, m2, a, b, .val (.int r), .non, rfl, q0, by rw [range_len] at q1; omega⟩
  have h2 : ms.length + 2 ≤ lim := by omega
  have h1 : ms.length ≤ lim := by omega
  have key : evSs cf drBody1 κ (drSt ns N ms m (.val (.int k)) .non .non .non) = evSs cf (.cons (.for (.name 7) .range (es1 (ci 60)) [7] drIn) .nil) κ
      (drSt ns N (ms ++ if (if 1000000000000000000 ≤ (if v < 0 then -v else v) then (if v < 0 then -v else v) else 0) = 0 then [(if v < 0 then -v else v) % 997, ((((m * 48271 + (if v < 0 then -v else v) % 1000003 + k) % 65537) * 69621 + 5) % 65521) % 997] else []) ((m * 48271 + (if v < 0 then -v else v) % 1000003 + k) % 65537)
        (.val (.int k)) (.val (.int (if v < 0 then -v else v))) (.val (.int (if 1000000000000000000 ≤ (if v < 0 then -v else v) then (if v < 0 then -v else v) else 0))) .non) := by
    by_cases q1 : 1000000000000000000 ≤ (if v < 0 then -v else v)
    · have q2 : ¬ (if v < 0 then -v else v) = 0 := by omega
      simp [drBody1, evSs, evS, ev, evEs, es1, es2, ci, b_ok, b_some, b_b, q_b, q_ok, q_some, drSt, s_g0, s_gs, s_pv, s_vv, s_po, v_addI, v_mul, v_mod, v_pow, mulOk, gd_t, f_int, f_abs, fresh, get, scrOf, t_int, hv, c_ge, t_bool, c_eqI, v_cat, q1, q2, h1]
    · simp [drBody1, evSs, evS, ev, evEs, es1, es2, ci, b_ok, b_some, b_b, q_b, q_ok, q_some, drSt, s_g0, s_gs, s_pv, s_vv, s_po, v_addI, v_mul, v_mod, v_pow, mulOk, gd_t, f_int, f_abs, fresh, get, scrOf, t_int, hv, c_ge, t_bool, c_eqI, v_cat, q1, h2]
  rw [key]
  refine loop _ _ _ _ _ (fun x hx => ?_) ?_
  · rcases List.mem_append.mp hx with hx | hx
    · exact h0 x hx
    · rcases mem_two hx with rfl | rfl <;> exact ge997 _
  · rw [List.length_append]
    exact Nat.add_le_add_left (len_two _ _ _) _
theorem draws_ev {cf : Nat → List D → W D} {ns : List Int} {N : Int} {κ : Ko} (hn : ns.length ≤ 63) (hN0 : 0 ≤ N) (hN : N ≤ 100000) (hk : ∀ ms : List Int, (∀ x ∈ ms, 0 ≤ x) → κ.rt (.list (ms.map .int))) :
    evSs cf drBody κ [.scr ns, .val (.int N), .non, .non, .non, .non, .non, .non] := by
  have sm : ∀ z : Int, 0 ≤ z → z ≤ 100000 → smallI z = true := fun z h1 h2 => by
    unfold smallI
    rw [Bool.and_eq_true, decide_eq_true_eq, decide_eq_true_eq]
    omega
  have lim_ : lim = 16777216 := rfl
  simp only [drBody, evSs, evS, ev, evEs, es1, es2, ci, b_ok, b_some, b_b, q_b, q_ok, q_some]
  refine ⟨ns, rfl, rangeL 0 ns.length, by rw [w_range, sm _ (by omega) (by omega)]; rfl, forL_inv (fun i Γ => drI1 ns N (i * 62) Γ) ?_ ?_ ⟨[], 7, .non, .non, .non, .non, rfl, (fun x hx => by cases hx), Nat.zero_le _⟩⟩
  · rintro i d Γ κ' hi ⟨ms, m, a, b, c, d', rfl, p0, p1⟩ nx _ _ _
    obtain ⟨rfl, hi⟩ := range_at hi
    exact ⟨_, rfl, dr1 (k := i) (by omega) (by omega) (fun Γ ⟨ms, m, a, b, c, d', e, q0, q1⟩ => nx Γ ⟨ms, m, a, b, c, d', e, q0, by omega⟩) p0⟩
  · rintro Γ ⟨ms, m, a, b, c, d', rfl, p0, p1⟩
    rw [range_len] at p1
    refine ⟨.int N, rfl, rangeL 0 N, by rw [w_range, sm _ hN0 hN]; rfl, forL_inv (fun i Γ => ∃ ms m a b c d, Γ = drSt ns N ms m a b c d ∧ (∀ x ∈ ms, 0 ≤ x) ∧ ms.length ≤ 63 * 62 + i) ?_ ?_ ⟨ms, m, .non, .non, .non, .non, rfl, p0, by omega⟩⟩
    · rintro i d Γ κ' hi ⟨ms, m, a, b, c, d', rfl, p0, p1⟩ nx _ _ _
      obtain ⟨rfl, hi⟩ := range_at hi
      refine ⟨_, rfl, dr2 (a := .non) (by omega) fun z hz => nx _ ⟨_, _, _, _, _, _, rfl, fun x hx => ?_, by rw [List.length_append, List.length_singleton]; omega⟩⟩
      rcases List.mem_append.mp hx with hx | hx
      · exact p0 x hx
      · rw [List.mem_singleton.mp hx]; exact ge997 _
    · rintro Γ ⟨ms, m, a, b, c, d', rfl, p0, p1⟩
      refine ⟨.list (ms.map .int), rfl, .int N, rfl, some N, rfl, .list (cutL (ms.map .int) none (some N)), rfl, ?_⟩
      have e : cutL (ms.map PyData.int) none (some N) = (cutL ms none (some N)).map PyData.int := by
        unfold cutL
        rw [List.map_take, List.map_drop, List.length_map]
      rw [e]
      refine hk _ fun x hx => p0 x ?_
      unfold cutL at hx
      exact List.mem_of_mem_drop (List.mem_of_mem_take hx)
end Ly

set_option maxRecDepth 100000
set_option maxHeartbeats 4000000
/-! The law: from the draws on. -/
namespace Ly
open PySem PySem.Spec PyProof.Rows L2
def drN : List Str := ["script", "many", "draws", "mixed", "k", "cell", "rest", "turn"]
def drP : List Str := ["script", "many"]
def drSc (st : Stmt) (bs : List Str) : Sc := ⟨drN, defScope st, fun _ => true, [], bs, false⟩
def chkDr (bs : List Str) (st : Stmt) : Bool := fsC drN drP (defScope st) && chkSs (drSc st bs) drBody (defBody st)
def spDraws (K : Frag) : Sp := fun vs H Q _ => ∃ (F : Hp) (a : Addr) (ns : List Int) (N : Int), vs = [.ref a, .int N] ∧ Same F H ∧ SqL K F a (ns.map V.int) ∧ ns.length ≤ 63 ∧ 0 ≤ N ∧ N ≤ 100000 ∧
  ∀ (v : V) (F' H' : Hp) (ms : List Int), Step none F H F' H' → Rp K F' v (.list (ms.map .int)) → (∀ x ∈ ms, 0 ≤ x) → Q v H'
def spLaw (K : Frag) : Sp := fun vs H Q _ => ∃ (a : Addr) (ns : List Int), vs = [.ref a] ∧ SqL K H a (ns.map V.int) ∧ ns.length ≤ 63 ∧ ∀ H', Q (.bl true) H'
theorem rpL_ints {K : Frag} {F : Hp} : ∀ {xs : List V} {ms : List Int}, RpL K F xs (ms.map .int) → xs = ms.map V.int
  | _, [], .nil => rfl
  | _, _ :: _, .cons r rr => by
    cases r
    rw [List.map_cons, rpL_ints rr]
section
variable {P : Program} {w : World} {K : PySem.W.Frag} {mg : Str → Option Value} {base : Heap}
theorem ok_draws {bs : List Str} {st : Stmt} {f : Addr} {fd : FuncData} (F : Fun K "_law_draws" "_law_draws" st f fd) (chk : chkDr bs st = true) (hb : ∀ x, bs.contains x = true → mg x = none) : FnOk P w K mg base CX0 1 f fd drP (spDraws K) := by
  obtain ⟨c1, c2⟩ := and_get chk
  have S := fsC_get c1
  refine F.ok S (fun vs H Q E h => ?_) (fun cdv A outer s H vs Q E hr h => ?_)
  · obtain ⟨_, a, ns, N, rfl, _⟩ := h
    rfl
  · obtain ⟨F0, a, ns, N, rfl, hs, hS, hn, n0, n1, k⟩ := h
    have C : Ctx (cxOf CX0 P w K mg base drN "_law_draws" (defScope st) f cdv A outer s H E).nox (drSc st bs) (cfN [] 0) := {
      calm := rfl
      N := rfl
      nd := S.nd
      sc := rfl
      kind := S.kind
      fn := fun x _ => rfl
      hu := by
        have := hr.un
        show (A.deeper _).units + 200 < cLine
        omega
      bs := hb
      fs := fun j x wj hj => by cases hj
      nx := fun z => by cases z }
    have B : Base K none H F0 H (L2.start drN [.ref a, .int N]) [.scr ns, .val (.int N), .non, .non, .non, .non, .non, .non] := ⟨hs, trivial, ⟨rfl, fun i => by
      match i with
      | 0 => exact ⟨a, rfl, hS⟩
      | 1 => exact ⟨.int N, rfl, .int N⟩
      | 2 => trivial
      | 3 => trivial
      | 4 => trivial
      | 5 => trivial
      | 6 => trivial
      | 7 => trivial
      | n + 8 => trivial, fun i j d d' p h => by
      match i, h with
      | 0, h => cases h
      | 1, h => cases h
      | 2, h => cases h
      | 3, h => cases h
      | 4, h => cases h
      | 5, h => cases h
      | 6, h => cases h
      | 7, h => cases h
      | n + 8, h => cases h⟩⟩
    refine ⟨_, snd_Ss (pw := none) drBody C PassesOwn.never c2 F0 H, F0, _, { nx := fun _ => False, rt := fun d => ∃ ms : List Int, (∀ x ∈ ms, 0 ≤ x) ∧ d = .list (ms.map .int), bk := fun _ => False, ct := fun _ => False }, ⟨rfl, same_refl _, B.refl, B⟩, draws_ev hn n0 n1 fun ms hm => ⟨ms, hm, rfl⟩, fun _ _ _ _ _ q => q.elim, fun _ _ _ _ _ q => q.elim, fun _ _ _ _ _ q => q.elim, fun v F' H' d st' rv ⟨ms, hm, e⟩ => ?_⟩
    rw [e] at rv
    exact k v F' H' ms st' rv hm
end
section
variable {X : Cx} {k : Nat} {f : Addr} {fd : FuncData} {p2 pos p6 p4 : Pos}
theorem eo_draws {i : Nat} {xs : Str} {n : Int} (nm : Nm X i xs) (F : FnOk X.prog X.w X.K X.mg X.base CX0 k f fd drP (spDraws X.K)) (hr : Room k X.A) (hg : Gl X "_law_draws") (hm : X.mg "_law_draws" = some (.ref f)) (hk : PySem.W.keepIn X.K (.ref f) = true) (hb : Binds X.K fd drP []) (n0 : 0 ≤ n) (n1 : n ≤ 100000) :
    EO X none .val (.Call (.Name "_law_draws" p4) [.Name xs p2, .Constant (.int n) 0 p6] [] pos) (fun Γ Q => ∃ ns, scrOf (get Γ i) = some ns ∧ ns.length ≤ 63 ∧ ∀ ms : List Int, (∀ x ∈ ms, 0 ≤ x) → Q (.list (ms.map .int))) :=
  .by (pe_call F hr hg hm hk hb .nil pass0 (pa_cons (pe_var nm.at_ nm.vis nm.d nm.c) (pa_cons pe_int pa_nil)) (by decide) rfl rfl) fun σ H0 F H Γ R B hf => by
    obtain ⟨ns, e, hl, hq⟩ := hf
    have q := B.e.slot i
    generalize get Γ i = sl at q e
    cases sl <;> try (cases e; done)
    cases e
    obtain ⟨a, e1, hS⟩ := q
    exact ⟨_, e1, F, a, ns, n, rfl, B.s, hS, hl, n0, n1, fun v F' H' ms st rv hms => ⟨F', _, st, rv, hq ms hms⟩⟩
end
section
variable {P : Program} {w : World} {K : PySem.W.Frag} {mg : Str → Option Value} {base : Heap}
def lawKo : Ko := ⟨fun _ => False, fun d => d = .bool true, fun _ => False, fun _ => False⟩
theorem ok_law {defs : List Df} {bs : List Str} {st : Stmt} {f fN fD : Addr} {fd fdN fdD : FuncData} {psN : List Str} {N : List Str} {n : Int} {k : Nat} {rest : List Stmt} {restS : Ss} {p1 p2 p3 p4 p5 p6 p7 p8 p9 p10 : Pos}
    (F : Fun K "law" "law" st f fd) (hfs : fsC N ["script"] (defScope st) = true)
    (hbody : defBody st = .Assign [.Name "w" p1] (.Dict [some (.Constant (.str "draws") 0 p2), some (.Constant (.str "at") 0 p3)] [.Call (.Name "_law_draws" p4) [.Name "script" p5, .Constant (.int n) 0 p6] [] p7, .Constant (.int 0) 0 p8] p9) p10 :: rest)
    (nm : nmV ⟨N, defScope st, fun _ => true, defs.map Df.sig, bs, true⟩ 0 "script" = true) (nw : stC ⟨N, defScope st, fun _ => true, defs.map Df.sig, bs, true⟩ 1 "w" = true) (hg : glC ⟨N, defScope st, fun _ => true, defs.map Df.sig, bs, true⟩ "_law_draws" = true) (n0 : 0 ≤ n) (n1 : n ≤ 100000) (hN2 : 2 ≤ N.length)
    (hc : chkSs ⟨N, defScope st, fun _ => true, defs.map Df.sig, bs, true⟩ restS rest = true)
    (dOk : FnOk P w K mg base CX0 1 fD fdD drP (spDraws K)) (mD : mg "_law_draws" = some (.ref fD)) (kD : PySem.W.keepIn K (.ref fD) = true) (bD : Binds K fdD drP [])
    (at_ : ∀ d ∈ defs, ∃ f fd, At K mg d f fd) (chk : ∀ d ∈ defs, chkD (defs.map Df.sig) bs d = true) (hb : ∀ x, bs.contains x = true → mg x = none)
    (nx : FnOk P w K mg base CX0 1 fN fdN psN (spNext K)) (nmg : mg "_law_next" = some (.ref fN)) (nk : PySem.W.keepIn K (.ref fN) = true) (nb : Binds K fdN psN [])
    (plain : evSs (cfN (defs.map Df.fn) k) restS lawKo (.non :: .obj :: List.replicate (N.length - 2) .non)) : FnOk P w K mg base CX0 (k + 2) f fd ["script"] (spLaw K) := by
  have S := fsC_get hfs
  refine F.ok S (fun vs H Q E h => ?_) (fun cdv A outer s H vs Q E hr h => ?_)
  · obtain ⟨a, ns, rfl, _⟩ := h
    rfl
  · obtain ⟨a, ns, rfl, hS, hn, kq⟩ := h
    have C : Ctx (cxOf CX0 P w K mg base N "law" (defScope st) f cdv A outer s H E).nox ⟨N, defScope st, fun _ => true, defs.map Df.sig, bs, true⟩ (cfN (defs.map Df.fn) k) := {
      calm := rfl
      N := rfl
      nd := S.nd
      sc := rfl
      kind := S.kind
      fn := fun x _ => rfl
      hu := by
        have := hr.un
        show (A.deeper _).units + 200 < cLine
        omega
      bs := hb
      fs := fun j x wj hj => by
        have hj : (defs.map Df.sig)[j]? = some (x, wj) := hj
        rw [List.getElem?_map] at hj
        obtain ⟨dj, hdj, e⟩ := Option.map_eq_some_iff.mp hj
        obtain ⟨rfl, rfl⟩ : dj.x = x ∧ dj.fn.w = wj := by
          unfold Df.sig at e
          cases e
          exact ⟨rfl, rfl⟩
        obtain ⟨fj, fdj, okj, aj⟩ := table (P := P) (w := w) (base := base) at_ chk hb nx nmg nk nb k j dj hdj
        exact ⟨⟨k + 1, fj, fdj, dj.ps, okj, hr, aj.mg, aj.fun_.kp, aj.binds⟩⟩
      nx := fun _ => ⟨⟨1, fN, fdN, psN, nx, hr.mono (by omega), nmg, nk, nb⟩⟩ }
    have hG := C.gl hg
    have hD := eo_draws (p4 := p4) (p2 := p5) (p6 := p6) (pos := p7) (C.nm nm) dOk (hr.mono (by omega)) hG mD kD bD n0 n1
    obtain ⟨g1, g2, g3⟩ := C.st nw
    have s1 := so_setOwn (pos := p10) (pos' := p1) (by rw [C.N]; exact C.nd) g1 g2 (eo_dct (pos := p9) (ko_cons (eo_const (d := .str "draws") (pe_str (j := 0) (pos := p2)) fun _ => .str _) hD (ko_cons (eo_const (d := .str "at") (pe_str (j := 0) (pos := p3)) fun _ => .str _) (eo_const (d := .int 0) (pe_int (j := 0) (pos := p8)) fun _ => .int _) ko_nil)) rfl rfl (by simp) (by simp)) rfl g3
    have s2 : PSs _ rest (fun D' σ H' => ∃ p F0 H0, tS K (some p) N.length F0 H0 (evSs (cfN (defs.map Df.fn) k) restS) D' σ H') := ⟨fun pins s σ H D' I ⟨p, F0, H0, q⟩ => (snd_Ss (pw := some p) restS C PassesOwn.never hc F0 H0).run pins s σ H D' I q⟩
    rw [hbody]
    refine ⟨_, pss_cons (s1 H H) s2, H, .scr ns :: List.replicate (N.length - 1) .non, { nx := fun Γ => ∃ ms : List Int, (∀ x ∈ ms, 0 ≤ x) ∧ get Γ 1 = .own (.dict [(.str "draws", .list (ms.map .int)), (.str "at", .int 0)]), rt := fun _ => False, bk := fun _ => False, ct := fun _ => False }, ?_, ?_, ?_, fun _ _ _ _ _ q => q.elim, fun _ _ _ _ _ q => q.elim, fun _ _ _ _ _ _ q => q.elim⟩
    · have eg : ∀ i, get (.scr ns :: List.replicate (N.length - 1) .non) (i + 1) = .non := fun i => by
        rw [s_gs]
        unfold get
        rw [List.getD_eq_getElem?_getD, List.getElem?_replicate]
        split <;> rfl
      have el : (L2.start N [V.ref a]).length = N.length := by
        unfold L2.start
        rw [List.length_append, List.length_map, List.length_replicate]
        show 1 + (N.length - 1) = _
        omega
      have B : Base K none H H H (L2.start N [V.ref a]) (.scr ns :: List.replicate (N.length - 1) .non) := ⟨same_refl _, trivial, ⟨by
        rw [el, List.length_cons, List.length_replicate]
        omega, fun i => by
        match i with
        | 0 => exact ⟨a, rfl, hS⟩
        | i + 1 => rw [eg]; trivial, fun i j d d' p h => by
        match i, h with
        | 0, h => cases h
        | i + 1, h => rw [eg] at h; cases h⟩⟩
      exact ⟨el, same_refl _, B.refl, B⟩
    · refine ⟨ns, rfl, hn, fun ms hms => ?_⟩
      refine ⟨_, rfl, ms, hms, ?_⟩
      rw [get_set (by rw [List.length_cons, List.length_replicate]; omega), if_pos rfl]
      rfl
    · rintro σ' F' H' Γ' S' ⟨ms, hms, hΓ⟩
      have sl := S'.b.e.slot 1
      rw [hΓ] at sl
      obtain ⟨p, e1, _, fp, _, own⟩ := sl
      obtain ⟨kvs, hp, rk⟩ : ∃ kvs, H' p = some (.dK kvs) ∧ RpK K F' kvs [(.str "draws", .list (ms.map .int)), (.str "at", .int 0)] := by
        cases own with
        | dct h r => exact ⟨_, h, r⟩
      obtain ⟨l, hp, hl⟩ : ∃ l, H' p = some (.dK (wK l 0)) ∧ F' l = some (.lst (ms.map V.int)) := by
        have sk : ∀ {kvs : List (Key × V)} {d : D} {x : Str} {ps : List (D × D)}, RpK K F' kvs ((.str x, d) :: ps) → ∃ v r, kvs = (.inr x, v) :: r ∧ Rp K F' v d ∧ RpK K F' r ps := fun {kvs d x ps} h => by
          generalize e : ((PyData.str x, d) :: ps) = qs at h
          cases h with
          | nil => cases e
          | @cons k v r d' ps' h1 h2 =>
            cases k with
            | inl i => cases e
            | inr y =>
              have e := List.cons.inj e
              have e3 := Prod.mk.inj e.1
              cases e3.1
              cases e3.2
              cases e.2
              exact ⟨v, r, rfl, h1, h2⟩
        obtain ⟨v, r, rfl, h1, h2⟩ := sk rk
        obtain ⟨v2, r2, rfl, h3, h4⟩ := sk h2
        cases h4
        cases h3
        cases h1 with
        | lst h1 r1 => exact ⟨_, hp, by rw [← rpL_ints r1]; exact h1⟩
      have hw : WOk F' H' (some p) := ⟨fp, l, 0, ms, hp, hl, hms, Int.le_refl 0⟩
      have eg : ∀ i, get (.non :: .obj :: List.replicate (N.length - 2) .non) (i + 2) = .non := fun i => by
        rw [s_gs, s_gs]
        unfold get
        rw [List.getD_eq_getElem?_getD, List.getElem?_replicate]
        split <;> rfl
      have B : Base K (some p) H' F' H' σ' (.non :: .obj :: List.replicate (N.length - 2) .non) := ⟨S'.b.s, hw, ⟨by
        have := S'.n
        have hn' : σ'.length = N.length := this
        rw [hn', List.length_cons, List.length_cons, List.length_replicate]
        omega, fun i => by
        match i with
        | 0 => trivial
        | 1 => exact ⟨p, e1, rfl⟩
        | i + 2 => rw [eg]; trivial, fun i j d d' p h => by
        match i, h with
        | 0, h => cases h
        | 1, h => cases h
        | i + 2, h => rw [eg] at h; cases h⟩⟩
      refine ⟨p, F', H', F', _, lawKo, ⟨S'.n, same_refl _, B.refl, B⟩, plain, fun _ _ _ _ _ q => q.elim, fun _ _ _ _ _ q => q.elim, fun _ _ _ _ _ q => q.elim, fun v F2 H2 d st2 rv e => ?_⟩
      have e : d = .bool true := e
      rw [e] at rv
      cases rv
      exact kq H2
end
end Ly

set_option maxRecDepth 100000
set_option maxHeartbeats 4000000
/-! To reckon with the small syntax: calls, lists, loops. -/
namespace Ly
open PySem
theorem call_eq {T : List Fn} {k i : Nat} {f : Fn} {args : List D} {v : D} (hf : T[i]? = some f) (hl : args.length = f.ar) (hb : ∀ κ : Ko, evSs (cfN T k) f.body κ (start f args) = κ.rt v) : cfN T (k + 1) i args = W.ok v := by
  funext Q
  show (∃ g, T[i]? = some g ∧ args.length = g.ar ∧ evSs (cfN T k) g.body _ (start g args)) = Q v
  apply propext
  constructor
  · rintro ⟨g, e, _, h⟩
    rw [hf] at e
    cases e
    rw [hb] at h
    exact h
  · intro h
    exact ⟨f, hf, hl, by rw [hb]; exact h⟩
/-- where numbers are drawn -/
theorem call_to {T : List Fn} {k i : Nat} {f : Fn} {args : List D} {Q : D → Prop} (hf : T[i]? = some f) (hl : args.length = f.ar) (hb : ∀ κ : Ko, (κ.rt = Q) → evSs (cfN T k) f.body κ (start f args)) : cfN T (k + 1) i args Q :=
  ⟨f, hf, hl, hb _ rfl⟩
theorem flatA_ok {α : Type} {f : D → List D → W (List D)} {enc : α → D} {g : α → List D} : ∀ (xs : List α) (acc : List D), (∀ x ∈ xs, ∀ acc : List D, acc.length < lim → f (enc x) acc = W.ok (acc ++ g x)) → (∀ x ∈ xs, (g x).length ≤ 1) → acc.length + xs.length ≤ lim →
    flatA f (xs.map enc) acc = W.ok (acc ++ xs.flatMap g)
  | [], acc, _, _, _ => by simp [flatA]
  | x :: xs, acc, h, h1, hl => by
    rw [List.length_cons] at hl
    have e := h x (by simp) acc (by omega)
    have h2 := h1 x (by simp)
    have ih := flatA_ok xs (acc ++ g x) (fun y hy => h y (by simp [hy])) (fun y hy => h1 y (by simp [hy])) (by rw [List.length_append]; omega)
    rw [List.map_cons]
    show W.bind (f (enc x) acc) (fun a => flatA f (xs.map enc) a) = _
    rw [e, b_ok, ih, List.flatMap_cons, List.append_assoc]
theorem ev_comp {cf : Nat → List D → W D} {b : Bool} {own : List Nat} {t : Tg} {k : Ik} {es ifs : Es} {el : E} {Γ : Env} {as : List D} {α : Type} {xs : List α} {enc : α → D} (p : α → Bool) (e : α → D) (hes : evEs cf (pk k) es Γ = W.ok as) (hw : walkD k as = some (xs.map enc))
    (h : ∀ x ∈ xs, ∃ Γ', tgB t (enc x) (kill own Γ) = some Γ' ∧ evIfs cf ifs Γ' = W.ok (p x) ∧ (p x = true → ev cf false el Γ' = W.ok (e x))) (hl : xs.length ≤ lim) :
    ev cf b (.comp own t k es ifs (.elt el)) Γ = W.ok (.list ((xs.filter p).map e)) := by
  have main := flatA_ok (f := fun d acc => W.bind (W.opt (tgB t d (kill own Γ))) fun Γ' => W.bind (evIfs cf ifs Γ') fun c => if c then evG cf (.elt el) Γ' acc else W.ok acc) (enc := enc) (g := fun x => if p x then [e x] else []) xs [] (fun x hx acc ha => by
    obtain ⟨Γ', e1, e2, e3⟩ := h x hx
    rw [e1, b_some, e2, b_ok]
    cases q : p x with
    | false => simp
    | true =>
      have e3 := e3 q
      simp only [if_true, evG, e3, b_ok, decide_eq_true ha, gd_t, o_some]) (fun x hx => by split <;> simp) (by simpa using hl)
  have e : xs.flatMap (fun x => if p x then [e x] else []) = (xs.filter p).map e := by
    induction xs with
    | nil => rfl
    | cons x xs ih => 
      rw [List.flatMap_cons]
      have : ∀ (r : List α), r.flatMap (fun x => if p x then [e x] else []) = (r.filter p).map e := fun r => by
        induction r with
        | nil => rfl
        | cons y r ih => 
          rw [List.flatMap_cons, ih, List.filter_cons]
          split <;> simp
      rw [this, List.filter_cons]
      split <;> simp
  rw [List.nil_append, e] at main
  simp only [ev, hes, b_ok, hw, b_some]
  rw [main, b_ok]
/-- no test -/
theorem ev_comp0 {cf : Nat → List D → W D} {b : Bool} {own : List Nat} {t : Tg} {k : Ik} {es : Es} {el : E} {Γ : Env} {as : List D} {α : Type} {xs : List α} {enc : α → D} (e : α → D) (hes : evEs cf (pk k) es Γ = W.ok as) (hw : walkD k as = some (xs.map enc))
    (h : ∀ x ∈ xs, ∃ Γ', tgB t (enc x) (kill own Γ) = some Γ' ∧ ev cf false el Γ' = W.ok (e x)) (hl : xs.length ≤ lim) :
    ev cf b (.comp own t k es .nil (.elt el)) Γ = W.ok (.list (xs.map e)) := by
  have := ev_comp (b := b) (own := own) (t := t) (ifs := .nil) (el := el) (fun _ => true) e hes hw (fun x hx => let ⟨Γ', e1, e2⟩ := h x hx; ⟨Γ', e1, rfl, fun _ => e2⟩) hl
  rw [this, List.filter_eq_self.mpr (by simp)]
/-- a loop: S i is what stands (with the names of a turn wiped) behind i turns -/
theorem forL_eq {α : Type} {xs : List α} {enc : α → D} {ks : List Nat} {step : D → Ko → Env → Prop} {κ : Ko} (S : Nat → Env)
    (h : ∀ (i : Nat) (x : α), xs[i]? = some x → ∀ (κ' : Ko) (Γ : Env), kill ks Γ = S i → ∃ Γ', kill ks Γ' = S (i + 1) ∧ step (enc x) κ' Γ = κ'.nx Γ') {Γ : Env} (h0 : kill ks Γ = S 0) :
    forL step { κ with nx := fun Γ' => κ.nx (kill ks Γ') } (xs.map enc) Γ = κ.nx (S xs.length) := by
  suffices hh : ∀ (r : List α) (n : Nat) (Γ : Env), n + r.length = xs.length → (∀ i, r[i]? = xs[n + i]?) → kill ks Γ = S n → forL step { κ with nx := fun Γ' => κ.nx (kill ks Γ') } (r.map enc) Γ = κ.nx (S xs.length) from hh xs 0 Γ (by simp) (fun i => by simp) h0
  intro r
  induction r with
  | nil =>
    intro n Γ hl hi hk
    show κ.nx (kill ks Γ) = _
    rw [hk]
    rw [← hl]
    rfl
  | cons x r ih =>
    intro n Γ hl hi hk
    rw [List.map_cons]
    obtain ⟨Γ', e1, e2⟩ := h n x (by have := hi 0; simpa using this.symm) { κ with nx := forL step { κ with nx := fun Γ' => κ.nx (kill ks Γ') } (r.map enc), ct := forL step { κ with nx := fun Γ' => κ.nx (kill ks Γ') } (r.map enc), bk := fun Γ' => κ.nx (kill ks Γ') } Γ hk
    exact e2.trans (ih (n + 1) Γ' (by rw [← hl, List.length_cons]; omega) (fun i => by
      have := hi (i + 1)
      rw [List.getElem?_cons_succ] at this
      rw [this]
      congr 1
      omega) e1)
/-- a range as a list of numbers -/
theorem range_enc (n : Nat) : rangeL 0 (n : Int) = (List.range n).map fun (k : Nat) => PyData.int k := by
  unfold rangeL
  simp
theorem small_nat {n : Nat} (h : n ≤ lim) : smallI (n : Int) = true := by
  unfold smallI
  have : lim = 16777216 := rfl
  rw [Bool.and_eq_true, decide_eq_true_eq, decide_eq_true_eq]
  omega
theorem g_le {α : Type} {a b : Nat} {x : α} (h : a ≤ b) : gd (decide (a ≤ b)) x = some x := g_pos (decide_eq_true h)
section
variable {cf : Nat → List D → W D} {p : Bool} {Γ : Env} {κ : Ko}
theorem e_varT (i : Nat) : ev cf true (.var i) Γ = W.opt (peek (get Γ i)) := rfl
theorem e_varF (i : Nat) : ev cf false (.var i) Γ = W.opt (vals (get Γ i)) := rfl
theorem e_con (d : D) : ev cf p (.con d) Γ = W.ok d := rfl
theorem e_tup (es : Es) : ev cf p (.tup es) Γ = W.bind (evEs cf false es Γ) fun ds => W.ok (.tuple ds) := rfl
theorem e_lst (es : Es) : ev cf p (.lst es) Γ = W.bind (evEs cf false es Γ) fun ds => W.ok (.list ds) := rfl
theorem e_dct (es : Es) : ev cf p (.dct es) Γ = W.bind (evKV cf es Γ) fun ps => W.opt (gd (ps.all fun p => keyB p.1) (.dict (mergeD [] ps))) := rfl
theorem e_bin (o : Bop) (a b : E) : ev cf p (.bin o a b) Γ = W.bind (ev cf true a Γ) fun x => W.bind (ev cf true b Γ) fun y => W.opt (binD o x y) := rfl
theorem e_cat (a b : E) : ev cf p (.cat a b) Γ = W.bind (ev cf true a Γ) fun x => W.bind (ev cf true b Γ) fun y => W.opt (catD x y) := rfl
theorem e_neg (a : E) : ev cf p (.neg a) Γ = W.bind (ev cf false a Γ) fun x => W.bind (W.opt (intD x)) fun i => W.ok (.int (-i)) := rfl
theorem e_not (a : E) : ev cf p (.not a) Γ = W.bind (ev cf false a Γ) fun x => W.bind (W.opt (boolD x)) fun c => W.ok (.bool (!c)) := rfl
theorem e_and (a b : E) : ev cf p (.and a b) Γ = W.bind (ev cf false a Γ) fun x => W.bind (W.opt (boolD x)) fun c => if c then ev cf false b Γ else W.ok (.bool false) := rfl
theorem e_or (a b : E) : ev cf p (.or a b) Γ = W.bind (ev cf false a Γ) fun x => W.bind (W.opt (boolD x)) fun c => if c then W.ok (.bool true) else ev cf false b Γ := rfl
theorem e_cmp (o : Cop) (a b : E) : ev cf p (.cmp o a b) Γ = W.bind (ev cf true a Γ) fun x => W.bind (ev cf true b Γ) fun y => W.bind (W.opt (cmpD o x y)) fun c => W.ok (.bool c) := by
  funext Q
  show (ev cf true a Γ) (fun x => (ev cf true b Γ) fun y => W.opt ((cmpD o x y).map .bool) Q) = (ev cf true a Γ) (fun x => (ev cf true b Γ) fun y => W.opt (cmpD o x y) fun c => Q (.bool c))
  congr 1
  funext x
  congr 1
  funext y
  show (∃ b, (cmpD o x y).map PyData.bool = some b ∧ Q b) = ∃ c, cmpD o x y = some c ∧ Q (.bool c)
  cases cmpD o x y <;> simp
theorem e_ite (t a b : E) : ev cf p (.ite t a b) Γ = W.bind (ev cf false t Γ) fun x => W.bind (W.opt (boolD x)) fun c => if c then ev cf false a Γ else ev cf false b Γ := rfl
theorem e_idx (a i : E) : ev cf p (.idx a i) Γ = W.bind (ev cf true a Γ) fun x => W.bind (ev cf false i Γ) fun y => W.opt (idxD x y) := rfl
theorem e_cut (a : E) (lo hi : Es) : ev cf p (.cut a lo hi) Γ = W.bind (ev cf true a Γ) fun x => W.bind (evO cf lo Γ) fun l => W.bind (evO cf hi Γ) fun h => W.opt (cutD x l h) := rfl
theorem e_bi (f : Bi) (es : Es) : ev cf p (.bi f es) Γ = W.bind (evEs cf true es Γ) fun ds => W.opt (biD f ds) := rfl
theorem e_me (m : Me) (o : E) (es : Es) : ev cf p (.me m o es) Γ = W.bind (ev cf true o Γ) fun x => W.bind (W.opt (gd (meOk m x) ())) fun _ => W.bind (evEs cf false es Γ) fun ds => W.opt (meD m x ds) := rfl
theorem e_isi (a : E) (t : Ty) : ev cf p (.isi a t) Γ = W.bind (ev cf true a Γ) fun x => W.ok (.bool (isiD x t)) := rfl
theorem e_call (f : Nat) (es : Es) : ev cf p (.call f none es) Γ = W.bind (evEs cf false es Γ) fun ds => cf f ds := by
  funext Q
  apply propext
  exact ⟨fun ⟨_, _, h⟩ => h, fun h => ⟨(), rfl, h⟩⟩
theorem e_callW (f i : Nat) (es : Es) (h : isObj (get Γ i) = true) : ev cf p (.call f (some i) es) Γ = W.bind (evEs cf false es Γ) fun ds => cf f ds := by
  funext Q
  apply propext
  refine ⟨fun ⟨_, _, h⟩ => h, fun q => ⟨(), ?_, q⟩⟩
  show gd (isObj (get Γ i)) () = some ()
  rw [h]
  rfl
theorem e_nil : evEs cf p .nil Γ = W.ok [] := rfl
theorem e_cons (e : E) (es : Es) : evEs cf p (.cons e es) Γ = W.bind (ev cf p e Γ) fun d => W.bind (evEs cf p es Γ) fun ds => W.ok (d :: ds) := rfl
theorem e_o0 : evO cf .nil Γ = W.ok none := rfl
theorem e_o1 (e : E) : evO cf (.cons e .nil) Γ = W.bind (ev cf false e Γ) fun d => W.bind (W.opt (intD d)) fun i => W.ok (some i) := by
  funext Q
  show (ev cf false e Γ) (fun d => W.opt ((intD d).map some) Q) = (ev cf false e Γ) fun d => W.opt (intD d) fun i => Q (some i)
  congr 1
  funext d
  show (∃ b, (intD d).map some = some b ∧ Q b) = ∃ c, intD d = some c ∧ Q (some c)
  cases intD d <;> simp
theorem e_if0 : evIfs cf .nil Γ = W.ok true := rfl
theorem e_if1 (e : E) : evIfs cf (.cons e .nil) Γ = W.bind (ev cf false e Γ) fun x => W.bind (W.opt (boolD x)) fun c => W.ok c := by
  funext Q
  show (ev cf false e Γ) (fun x => W.opt (boolD x) fun c => (if c then W.ok true else W.ok false) Q) = (ev cf false e Γ) fun x => W.opt (boolD x) fun c => Q c
  congr 1
  funext x
  congr 1
  funext c
  cases c <;> rfl
theorem st_nil : evSs cf .nil κ Γ = κ.nx Γ := rfl
theorem st_cons (s : S) (ss : Ss) : evSs cf (.cons s ss) κ Γ = evS cf s { κ with nx := evSs cf ss κ } Γ := rfl
theorem st_asg (i : Nat) (e : E) : evS cf (.asg (.name i) e) κ Γ = (ev cf false e Γ) fun d => κ.nx (Γ.set i (if fresh e then .own d else .val d)) := rfl
theorem st_asgT (is : List Nat) (e : E) : evS cf (.asg (.tup is) e) κ Γ = (ev cf false e Γ) fun d => W.opt (tgB (.tup is) d Γ) κ.nx := rfl
theorem st_par (is : List Nat) (es : Es) : evS cf (.par is es) κ Γ = (evEs cf false es Γ) fun ds => κ.nx (setAll is (freshL es) ds Γ) := rfl
theorem st_ret (e : E) : evS cf (.ret e) κ Γ = (ev cf false e Γ) κ.rt := rfl
theorem st_brk : evS cf .brk κ Γ = κ.bk Γ := rfl
theorem st_ite (t : E) (a b : Ss) : evS cf (.ite t a b) κ Γ = (ev cf false t Γ) fun x => W.opt (boolD x) fun c => if c then evSs cf a κ Γ else evSs cf b κ Γ := rfl
theorem st_frz (i : Nat) {d : D} (h : get Γ i = .own d) : evS cf (.freeze i) κ Γ = κ.nx (Γ.set i (.val d)) := by
  apply propext
  constructor
  · rintro ⟨d', e, q⟩
    rw [h] at e
    cases e
    exact q
  · exact fun q => ⟨d, h, q⟩
theorem st_app (i : Nat) (e : E) {ds : List D} {y : D} (h : get Γ i = .own (.list ds)) (he : ev cf false e Γ = W.ok y) (hl : ds.length < lim) : evS cf (.append i e) κ Γ = κ.nx (Γ.set i (.own (.list (ds ++ [y])))) := by
  apply propext
  constructor
  · rintro ⟨d', e1, q⟩
    rw [h] at e1
    cases e1
    rw [he] at q
    exact q.2
  · intro q
    refine ⟨ds, h, ?_⟩
    rw [he]
    exact ⟨hl, q⟩
theorem st_ext (i : Nat) (e : E) {ds es : List D} (h : get Γ i = .own (.list ds)) (he : ev cf true e Γ = W.ok (.list es)) (hl : ds.length + es.length ≤ lim) : evS cf (.extend i e) κ Γ = κ.nx (Γ.set i (.own (.list (ds ++ es)))) := by
  apply propext
  constructor
  · rintro ⟨d', e1, q⟩
    rw [h] at e1
    cases e1
    rw [he] at q
    obtain ⟨es', e2, _, q⟩ := q
    cases e2
    exact q
  · intro q
    refine ⟨ds, h, ?_⟩
    rw [he]
    exact ⟨es, rfl, hl, q⟩
theorem st_put (i : Nat) (k v : E) {kvs : List (D × D)} {x y : D} (h : get Γ i = .own (.dict kvs)) (hv : ev cf false v Γ = W.ok y) (hk : ev cf false k Γ = W.ok x) (hx : keyB x = true) (hl : kvs.length < lim) : evS cf (.put i k v) κ Γ = κ.nx (Γ.set i (.own (.dict (putD kvs x y)))) := by
  apply propext
  constructor
  · rintro ⟨d', e1, q⟩
    rw [h] at e1
    cases e1
    rw [hv] at q
    have q : (ev cf false k Γ) _ := q
    rw [hk] at q
    exact q.2.2
  · intro q
    refine ⟨kvs, h, ?_⟩
    rw [hv]
    show (ev cf false k Γ) _
    rw [hk]
    exact ⟨hx, hl, q⟩
theorem st_for {α : Type} {xs : List α} {enc : α → D} {t : Tg} {k : Ik} {es : Es} {ks : List Nat} {b : Ss} {as : List D} (S : Nat → Env) (hes : evEs cf false es Γ = W.ok as) (hw : walkD k as = some (xs.map enc)) (h0 : kill ks Γ = S 0)
    (h : ∀ (i : Nat) (x : α), xs[i]? = some x → ∀ κ' : Ko, ∃ Γ0 Γ', tgB t (enc x) (S i) = some Γ0 ∧ kill ks Γ' = S (i + 1) ∧ evSs cf b κ' Γ0 = κ'.nx Γ') : evS cf (.for t k es ks b) κ Γ = κ.nx (S xs.length) := by
  have main := forL_eq (κ := κ) (enc := enc) (step := fun d κ' Γ' => ∃ Γ'', tgB t d (kill ks Γ') = some Γ'' ∧ evSs cf b κ' Γ'') S (fun i x hx κ' Γ1 hk => by
    obtain ⟨Γ0, Γ', e1, e2, e3⟩ := h i x hx κ'
    refine ⟨Γ', e2, ?_⟩
    rw [← e3]
    apply propext
    rw [hk, e1]
    exact ⟨fun ⟨_, z, q⟩ => by cases z; exact q, fun q => ⟨_, rfl, q⟩⟩) h0
  rw [← main]
  show (evEs cf false es Γ) (fun as => ∃ items, walkD k as = some items ∧ _) = _
  rw [hes]
  apply propext
  show (∃ items, walkD k as = some items ∧ _) ↔ _
  rw [hw]
  exact ⟨fun ⟨_, z, q⟩ => by cases z; exact q, fun q => ⟨_, rfl, q⟩⟩
end
end Ly

set_option maxRecDepth 100000
set_option maxHeartbeats 4000000
/-! What is alike: the comparing of the laws. -/
namespace Ly
open PySem
def alikeB (i : Nat) : Ss := (.cons (.ite (.isi (.var 1) .dict) (.cons (.ret (.and (.isi (.var 0) .dict) (.and (.cmp .eq (.bi .sorted (.cons (.var 0) .nil)) (.bi .sorted (.cons (.var 1) .nil))) (.cmp .eq (.comp [3] (.name 3) .keys (.cons (.var 1) .nil) (.cons (.not (.call i none (.cons (.idx (.var 0) (.var 3)) (.cons (.idx (.var 1) (.var 3)) .nil)))) .nil) (.elt (.var 3))) (.lst .nil))))) .nil) .nil) (.cons (.ite (.or (.isi (.var 1) .tuple) (.isi (.var 1) .list)) (.cons (.asg (.name 2) (.ite (.isi (.var 1) .tuple) (.isi (.var 0) .tuple) (.isi (.var 0) .list))) (.cons (.ret (.and (.var 2) (.and (.cmp .eq (.bi .len (.cons (.var 0) .nil)) (.bi .len (.cons (.var 1) .nil))) (.cmp .eq (.comp [4] (.name 4) .range (.cons (.bi .len (.cons (.var 1) .nil)) .nil) (.cons (.not (.call i none (.cons (.idx (.var 0) (.var 4)) (.cons (.idx (.var 1) (.var 4)) .nil)))) .nil) (.elt (.var 4))) (.lst .nil))))) .nil)) .nil) (.cons (.ite (.or (.cmp .is (.var 1) (.con .none)) (.isi (.var 1) .str)) (.cons (.ret (.ite (.cmp .is (.var 1) (.con .none)) (.cmp .is (.var 0) (.con .none)) (.and (.isi (.var 0) .str) (.cmp .eq (.var 0) (.var 1))))) .nil) .nil) (.cons (.ret (.and (.isi (.var 0) .int) (.and (.cmp .eq (.isi (.var 0) .bool) (.isi (.var 1) .bool)) (.cmp .eq (.var 0) (.var 1))))) .nil))))
/-- a value that is alike itself; the number: how deep it may be -/
def okA : Nat → D → Prop
  | 0, _ => False
  | n + 1, d => match d with
    | .tuple ds => ds.length ≤ 4000 ∧ ∀ x ∈ ds, okA n x
    | .list ds => ds.length ≤ 4000 ∧ ∀ x ∈ ds, okA n x
    | .dict kvs => (∃ ks, sortD (.dict kvs) = some (.list ks) ∧ cmpD .eq (.list ks) (.list ks) = some true) ∧ kvs.length ≤ 4000 ∧ ∀ p ∈ kvs, keyB p.1 = true ∧ getD kvs p.1 = some p.2 ∧ okA n p.2
    | _ => True
theorem isi_b (d : D) (t : Ty) : isiD d t = isiD d t := rfl
theorem eq_nil : cmpD .eq (.list []) (.list []) = some true := by decide
theorem idx_at {ds : List D} {k : Nat} (h : k < ds.length) : ((ixN ds.length (k : Int)).bind fun j => ds[j]?) = some ds[k] := by
  rw [x_nat h]
  exact List.getElem?_eq_getElem h
theorem alike_ok {T : List Fn} {i : Nat} (hT : T[i]? = some ⟨false, 2, 5, alikeB i⟩) : ∀ (n k : Nat) (d : D), okA n d → cfN T (k + n) i [d, d] = W.ok (.bool true)
  | 0, k, d, h => h.elim
  | n + 1, k, d, h => by
    refine call_eq hT rfl fun κ => ?_
    show evSs _ _ _ [.val d, .val d, .non, .non, .non] = _
    have seq : ∀ ds : List D, (ds.length ≤ 4000 ∧ ∀ x ∈ ds, okA n x) → (d = .tuple ds ∨ d = .list ds) → ∀ (b : Bool) (c : Sl), ev (cfN T (k + n)) b (.comp [4] (.name 4) .range (.cons (.bi .len (.cons (.var 1) .nil)) .nil) (.cons (.not (.call i none (.cons (.idx (.var 0) (.var 4)) (.cons (.idx (.var 1) (.var 4)) .nil)))) .nil) (.elt (.var 4))) [.val d, .val d, c, .non, .non] = W.ok (.list []) := fun ds hd e b c => by
      have lim_ : lim = 16777216 := rfl
      rw [ev_comp (xs := List.range ds.length) (enc := fun (k : Nat) => PyData.int k) (as := [.int ds.length]) (fun _ => false) (fun k => .int k) (by rcases e with rfl | rfl <;> simp only [e_varT, e_varF, e_con, e_tup, e_lst, e_dct, e_bin, e_cat, e_neg, e_not, e_and, e_or, e_cmp, e_ite, e_idx, e_cut, e_bi, e_me, e_isi, e_call, e_nil, e_cons, e_o0, e_o1, e_if0, e_if1, evKV, st_nil, st_cons, st_asg, st_asgT, st_par, st_ret, st_brk, st_ite, b_ok, b_some, b_b, o_some, q_b, q_ok, q_some, s_g0, s_gs, s_pv, s_po, s_vv, v_addI, v_sub, v_mul, v_div, v_mod, v_pow, c_eqI, p_seq, p_keys, p_range, p_zip, p_enum, p_items, p_values, c_eqS, c_eqB, c_eqN, c_neI, c_neS, c_lt, c_gt, c_le, c_ge, c_isN, c_isnotN, n_none, n_int, n_bool, n_str, n_tup, n_list, n_dict, Bool.not_true, Bool.not_false, gd_t, f_int, f_abs, f_tupL, f_tupT, f_listL, f_listT, f_listD, f_min, f_max, l_list, l_tup, l_dict, w_list, w_tup, w_keys, t_bool, t_int, s_k0, s_kc, s_tn, Ly.fresh, Ly.freshL, setAll, List.set_cons_zero, List.set_cons_succ, if_true, if_false, Bool.false_eq_true, ite_true, ite_false]) (by rw [w_range, small_nat (by omega), gd_t, range_enc]) (fun j hj => ⟨_, rfl, ?_, fun z => by cases z⟩) (by rw [List.length_range]; omega)]
      · rw [List.filter_eq_nil_iff.mpr (by simp)]
        rfl
      · have hj := List.mem_range.mp hj
        have ih := alike_ok hT n k ds[j] (hd.2 _ (List.getElem_mem hj))
        rcases e with rfl | rfl
        · simp only [e_varT, e_varF, e_con, e_tup, e_lst, e_dct, e_bin, e_cat, e_neg, e_not, e_and, e_or, e_cmp, e_ite, e_idx, e_cut, e_bi, e_me, e_isi, e_call, e_nil, e_cons, e_o0, e_o1, e_if0, e_if1, evKV, st_nil, st_cons, st_asg, st_asgT, st_par, st_ret, st_brk, st_ite, b_ok, b_some, b_b, o_some, q_b, q_ok, q_some, s_g0, s_gs, s_pv, s_po, s_vv, v_addI, v_sub, v_mul, v_div, v_mod, v_pow, c_eqI, p_seq, p_keys, p_range, p_zip, p_enum, p_items, p_values, c_eqS, c_eqB, c_eqN, c_neI, c_neS, c_lt, c_gt, c_le, c_ge, c_isN, c_isnotN, n_none, n_int, n_bool, n_str, n_tup, n_list, n_dict, Bool.not_true, Bool.not_false, gd_t, f_int, f_abs, f_tupL, f_tupT, f_listL, f_listT, f_listD, f_min, f_max, l_list, l_tup, l_dict, w_list, w_tup, w_keys, t_bool, t_int, s_k0, s_kc, s_tn, Ly.fresh, Ly.freshL, setAll, List.set_cons_zero, List.set_cons_succ, if_true, if_false, Bool.false_eq_true, ite_true, ite_false, x_tup, idx_at hj, ih, Bool.not_true]
        · simp only [e_varT, e_varF, e_con, e_tup, e_lst, e_dct, e_bin, e_cat, e_neg, e_not, e_and, e_or, e_cmp, e_ite, e_idx, e_cut, e_bi, e_me, e_isi, e_call, e_nil, e_cons, e_o0, e_o1, e_if0, e_if1, evKV, st_nil, st_cons, st_asg, st_asgT, st_par, st_ret, st_brk, st_ite, b_ok, b_some, b_b, o_some, q_b, q_ok, q_some, s_g0, s_gs, s_pv, s_po, s_vv, v_addI, v_sub, v_mul, v_div, v_mod, v_pow, c_eqI, p_seq, p_keys, p_range, p_zip, p_enum, p_items, p_values, c_eqS, c_eqB, c_eqN, c_neI, c_neS, c_lt, c_gt, c_le, c_ge, c_isN, c_isnotN, n_none, n_int, n_bool, n_str, n_tup, n_list, n_dict, Bool.not_true, Bool.not_false, gd_t, f_int, f_abs, f_tupL, f_tupT, f_listL, f_listT, f_listD, f_min, f_max, l_list, l_tup, l_dict, w_list, w_tup, w_keys, t_bool, t_int, s_k0, s_kc, s_tn, Ly.fresh, Ly.freshL, setAll, List.set_cons_zero, List.set_cons_succ, if_true, if_false, Bool.false_eq_true, ite_true, ite_false, x_list, idx_at hj, ih, Bool.not_true]
    cases d with
    | none => simp [alikeB, e_varT, e_varF, e_con, e_tup, e_lst, e_dct, e_bin, e_cat, e_neg, e_not, e_and, e_or, e_cmp, e_ite, e_idx, e_cut, e_bi, e_me, e_isi, e_call, e_nil, e_cons, e_o0, e_o1, e_if0, e_if1, evKV, st_nil, st_cons, st_asg, st_asgT, st_par, st_ret, st_brk, st_ite, b_ok, b_some, b_b, o_some, q_b, q_ok, q_some, s_g0, s_gs, s_pv, s_po, s_vv, v_addI, v_sub, v_mul, v_div, v_mod, v_pow, c_eqI, p_seq, p_keys, p_range, p_zip, p_enum, p_items, p_values, c_eqS, c_eqB, c_eqN, c_neI, c_neS, c_lt, c_gt, c_le, c_ge, c_isN, c_isnotN, n_none, n_int, n_bool, n_str, n_tup, n_list, n_dict, Bool.not_true, Bool.not_false, gd_t, f_int, f_abs, f_tupL, f_tupT, f_listL, f_listT, f_listD, f_min, f_max, l_list, l_tup, l_dict, w_list, w_tup, w_keys, t_bool, t_int, s_k0, s_kc, s_tn, Ly.fresh, Ly.freshL, setAll, List.set_cons_zero, List.set_cons_succ, if_true, if_false, Bool.false_eq_true, ite_true, ite_false, isiD]
    | bool c => simp [alikeB, e_varT, e_varF, e_con, e_tup, e_lst, e_dct, e_bin, e_cat, e_neg, e_not, e_and, e_or, e_cmp, e_ite, e_idx, e_cut, e_bi, e_me, e_isi, e_call, e_nil, e_cons, e_o0, e_o1, e_if0, e_if1, evKV, st_nil, st_cons, st_asg, st_asgT, st_par, st_ret, st_brk, st_ite, b_ok, b_some, b_b, o_some, q_b, q_ok, q_some, s_g0, s_gs, s_pv, s_po, s_vv, v_addI, v_sub, v_mul, v_div, v_mod, v_pow, c_eqI, p_seq, p_keys, p_range, p_zip, p_enum, p_items, p_values, c_eqS, c_eqB, c_eqN, c_neI, c_neS, c_lt, c_gt, c_le, c_ge, c_isN, c_isnotN, n_none, n_int, n_bool, n_str, n_tup, n_list, n_dict, Bool.not_true, Bool.not_false, gd_t, f_int, f_abs, f_tupL, f_tupT, f_listL, f_listT, f_listD, f_min, f_max, l_list, l_tup, l_dict, w_list, w_tup, w_keys, t_bool, t_int, s_k0, s_kc, s_tn, Ly.fresh, Ly.freshL, setAll, List.set_cons_zero, List.set_cons_succ, if_true, if_false, Bool.false_eq_true, ite_true, ite_false, isiD]
    | int c => simp [alikeB, e_varT, e_varF, e_con, e_tup, e_lst, e_dct, e_bin, e_cat, e_neg, e_not, e_and, e_or, e_cmp, e_ite, e_idx, e_cut, e_bi, e_me, e_isi, e_call, e_nil, e_cons, e_o0, e_o1, e_if0, e_if1, evKV, st_nil, st_cons, st_asg, st_asgT, st_par, st_ret, st_brk, st_ite, b_ok, b_some, b_b, o_some, q_b, q_ok, q_some, s_g0, s_gs, s_pv, s_po, s_vv, v_addI, v_sub, v_mul, v_div, v_mod, v_pow, c_eqI, p_seq, p_keys, p_range, p_zip, p_enum, p_items, p_values, c_eqS, c_eqB, c_eqN, c_neI, c_neS, c_lt, c_gt, c_le, c_ge, c_isN, c_isnotN, n_none, n_int, n_bool, n_str, n_tup, n_list, n_dict, Bool.not_true, Bool.not_false, gd_t, f_int, f_abs, f_tupL, f_tupT, f_listL, f_listT, f_listD, f_min, f_max, l_list, l_tup, l_dict, w_list, w_tup, w_keys, t_bool, t_int, s_k0, s_kc, s_tn, Ly.fresh, Ly.freshL, setAll, List.set_cons_zero, List.set_cons_succ, if_true, if_false, Bool.false_eq_true, ite_true, ite_false, isiD]
    | str c => simp [alikeB, e_varT, e_varF, e_con, e_tup, e_lst, e_dct, e_bin, e_cat, e_neg, e_not, e_and, e_or, e_cmp, e_ite, e_idx, e_cut, e_bi, e_me, e_isi, e_call, e_nil, e_cons, e_o0, e_o1, e_if0, e_if1, evKV, st_nil, st_cons, st_asg, st_asgT, st_par, st_ret, st_brk, st_ite, b_ok, b_some, b_b, o_some, q_b, q_ok, q_some, s_g0, s_gs, s_pv, s_po, s_vv, v_addI, v_sub, v_mul, v_div, v_mod, v_pow, c_eqI, p_seq, p_keys, p_range, p_zip, p_enum, p_items, p_values, c_eqS, c_eqB, c_eqN, c_neI, c_neS, c_lt, c_gt, c_le, c_ge, c_isN, c_isnotN, n_none, n_int, n_bool, n_str, n_tup, n_list, n_dict, Bool.not_true, Bool.not_false, gd_t, f_int, f_abs, f_tupL, f_tupT, f_listL, f_listT, f_listD, f_min, f_max, l_list, l_tup, l_dict, w_list, w_tup, w_keys, t_bool, t_int, s_k0, s_kc, s_tn, Ly.fresh, Ly.freshL, setAll, List.set_cons_zero, List.set_cons_succ, if_true, if_false, Bool.false_eq_true, ite_true, ite_false, isiD]
    | tuple ds =>
      have := seq ds h (.inl rfl)
      simp [alikeB, e_varT, e_varF, e_con, e_tup, e_lst, e_dct, e_bin, e_cat, e_neg, e_not, e_and, e_or, e_cmp, e_ite, e_idx, e_cut, e_bi, e_me, e_isi, e_call, e_nil, e_cons, e_o0, e_o1, e_if0, e_if1, evKV, st_nil, st_cons, st_asg, st_asgT, st_par, st_ret, st_brk, st_ite, b_ok, b_some, b_b, o_some, q_b, q_ok, q_some, s_g0, s_gs, s_pv, s_po, s_vv, v_addI, v_sub, v_mul, v_div, v_mod, v_pow, c_eqI, p_seq, p_keys, p_range, p_zip, p_enum, p_items, p_values, c_eqS, c_eqB, c_eqN, c_neI, c_neS, c_lt, c_gt, c_le, c_ge, c_isN, c_isnotN, n_none, n_int, n_bool, n_str, n_tup, n_list, n_dict, Bool.not_true, Bool.not_false, gd_t, f_int, f_abs, f_tupL, f_tupT, f_listL, f_listT, f_listD, f_min, f_max, l_list, l_tup, l_dict, w_list, w_tup, w_keys, t_bool, t_int, s_k0, s_kc, s_tn, Ly.fresh, Ly.freshL, setAll, List.set_cons_zero, List.set_cons_succ, if_true, if_false, Bool.false_eq_true, ite_true, ite_false, isiD, this, eq_nil]
    | list ds =>
      have := seq ds h (.inr rfl)
      simp [alikeB, e_varT, e_varF, e_con, e_tup, e_lst, e_dct, e_bin, e_cat, e_neg, e_not, e_and, e_or, e_cmp, e_ite, e_idx, e_cut, e_bi, e_me, e_isi, e_call, e_nil, e_cons, e_o0, e_o1, e_if0, e_if1, evKV, st_nil, st_cons, st_asg, st_asgT, st_par, st_ret, st_brk, st_ite, b_ok, b_some, b_b, o_some, q_b, q_ok, q_some, s_g0, s_gs, s_pv, s_po, s_vv, v_addI, v_sub, v_mul, v_div, v_mod, v_pow, c_eqI, p_seq, p_keys, p_range, p_zip, p_enum, p_items, p_values, c_eqS, c_eqB, c_eqN, c_neI, c_neS, c_lt, c_gt, c_le, c_ge, c_isN, c_isnotN, n_none, n_int, n_bool, n_str, n_tup, n_list, n_dict, Bool.not_true, Bool.not_false, gd_t, f_int, f_abs, f_tupL, f_tupT, f_listL, f_listT, f_listD, f_min, f_max, l_list, l_tup, l_dict, w_list, w_tup, w_keys, t_bool, t_int, s_k0, s_kc, s_tn, Ly.fresh, Ly.freshL, setAll, List.set_cons_zero, List.set_cons_succ, if_true, if_false, Bool.false_eq_true, ite_true, ite_false, isiD, this, eq_nil]
    | dict kvs =>
      obtain ⟨⟨ks, h1, h2⟩, h3, h4⟩ := h
      have lim_ : lim = 16777216 := rfl
      have sd : biD .sorted [.dict kvs] = some (.list ks) := h1
      have := fun b => ev_comp (cf := cfN T (k + n)) (b := b) (own := [3]) (t := .name 3) (k := .keys) (es := .cons (.var 1) .nil) (ifs := .cons (.not (.call i none (.cons (.idx (.var 0) (.var 3)) (.cons (.idx (.var 1) (.var 3)) .nil)))) .nil) (el := .var 3) (Γ := [.val (.dict kvs), .val (.dict kvs), .non, .non, .non]) (xs := kvs) (enc := fun p => p.1) (as := [.dict kvs]) (fun _ => false) (fun p => p.1) (by simp only [e_varT, e_varF, e_con, e_tup, e_lst, e_dct, e_bin, e_cat, e_neg, e_not, e_and, e_or, e_cmp, e_ite, e_idx, e_cut, e_bi, e_me, e_isi, e_call, e_nil, e_cons, e_o0, e_o1, e_if0, e_if1, evKV, st_nil, st_cons, st_asg, st_asgT, st_par, st_ret, st_brk, st_ite, b_ok, b_some, b_b, o_some, q_b, q_ok, q_some, s_g0, s_gs, s_pv, s_po, s_vv, v_addI, v_sub, v_mul, v_div, v_mod, v_pow, c_eqI, p_seq, p_keys, p_range, p_zip, p_enum, p_items, p_values, c_eqS, c_eqB, c_eqN, c_neI, c_neS, c_lt, c_gt, c_le, c_ge, c_isN, c_isnotN, n_none, n_int, n_bool, n_str, n_tup, n_list, n_dict, Bool.not_true, Bool.not_false, gd_t, f_int, f_abs, f_tupL, f_tupT, f_listL, f_listT, f_listD, f_min, f_max, l_list, l_tup, l_dict, w_list, w_tup, w_keys, t_bool, t_int, s_k0, s_kc, s_tn, Ly.fresh, Ly.freshL, setAll, List.set_cons_zero, List.set_cons_succ, if_true, if_false, Bool.false_eq_true, ite_true, ite_false]) rfl (fun p hp => by
        obtain ⟨q1, q2, q3⟩ := h4 p hp
        refine ⟨_, rfl, ?_, fun z => by cases z⟩
        have ih := alike_ok hT n k p.2 q3
        have ix : idxD (.dict kvs) p.1 = some p.2 := by
          show (gd (keyB p.1) () >>= fun _ => getD kvs p.1) = _
          rw [q1]
          exact q2
        simp only [e_varT, e_varF, e_con, e_tup, e_lst, e_dct, e_bin, e_cat, e_neg, e_not, e_and, e_or, e_cmp, e_ite, e_idx, e_cut, e_bi, e_me, e_isi, e_call, e_nil, e_cons, e_o0, e_o1, e_if0, e_if1, evKV, st_nil, st_cons, st_asg, st_asgT, st_par, st_ret, st_brk, st_ite, b_ok, b_some, b_b, o_some, q_b, q_ok, q_some, s_g0, s_gs, s_pv, s_po, s_vv, v_addI, v_sub, v_mul, v_div, v_mod, v_pow, c_eqI, p_seq, p_keys, p_range, p_zip, p_enum, p_items, p_values, c_eqS, c_eqB, c_eqN, c_neI, c_neS, c_lt, c_gt, c_le, c_ge, c_isN, c_isnotN, n_none, n_int, n_bool, n_str, n_tup, n_list, n_dict, Bool.not_true, Bool.not_false, gd_t, f_int, f_abs, f_tupL, f_tupT, f_listL, f_listT, f_listD, f_min, f_max, l_list, l_tup, l_dict, w_list, w_tup, w_keys, t_bool, t_int, s_k0, s_kc, s_tn, Ly.fresh, Ly.freshL, setAll, List.set_cons_zero, List.set_cons_succ, if_true, if_false, Bool.false_eq_true, ite_true, ite_false, ix, ih, Bool.not_true]) (by omega)
      rw [List.filter_eq_nil_iff.mpr (by simp)] at this
      simp [alikeB, e_varT, e_varF, e_con, e_tup, e_lst, e_dct, e_bin, e_cat, e_neg, e_not, e_and, e_or, e_cmp, e_ite, e_idx, e_cut, e_bi, e_me, e_isi, e_call, e_nil, e_cons, e_o0, e_o1, e_if0, e_if1, evKV, st_nil, st_cons, st_asg, st_asgT, st_par, st_ret, st_brk, st_ite, b_ok, b_some, b_b, o_some, q_b, q_ok, q_some, s_g0, s_gs, s_pv, s_po, s_vv, v_addI, v_sub, v_mul, v_div, v_mod, v_pow, c_eqI, p_seq, p_keys, p_range, p_zip, p_enum, p_items, p_values, c_eqS, c_eqB, c_eqN, c_neI, c_neS, c_lt, c_gt, c_le, c_ge, c_isN, c_isnotN, n_none, n_int, n_bool, n_str, n_tup, n_list, n_dict, Bool.not_true, Bool.not_false, gd_t, f_int, f_abs, f_tupL, f_tupT, f_listL, f_listT, f_listD, f_min, f_max, l_list, l_tup, l_dict, w_list, w_tup, w_keys, t_bool, t_int, s_k0, s_kc, s_tn, Ly.fresh, Ly.freshL, setAll, List.set_cons_zero, List.set_cons_succ, if_true, if_false, Bool.false_eq_true, ite_true, ite_false, isiD, this, eq_nil, sd, h2]
end Ly

set_option maxRecDepth 100000
set_option maxHeartbeats 4000000
/-! Dicts by names, sorted lists. -/
namespace Ly
open PySem
/-- a dict by names -/
def sd (kvs : List (Str × D)) : List (D × D) := kvs.map fun p => (.str p.1, p.2)
theorem keyEq_str (a b : Str) : keyEq (.str a) (.str b) = (a == b) := rfl
theorem sd_get {kvs : List (Str × D)} (hn : (kvs.map (·.1)).Nodup) {k : Str} {v : D} (h : (k, v) ∈ kvs) : getD (sd kvs) (.str k) = some v := by
  induction kvs with
  | nil => cases h
  | cons p r ih =>
    rw [List.map_cons, List.nodup_cons] at hn
    unfold getD sd
    rw [List.map_cons, List.find?_cons]
    by_cases e : p.1 = k
    · have hp : (k, v) = p := by
        rcases List.mem_cons.mp h with h | h
        · exact h
        · exact absurd (List.mem_map.mpr ⟨_, h, rfl⟩) (by rw [← e]; exact hn.1)
      rw [← hp]
      simp [keyEq_str]
    · have hp : (k, v) ∈ r := by
        rcases List.mem_cons.mp h with h | h
        · rw [← h] at e; exact absurd rfl e
        · exact h
      have q : (p.1 == k) = false := by simpa using e
      simp only [keyEq_str, q]
      exact ih hn.2 hp
theorem sd_none {kvs : List (Str × D)} {k : Str} (h : ∀ p ∈ kvs, p.1 ≠ k) : getD (sd kvs) (.str k) = none := by
  unfold getD sd
  rw [Option.map_eq_none_iff, List.find?_eq_none]
  intro x hx
  obtain ⟨p, hp, rfl⟩ := List.mem_map.mp hx
  simpa [keyEq_str] using h p hp
theorem sd_has {kvs : List (Str × D)} {k : Str} : hasD (sd kvs) (.str k) = (kvs.map (·.1)).any (· == k) := by
  unfold hasD sd
  rw [List.any_map, List.any_map]
  rfl
/-- a new name -/
theorem sd_put {kvs : List (Str × D)} {k : Str} {v : D} (h : ∀ p ∈ kvs, p.1 ≠ k) : putD (sd kvs) (.str k) v = sd (kvs ++ [(k, v)]) := by
  unfold putD
  rw [sd_has]
  have : (kvs.map (·.1)).any (· == k) = false := by
    rw [List.any_eq_false]
    intro x hx
    obtain ⟨p, hp, rfl⟩ := List.mem_map.mp hx
    simpa using h p hp
  rw [this]
  unfold sd
  simp
theorem sd_merge : ∀ {more kvs : List (Str × D)}, ((kvs ++ more).map (·.1)).Nodup → mergeD (sd kvs) (sd more) = sd (kvs ++ more)
  | [], kvs, h => by simp [mergeD, sd]
  | p :: r, kvs, h => by
    have hp : ∀ q ∈ kvs, q.1 ≠ p.1 := fun q hq e => by
      rw [List.map_append, List.nodup_append] at h
      exact h.2.2 q.1 (List.mem_map.mpr ⟨q, hq, rfl⟩) p.1 (by simp) e
    have ih := sd_merge (more := r) (kvs := kvs ++ [p]) (by rw [List.append_assoc]; exact h)
    unfold mergeD at ih ⊢
    show List.foldl _ (putD (sd kvs) (.str p.1) p.2) (sd r) = _
    rw [sd_put hp, ih, List.append_assoc]
    rfl
theorem sd_merge0 {more : List (Str × D)} (h : (more.map (·.1)).Nodup) : mergeD [] (sd more) = sd more := sd_merge (kvs := []) h
theorem sd_pairs : ∀ (kvs : List (Str × D)), pairs (kvs.map fun p => .tuple [.str p.1, p.2]) = some (sd kvs)
  | [] => rfl
  | p :: r => by
    rw [List.map_cons]
    show (pairs _).map _ = _
    rw [sd_pairs r]
    rfl
theorem sd_keys {kvs : List (Str × D)} : ((sd kvs).all fun p => keyB p.1) = true := by
  rw [List.all_eq_true]
  intro x hx
  obtain ⟨p, hp, rfl⟩ := List.mem_map.mp hx
  rfl
/-- dict(rows) of rows with unlike names -/
theorem sd_dict {kvs : List (Str × D)} (h : (kvs.map (·.1)).Nodup) : biD .dict [.list (kvs.map fun p => .tuple [.str p.1, p.2])] = some (.dict (sd kvs)) := by
  show ((pairs _).bind _) = _
  rw [sd_pairs]
  show gd ((sd kvs).all fun p => keyB p.1) _ = _
  rw [sd_keys, sd_merge0 h]
  rfl
theorem sd_items (kvs : List (Str × D)) : biD .listItems [.dict (sd kvs)] = some (.list (kvs.map fun p => .tuple [.str p.1, p.2])) := by
  rw [f_items]
  unfold sd
  rw [List.map_map]
  rfl
theorem sd_fst (kvs : List (Str × D)) : (sd kvs).map (·.1) = kvs.map fun p => .str p.1 := by
  unfold sd
  rw [List.map_map]
  rfl
/-! ### sorted -/
theorem srt_id {ds : List D} (h : ds.Pairwise fun a b => leB a b = true) : sortL ds = ds := List.mergeSort_of_pairwise h
theorem leB_str (a b : Str) : leB (.str a) (.str b) = !decide (b.cps.toList < a.cps.toList) := by
  show (!PySem.W.dataLt (.str b) (.str a)) = _
  rw [PySem.W.dataLt_str]
theorem leB_int (a b : Int) : leB (.int a) (.int b) = decide (a ≤ b) := by
  show (!PySem.W.dataLt (.int b) (.int a)) = _
  rw [PySem.W.dataLt_int]
  by_cases h : a ≤ b
  · rw [decide_eq_true h, decide_eq_false (by omega)]; rfl
  · rw [decide_eq_false h, decide_eq_true (by omega)]; rfl
theorem sortOk_strs {xs : List Str} (h : ∀ x ∈ xs, sh (.str x) = true) : sortOk (xs.map .str) = true := by
  unfold sortOk allAlike sortable
  rw [Bool.and_eq_true, Bool.and_eq_true]
  refine ⟨⟨List.all_eq_true.mpr fun a ha => List.all_eq_true.mpr fun b hb => ?_, ?_⟩, List.all_eq_true.mpr fun a ha => ?_⟩
  · obtain ⟨x, _, rfl⟩ := List.mem_map.mp ha
    obtain ⟨y, _, rfl⟩ := List.mem_map.mp hb
    rfl
  · rw [Bool.or_eq_true]
    refine .inr (List.all_eq_true.mpr fun a ha => ?_)
    obtain ⟨x, _, rfl⟩ := List.mem_map.mp ha
    rfl
  · obtain ⟨x, hx, rfl⟩ := List.mem_map.mp ha
    exact h x hx
theorem sh_int (i : Int) : sh (.int i) = true := by
  unfold sh SeqAt.shaped
  simp [PyData.canLay0, PyData.depth]
theorem sortOk_ints (xs : List Int) : sortOk (xs.map .int) = true := by
  unfold sortOk allAlike sortable
  rw [Bool.and_eq_true, Bool.and_eq_true]
  refine ⟨⟨List.all_eq_true.mpr fun a ha => List.all_eq_true.mpr fun b hb => ?_, ?_⟩, List.all_eq_true.mpr fun a ha => ?_⟩
  · obtain ⟨x, _, rfl⟩ := List.mem_map.mp ha
    obtain ⟨y, _, rfl⟩ := List.mem_map.mp hb
    rfl
  · rw [Bool.or_eq_true]
    refine .inr (List.all_eq_true.mpr fun a ha => ?_)
    obtain ⟨x, _, rfl⟩ := List.mem_map.mp ha
    rfl
  · obtain ⟨x, hx, rfl⟩ := List.mem_map.mp ha
    exact sh_int x
theorem sorted_of {d : D} {ds es : List D} (hk : keysOf d = some ds) (h1 : sortOk ds = true) (h2 : ds.length ≤ lim) (h3 : sortL ds = es) : biD .sorted [d] = some (.list es) := by
  show sortD d = _
  unfold sortD
  rw [hk, Option.bind_some, h1, decide_eq_true h2, h3]
  rfl
/-- a row in order, whatever its order was -/
theorem srt_perm {ds es : List D} (anti : ∀ a ∈ ds, ∀ b ∈ ds, leB a b = true → leB b a = true → a = b) (p : es.Perm ds) (h : es.Pairwise fun a b => leB a b = true) : sortL ds = es := by
  have tot : PySem.W.TotalLe leB := by
    show PySem.W.TotalLe (fun a b => PySem.W.dataLe false id a b)
    unfold PySem.W.dataLe
    exact PySem.W.sortLe_total _ _ _
  have p2 : (sortL ds).Perm es := (List.mergeSort_perm ds leB).trans p.symm
  refine List.Perm.eq_of_pairwise (le := fun a b => leB a b = true) (fun a b ha hb h1 h2 => ?_) (PySem.W.sort_pairwise tot ds) h p2
  exact anti a ((List.mergeSort_perm ds leB).mem_iff.mp ha) b (p.mem_iff.mp hb) h1 h2
theorem anti_str {a b : Str} (h1 : leB (.str a) (.str b) = true) (h2 : leB (.str b) (.str a) = true) : a = b := by
  rw [leB_str, Bool.not_eq_true', decide_eq_false_iff_not] at h1 h2
  exact PySem.W.str_of_cps (List.le_antisymm (List.not_lt.mp h1) (List.not_lt.mp h2))
theorem srt_strs {xs ys : List Str} (p : ys.Perm xs) (h : ys.Pairwise fun a b => leB (.str a) (.str b) = true) : sortL (xs.map .str) = ys.map .str :=
  srt_perm (fun a ha b hb h1 h2 => by
    obtain ⟨x, _, rfl⟩ := List.mem_map.mp ha
    obtain ⟨y, _, rfl⟩ := List.mem_map.mp hb
    rw [anti_str h1 h2]) (p.map _) (List.pairwise_map.mpr h)
/-- of plain values, so deep at most -/
def lay (n : Nat) (d : D) : Prop := d.canLay0 = true ∧ d.depth ≤ n
theorem lay_sh {n : Nat} {d : D} (h : lay n d) (hn : n ≤ 64) : sh d = true := by
  unfold sh SeqAt.shaped
  rw [h.1, decide_eq_true (Nat.le_trans h.2 hn)]
  rfl
theorem lay_all {n : Nat} : ∀ {ds : List D}, (∀ x ∈ ds, lay n x) → PyData.canLayAll0 ds = true ∧ PyData.depthAll ds ≤ n
  | [], _ => ⟨rfl, Nat.zero_le _⟩
  | x :: r, h => by
    obtain ⟨h1, h2⟩ := lay_all (ds := r) fun y hy => h y (by simp [hy])
    obtain ⟨h3, h4⟩ := h x (by simp)
    refine ⟨?_, ?_⟩
    · simp only [PyData.canLayAll0, h1, h3]
      rfl
    · simp only [PyData.depthAll]
      omega
theorem lay_list {n : Nat} {ds : List D} (h : ∀ x ∈ ds, lay n x) : lay (n + 1) (.list ds) := by
  obtain ⟨h1, h2⟩ := lay_all h
  refine ⟨by simpa only [PyData.canLay0] using h1, ?_⟩
  simp only [PyData.depth]
  omega
theorem lay_tup {n : Nat} {ds : List D} (h : ∀ x ∈ ds, lay n x) : lay (n + 1) (.tuple ds) := by
  obtain ⟨h1, h2⟩ := lay_all h
  refine ⟨by simpa only [PyData.canLay0] using h1, ?_⟩
  simp only [PyData.depth]
  omega
theorem lay_int {n : Nat} (i : Int) : lay n (.int i) := ⟨rfl, by simp [PyData.depth]⟩
theorem lay_bool {n : Nat} (i : Bool) : lay n (.bool i) := ⟨rfl, by simp [PyData.depth]⟩
theorem lay_none {n : Nat} : lay n .none := ⟨rfl, by simp [PyData.depth]⟩
theorem lay_str {n : Nat} {x : Str} (h : sh (.str x) = true) : lay n (.str x) := ⟨SeqAt.canLay_of_shaped h, by simp [PyData.depth]⟩
theorem eq_self {n : Nat} {d : D} (h : lay n d) (hn : n ≤ 64) (hd : ∀ kvs, d ≠ .dict kvs) : cmpD .eq d d = some true := by
  have hs := lay_sh h hn
  have he : PyData.eqv d d = true := SeqAt.eqv_refl _ h.1
  have main : gd (sh d && sh d) (PyData.eqv d d) = some true := by rw [hs, he]; rfl
  cases d with
  | none => rfl
  | bool b => exact congrArg some (beq_self_eq_true b)
  | int b => exact congrArg some (beq_self_eq_true b)
  | str b => exact congrArg some (beq_self_eq_true b)
  | list ds => exact main
  | tuple ds => exact main
  | dict kvs => exact absurd rfl (hd kvs)
theorem eq_strs {xs : List Str} (h : ∀ x ∈ xs, sh (.str x) = true) : cmpD .eq (.list (xs.map .str)) (.list (xs.map .str)) = some true :=
  eq_self (n := 1) (lay_list fun x hx => by
    obtain ⟨y, hy, rfl⟩ := List.mem_map.mp hx
    exact lay_str (h y hy)) (by decide) fun _ z => nomatch z
/-- == of plain things, by what they are -/
theorem eq_lay {n : Nat} {d e : D} (h : lay n d) (h2 : lay n e) (hn : n ≤ 64) (c : Bool) (hd : PyData.eqv d e = c) (hl : (∃ a, d = .list a) ∨ (∃ a, d = .tuple a) ∨ (∃ a, e = .list a) ∨ ∃ a, e = .tuple a) : cmpD .eq d e = some c := by
  have main : gd (sh d && sh e) (PyData.eqv d e) = some c := by rw [lay_sh h hn, lay_sh h2 hn, hd]; rfl
  rcases hl with ⟨a, rfl⟩ | ⟨a, rfl⟩ | ⟨a, rfl⟩ | ⟨a, rfl⟩
  · exact main
  · exact main
  · cases d <;> exact main
  · cases d <;> exact main
end Ly

set_option maxRecDepth 100000
set_option maxHeartbeats 4000000
/-! Two runs of a text without draws agree; comprehensions as one rule; loops by folds. -/
namespace Ly
open PySem
def Agree {α : Type} (m : W α) : Prop := ∀ P Q : α → Prop, m P → m Q → ∃ a, P a ∧ Q a
section
variable {α β : Type}
theorem ag_ok (a : α) : Agree (W.ok a) := fun P Q h1 h2 => ⟨a, h1, h2⟩
theorem ag_bind {m : W α} {f : α → W β} (h : Agree m) (hf : ∀ a, Agree (f a)) : Agree (W.bind m f) := fun P Q h1 h2 =>
  let ⟨a, p, q⟩ := h _ _ h1 h2
  hf a _ _ p q
theorem ag_opt (o : Option α) : Agree (W.opt o) := fun P Q ⟨a, e, h1⟩ ⟨b, e2, h2⟩ => ⟨a, h1, by rw [e] at e2; cases e2; exact h2⟩
theorem ag_ite {c : Prop} [Decidable c] {a b : W α} (h1 : Agree a) (h2 : Agree b) : Agree (if c then a else b) := by split <;> assumption
theorem ag_flat {f : D → List D → W (List D)} (h : ∀ d acc, Agree (f d acc)) : ∀ ds acc, Agree (flatA f ds acc)
  | [], acc => ag_ok acc
  | d :: ds, acc => ag_bind (h d acc) fun a => ag_flat h ds a
end
section
variable {cf : Nat → List D → W D} (hc : ∀ f ds, Agree (cf f ds))
include hc
mutual
theorem ag_ev (p : Bool) : ∀ (e : E) (Γ : Env), Agree (ev cf p e Γ)
  | .var i, Γ => ag_opt _
  | .con d, _ => ag_ok _
  | .tup es, Γ => ag_bind (ag_evEs false es Γ) fun _ => ag_ok _
  | .lst es, Γ => ag_bind (ag_evEs false es Γ) fun _ => ag_ok _
  | .dct es, Γ => ag_bind (ag_evKV es Γ) fun _ => ag_opt _
  | .bin o a b, Γ => ag_bind (ag_ev true a Γ) fun _ => ag_bind (ag_ev true b Γ) fun _ => ag_opt _
  | .neg a, Γ => ag_bind (ag_ev false a Γ) fun _ => ag_bind (ag_opt _) fun _ => ag_ok _
  | .not a, Γ => ag_bind (ag_ev false a Γ) fun _ => ag_bind (ag_opt _) fun _ => ag_ok _
  | .and a b, Γ => ag_bind (ag_ev false a Γ) fun _ => ag_bind (ag_opt _) fun _ => ag_ite (ag_ev false b Γ) (ag_ok _)
  | .or a b, Γ => ag_bind (ag_ev false a Γ) fun _ => ag_bind (ag_opt _) fun _ => ag_ite (ag_ok _) (ag_ev false b Γ)
  | .cmp o a b, Γ => ag_bind (ag_ev true a Γ) fun _ => ag_bind (ag_ev true b Γ) fun _ => ag_opt _
  | .cmp2 o o2 a b c, Γ => ag_bind (ag_ev true a Γ) fun _ => ag_bind (ag_ev true b Γ) fun _ => ag_bind (ag_opt _) fun _ => ag_ite (ag_bind (ag_ev true c Γ) fun _ => ag_opt _) (ag_ok _)
  | .ite t a b, Γ => ag_bind (ag_ev false t Γ) fun _ => ag_bind (ag_opt _) fun _ => ag_ite (ag_ev false a Γ) (ag_ev false b Γ)
  | .idx a i, Γ => ag_bind (ag_ev true a Γ) fun _ => ag_bind (ag_ev false i Γ) fun _ => ag_opt _
  | .cut a lo hi, Γ => ag_bind (ag_ev true a Γ) fun _ => ag_bind (ag_evO lo Γ) fun _ => ag_bind (ag_evO hi Γ) fun _ => ag_opt _
  | .rev a, Γ => ag_bind (ag_ev true a Γ) fun _ => ag_opt _
  | .comp own t k es ifs rest, Γ => ag_bind (ag_evEs _ es Γ) fun _ => ag_bind (ag_opt _) fun _ => ag_bind (ag_flat (fun _ _ => ag_bind (ag_opt _) fun _ => ag_bind (ag_evIfs ifs _) fun _ => ag_ite (ag_evG rest _ _) (ag_ok _)) _ _) fun _ => ag_ok _
  | .bi f es, Γ => ag_bind (ag_evEs true es Γ) fun _ => ag_opt _
  | .me m o es, Γ => ag_bind (ag_ev true o Γ) fun _ => ag_bind (ag_opt _) fun _ => ag_bind (ag_evEs false es Γ) fun _ => ag_opt _
  | .isi a t, Γ => ag_bind (ag_ev true a Γ) fun _ => ag_ok _
  | .call f w es, Γ => ag_bind (ag_opt _) fun _ => ag_bind (ag_evEs false es Γ) fun _ => hc _ _
  | .next i a, Γ => ag_bind (ag_opt _) fun _ => ag_bind (ag_ev false a Γ) fun x => fun P Q ⟨n, e, h0, _, h1⟩ ⟨n2, e2, _, _, h2⟩ => by
      rw [e] at e2
      cases e2
      exact ⟨_, h1 0 (by omega) h0, h2 0 (by omega) h0⟩
  | .cat a b, Γ => ag_bind (ag_ev true a Γ) fun _ => ag_bind (ag_ev true b Γ) fun _ => ag_opt _
  | .slen i, Γ => ag_bind (ag_opt _) fun _ => ag_ok _
  | .sat i a, Γ => ag_bind (ag_opt _) fun _ => ag_bind (ag_ev false a Γ) fun _ => ag_bind (ag_opt _) fun _ => ag_bind (ag_opt _) fun _ => ag_ok _
theorem ag_evEs (p : Bool) : ∀ (es : Es) (Γ : Env), Agree (evEs cf p es Γ)
  | .nil, _ => ag_ok _
  | .cons e es, Γ => ag_bind (ag_ev p e Γ) fun _ => ag_bind (ag_evEs p es Γ) fun _ => ag_ok _
theorem ag_evO : ∀ (es : Es) (Γ : Env), Agree (evO cf es Γ)
  | .nil, _ => ag_ok _
  | .cons e _, Γ => ag_bind (m := ev cf false e Γ) (f := fun d => W.opt ((intD d).map some)) (ag_ev false e Γ) fun _ => ag_opt _
theorem ag_evKV : ∀ (es : Es) (Γ : Env), Agree (evKV cf es Γ)
  | .nil, _ => ag_ok _
  | .cons k (.cons v es), Γ => ag_bind (ag_ev false k Γ) fun _ => ag_bind (ag_ev false v Γ) fun _ => ag_bind (ag_evKV es Γ) fun _ => ag_ok _
  | .cons _ .nil, _ => ag_opt _
theorem ag_evIfs : ∀ (es : Es) (Γ : Env), Agree (evIfs cf es Γ)
  | .nil, _ => ag_ok _
  | .cons e es, Γ => ag_bind (ag_ev false e Γ) fun _ => ag_bind (ag_opt _) fun _ => ag_ite (ag_evIfs es Γ) (ag_ok _)
theorem ag_evG : ∀ (g : G) (Γ : Env) (acc : List D), Agree (evG cf g Γ acc)
  | .elt e, Γ, acc => ag_bind (ag_ev false e Γ) fun _ => ag_opt _
  | .gen t k es ifs rest, Γ, acc => ag_bind (ag_evEs false es Γ) fun _ => ag_bind (ag_opt _) fun _ => ag_flat (fun _ _ => ag_bind (ag_opt _) fun _ => ag_bind (ag_evIfs ifs _) fun _ => ag_ite (ag_evG rest _ _) (ag_ok _)) _ _
end
end
def Meet (κ1 κ2 : Ko) : Prop := (∃ Γ, κ1.nx Γ ∧ κ2.nx Γ) ∨ (∃ d, κ1.rt d ∧ κ2.rt d) ∨ (∃ Γ, κ1.bk Γ ∧ κ2.bk Γ) ∨ ∃ Γ, κ1.ct Γ ∧ κ2.ct Γ
theorem meet_nx {κ1 κ2 : Ko} {n1 n2 : Env → Prop} (h : Meet { κ1 with nx := n1 } { κ2 with nx := n2 }) (hn : ∀ Γ, n1 Γ → n2 Γ → Meet κ1 κ2) : Meet κ1 κ2 := by
  rcases h with ⟨Γ, a, b⟩ | h
  · exact hn Γ a b
  · exact .inr h
theorem meet_for {step : D → Ko → Env → Prop} (hs : ∀ d κ1 κ2 Γ, step d κ1 Γ → step d κ2 Γ → Meet κ1 κ2) {κ1 κ2 : Ko} : ∀ (ds : List D) (Γ : Env), forL step κ1 ds Γ → forL step κ2 ds Γ → Meet κ1 κ2
  | [], Γ, h1, h2 => .inl ⟨Γ, h1, h2⟩
  | d :: ds, Γ, h1, h2 => by
    rcases hs d _ _ Γ h1 h2 with ⟨Γ, a, b⟩ | ⟨x, a, b⟩ | ⟨Γ, a, b⟩ | ⟨Γ, a, b⟩
    · exact meet_for hs ds Γ a b
    · exact .inr (.inl ⟨x, a, b⟩)
    · exact .inl ⟨Γ, a, b⟩
    · exact meet_for hs ds Γ a b
theorem meet_while {test : Env → W Bool} {step : Ko → Env → Prop} (ht : ∀ Γ, Agree (test Γ)) (hs : ∀ κ1 κ2 Γ, step κ1 Γ → step κ2 Γ → Meet κ1 κ2) {κ1 κ2 : Ko} : ∀ (n : Nat) (Γ : Env), whileL test step κ1 n Γ → whileL test step κ2 n Γ → Meet κ1 κ2
  | 0, Γ, h1, h2 => h1.elim
  | n + 1, Γ, h1, h2 => by
    obtain ⟨c, a, b⟩ := ht Γ _ _ h1 h2
    cases c with
    | false => exact .inl ⟨Γ, a, b⟩
    | true =>
      rcases hs _ _ Γ a b with ⟨Γ, a, b⟩ | ⟨x, a, b⟩ | ⟨Γ, a, b⟩ | ⟨Γ, a, b⟩
      · exact meet_while ht hs n Γ a b
      · exact .inr (.inl ⟨x, a, b⟩)
      · exact .inl ⟨Γ, a, b⟩
      · exact meet_while ht hs n Γ a b
theorem ag_up {i : Nat} {f : D → Option D} {Γ : Env} {P Q : Env → Prop} (h1 : upO i f Γ P) (h2 : upO i f Γ Q) : ∃ Γ', P Γ' ∧ Q Γ' := by
  unfold upO at h1 h2
  split at h1
  · obtain ⟨d', e, p⟩ := h1
    rename_i d q
    rw [q] at h2
    obtain ⟨d2, e2, p2⟩ := h2
    rw [e] at e2
    cases e2
    exact ⟨_, p, p2⟩
  · exact h1.elim
section
variable {cf : Nat → List D → W D} (hc : ∀ f ds, Agree (cf f ds))
include hc
mutual
theorem me_S : ∀ (s : S) (κ1 κ2 : Ko) (Γ : Env), evS cf s κ1 Γ → evS cf s κ2 Γ → Meet κ1 κ2
  | .asg (.name i) e, κ1, κ2, Γ, h1, h2 => let ⟨_, a, b⟩ := ag_ev hc false e Γ _ _ h1 h2; .inl ⟨_, a, b⟩
  | .asg (.tup is) e, κ1, κ2, Γ, h1, h2 => by
    obtain ⟨d, ⟨g, e1, a⟩, ⟨g2, e2, b⟩⟩ := ag_ev hc false e Γ _ _ h1 h2
    rw [e1] at e2
    cases e2
    exact .inl ⟨_, a, b⟩
  | .par is es, κ1, κ2, Γ, h1, h2 => let ⟨_, a, b⟩ := ag_evEs hc false es Γ _ _ h1 h2; .inl ⟨_, a, b⟩
  | .aug i o e, κ1, κ2, Γ, ⟨m, q, h1⟩, ⟨m2, q2, h2⟩ => by
    rw [q] at q2
    cases q2
    obtain ⟨d, ⟨n, rfl, z, f, a⟩, ⟨n2, e2, z2, f2, b⟩⟩ := ag_ev hc false e Γ _ _ h1 h2
    cases e2
    rw [f] at f2
    cases f2
    exact .inl ⟨_, a, b⟩
  | .put i k v, κ1, κ2, Γ, ⟨m, q, h1⟩, ⟨m2, q2, h2⟩ => by
    rw [q] at q2
    cases q2
    obtain ⟨y, h1, h2⟩ := ag_ev hc false v Γ _ _ h1 h2
    obtain ⟨x, ⟨_, _, a⟩, ⟨_, _, b⟩⟩ := ag_ev hc false k Γ _ _ h1 h2
    exact .inl ⟨_, a, b⟩
  | .lset i k v, κ1, κ2, Γ, ⟨m, q, h1⟩, ⟨m2, q2, h2⟩ => by
    rw [q] at q2
    cases q2
    obtain ⟨y, h1, h2⟩ := ag_ev hc false v Γ _ _ h1 h2
    obtain ⟨x, ⟨n, j, rfl, e, a⟩, ⟨n2, j2, e2, e3, b⟩⟩ := ag_ev hc false k Γ _ _ h1 h2
    cases e2
    rw [e] at e3
    cases e3
    exact .inl ⟨_, a, b⟩
  | .augput i k o v, κ1, κ2, Γ, h1, h2 => by
    obtain ⟨x, h1, h2⟩ := ag_ev hc false k Γ _ _ h1 h2
    obtain ⟨c, ⟨old, e, h1⟩, ⟨old2, e2, h2⟩⟩ := ag_opt _ _ _ h1 h2
    rw [e] at e2
    cases e2
    obtain ⟨y, ⟨z, f, h1⟩, ⟨z2, f2, h2⟩⟩ := ag_ev hc false v Γ _ _ h1 h2
    rw [f] at f2
    cases f2
    exact .inl (ag_up h1 h2)
  | .append i e, κ1, κ2, Γ, ⟨m, q, h1⟩, ⟨m2, q2, h2⟩ => by
    rw [q] at q2
    cases q2
    obtain ⟨y, ⟨_, a⟩, ⟨_, b⟩⟩ := ag_ev hc false e Γ _ _ h1 h2
    exact .inl ⟨_, a, b⟩
  | .extend i e, κ1, κ2, Γ, ⟨m, q, h1⟩, ⟨m2, q2, h2⟩ => by
    rw [q] at q2
    cases q2
    obtain ⟨y, ⟨es, rfl, _, a⟩, ⟨es2, e2, _, b⟩⟩ := ag_ev hc true e Γ _ _ h1 h2
    cases e2
    exact .inl ⟨_, a, b⟩
  | .pop t i es, κ1, κ2, Γ, h1, h2 => by
    obtain ⟨as, h1, h2⟩ := ag_evEs hc false es Γ _ _ h1 h2
    split at h1
    · obtain ⟨x, d', e, Γ', f, a⟩ := h1
      rename_i d q
      rw [q] at h2
      obtain ⟨x2, d2, e2, Γ2, f2, b⟩ := h2
      rw [e] at e2
      cases e2
      rw [f] at f2
      cases f2
      exact .inl ⟨_, a, b⟩
    · exact h1.elim
  | .remove i e, κ1, κ2, Γ, h1, h2 => by
    obtain ⟨y, h1, h2⟩ := ag_ev hc false e Γ _ _ h1 h2
    exact .inl (ag_up h1 h2)
  | .insert i k v, κ1, κ2, Γ, h1, h2 => by
    obtain ⟨y, h1, h2⟩ := ag_ev hc false k Γ _ _ h1 h2
    obtain ⟨y, h1, h2⟩ := ag_ev hc false v Γ _ _ h1 h2
    exact .inl (ag_up h1 h2)
  | .update i e, κ1, κ2, Γ, h1, h2 => by
    obtain ⟨y, h1, h2⟩ := ag_ev hc true e Γ _ _ h1 h2
    exact .inl (ag_up h1 h2)
  | .ret e, κ1, κ2, Γ, h1, h2 => let ⟨_, a, b⟩ := ag_ev hc false e Γ _ _ h1 h2; .inr (.inl ⟨_, a, b⟩)
  | .ite t a b, κ1, κ2, Γ, h1, h2 => by
    obtain ⟨x, ⟨c, e, h1⟩, ⟨c2, e2, h2⟩⟩ := ag_ev hc false t Γ _ _ h1 h2
    rw [e] at e2
    cases e2
    cases c with
    | true => exact me_Ss a κ1 κ2 Γ h1 h2
    | false => exact me_Ss b κ1 κ2 Γ h1 h2
  | .for t k es ks b, κ1, κ2, Γ, h1, h2 => by
    obtain ⟨as, ⟨i1, e, h1⟩, ⟨i2, e2, h2⟩⟩ := ag_evEs hc false es Γ _ _ h1 h2
    rw [e] at e2
    cases e2
    refine meet_nx (meet_for (fun d κ1 κ2 Γ ⟨g, e, h1⟩ ⟨g2, e2, h2⟩ => ?_) i1 Γ h1 h2) fun Γ a b => .inl ⟨_, a, b⟩
    rw [e] at e2
    cases e2
    exact me_Ss b κ1 κ2 _ h1 h2
  | .while n t ks b, κ1, κ2, Γ, h1, h2 => by
    refine meet_nx (meet_while (test := fun Γ' Q => ev cf false t (kill ks Γ') fun x => ∃ c, boolD x = some c ∧ Q c) (step := fun κ' Γ' => evSs cf b κ' (kill ks Γ')) (fun Γ P Q h1 h2 => ?_) (fun κ1 κ2 Γ h1 h2 => me_Ss b κ1 κ2 _ h1 h2) n Γ h1 h2) fun Γ a b => .inl ⟨_, a, b⟩
    obtain ⟨x, ⟨c, e, h1⟩, ⟨c2, e2, h2⟩⟩ := ag_ev hc false t _ _ _ h1 h2
    rw [e] at e2
    cases e2
    exact ⟨_, h1, h2⟩
  | .brk, κ1, κ2, Γ, h1, h2 => .inr (.inr (.inl ⟨_, h1, h2⟩))
  | .freeze i, κ1, κ2, Γ, ⟨d, e, h1⟩, ⟨d2, e2, h2⟩ => by
    rw [e] at e2
    cases e2
    exact .inl ⟨_, h1, h2⟩
theorem me_Ss : ∀ (s : Ss) (κ1 κ2 : Ko) (Γ : Env), evSs cf s κ1 Γ → evSs cf s κ2 Γ → Meet κ1 κ2
  | .nil, κ1, κ2, Γ, h1, h2 => .inl ⟨Γ, h1, h2⟩
  | .cons s ss, κ1, κ2, Γ, h1, h2 => meet_nx (me_S s _ _ Γ h1 h2) fun Γ a b => me_Ss ss κ1 κ2 Γ a b
end
end
theorem ag_cf (T : List Fn) : ∀ (k i : Nat) (ds : List D), Agree (cfN T k i ds)
  | 0, _, _ => fun _ _ h => h.elim
  | k + 1, i, ds => fun P Q ⟨f, e, l, h1⟩ ⟨f2, e2, l2, h2⟩ => by
    rw [e] at e2
    cases e2
    rcases me_Ss (ag_cf T k) _ _ _ _ h1 h2 with ⟨Γ, a, b⟩ | ⟨x, a, b⟩ | ⟨Γ, a, b⟩ | ⟨Γ, a, b⟩
    · exact ⟨_, a, b⟩
    · exact ⟨_, a, b⟩
    · exact a.elim
    · exact a.elim
/-- a def's value, by any run that comes to it -/
theorem call_ok {T : List Fn} {k i : Nat} {f : Fn} {args : List D} {v : D} (hf : T[i]? = some f) (hl : args.length = f.ar) (hb : ∀ κ : Ko, κ.rt v → evSs (cfN T k) f.body κ (start f args)) : cfN T (k + 1) i args = W.ok v := by
  have main : cfN T (k + 1) i args (· = v) := ⟨f, hf, hl, hb _ rfl⟩
  funext Q
  apply propext
  constructor
  · intro h
    obtain ⟨a, p, rfl⟩ := ag_cf T (k + 1) i args _ _ h main
    exact p
  · intro h
    exact ⟨f, hf, hl, hb _ h⟩
/-- a def of whose value something is known -/
theorem ev_ok {T : List Fn} {k : Nat} {e : E} {p : Bool} {Γ : Env} {v : D} (h : ev (cfN T k) p e Γ (· = v)) (h2 : ∀ Q : D → Prop, Q v → ev (cfN T k) p e Γ Q) : ev (cfN T k) p e Γ = W.ok v := by
  funext Q
  apply propext
  constructor
  · intro h3
    obtain ⟨a, p, rfl⟩ := ag_ev (ag_cf T k) p e Γ _ _ h3 h
    exact p
  · exact h2 Q
/-! ### comprehensions -/
def capp (acc zs : List D) : W (List D) := W.opt (if zs.isEmpty || decide (acc.length + zs.length ≤ lim) then some (acc ++ zs) else none)
theorem capp_nil (acc : List D) : capp acc [] = W.ok acc := by
  unfold capp
  rw [show ([] : List D).isEmpty = true from rfl, Bool.true_or, if_pos rfl, List.append_nil, o_some]
theorem capp_ok {zs : List D} (h : zs.length ≤ lim) : capp [] zs = W.ok zs := by
  unfold capp
  rw [if_pos (by rw [Bool.or_eq_true]; exact .inr (decide_eq_true (by simpa using h))), o_some]
  rfl
theorem capp_bind (acc a b : List D) : W.bind (capp acc a) (fun acc => capp acc b) = capp acc (a ++ b) := by
  unfold capp
  by_cases ha : a = []
  · subst ha
    simp [b_some]
  · by_cases hb : b = []
    · subst hb
      simp only [List.append_nil, List.isEmpty_nil, Bool.true_or, if_true]
      funext Q
      simp [W.bind, W.opt]
    · have ea : a.isEmpty = false := by simpa using ha
      have eb : b.isEmpty = false := by simpa using hb
      have eab : (a ++ b).isEmpty = false := by simp [ha]
      rw [ea, eab]
      simp only [Bool.false_or, decide_eq_true_eq]
      by_cases h1 : acc.length + a.length ≤ lim
      · rw [if_pos h1, b_some]
        rw [eb]
        simp only [Bool.false_or, decide_eq_true_eq, List.length_append, List.append_assoc]
        have : (acc.length + a.length + b.length ≤ lim) ↔ (acc.length + (a.length + b.length) ≤ lim) := by omega
        simp only [this]
      · rw [if_neg h1, if_neg (by rw [List.length_append]; omega)]
        funext Q
        simp [W.bind, W.opt]
theorem capp_ite (c : Prop) [Decidable c] (acc a b : List D) : (if c then capp acc a else capp acc b) = capp acc (if c then a else b) := by split <;> rfl
theorem e_elt {cf : Nat → List D → W D} (e : E) (Γ : Env) (acc : List D) : evG cf (.elt e) Γ acc = W.bind (ev cf false e Γ) fun d => capp acc [d] := by
  exact congrArg (W.bind (ev cf false e Γ)) (funext fun d => rfl)
def flatX {α : Type} (g : α → List D → W (List D)) : List α → List D → W (List D)
  | [], acc => W.ok acc
  | x :: xs, acc => W.bind (g x acc) fun a => flatX g xs a
theorem flatX_map {α : Type} (f : D → List D → W (List D)) (enc : α → D) : ∀ (xs : List α) (acc : List D), flatA f (xs.map enc) acc = flatX (fun x acc => f (enc x) acc) xs acc
  | [], acc => rfl
  | x :: xs, acc => by
    show W.bind (f (enc x) acc) (fun a => flatA f (xs.map enc) a) = W.bind (f (enc x) acc) fun a => flatX _ xs a
    congr 1
    funext a
    exact flatX_map f enc xs a
theorem flatX_capp {α : Type} (f : α → List D) : ∀ (xs : List α) (acc : List D), flatX (fun x acc => capp acc (f x)) xs acc = capp acc (xs.flatMap f)
  | [], acc => (capp_nil acc).symm
  | x :: xs, acc => by
    show W.bind (capp acc (f x)) (fun a => flatX _ xs a) = _
    have : (fun a => flatX (fun x acc => capp acc (f x)) xs a) = fun a => capp a (xs.flatMap f) := funext fun a => flatX_capp f xs a
    rw [this, capp_bind]
    rfl
/-- a walk with what its items are known to be -/
def flatP {α : Type} : (xs : List α) → ((x : α) → x ∈ xs → List D → W (List D)) → List D → W (List D)
  | [], _, acc => W.ok acc
  | x :: xs, g, acc => W.bind (g x (List.mem_cons_self ..) acc) fun a => flatP xs (fun y hy => g y (List.mem_cons_of_mem _ hy)) a
theorem flatP_map {α : Type} (f : D → List D → W (List D)) (enc : α → D) : ∀ (xs : List α) (acc : List D), flatA f (xs.map enc) acc = flatP xs (fun x _ acc => f (enc x) acc) acc
  | [], acc => rfl
  | x :: xs, acc => by
    show W.bind (f (enc x) acc) (fun a => flatA f (xs.map enc) a) = W.bind (f (enc x) acc) fun a => flatP xs _ a
    congr 1
    funext a
    exact flatP_map f enc xs a
theorem flatP_capp {α : Type} (f : α → List D) : ∀ (xs : List α) (acc : List D), flatP xs (fun x _ acc => capp acc (f x)) acc = capp acc (xs.flatMap f)
  | [], acc => (capp_nil acc).symm
  | x :: xs, acc => by
    show W.bind (capp acc (f x)) (fun a => flatP xs _ a) = _
    have : (fun a => flatP xs (fun x _ acc => capp acc (f x)) a) = fun a => capp a (xs.flatMap f) := funext fun a => flatP_capp f xs a
    rw [this, capp_bind]
    rfl
theorem fm_one {α β : Type} (e : α → β) (xs : List α) : xs.flatMap (fun x => [e x]) = xs.map e := by
  induction xs with
  | nil => rfl
  | cons x r ih => rw [List.flatMap_cons, ih]; rfl
theorem fm_if {α β : Type} (p : α → Bool) (e : α → β) (xs : List α) : xs.flatMap (fun x => if p x = true then [e x] else []) = (xs.filter p).map e := by
  induction xs with
  | nil => rfl
  | cons x r ih =>
    rw [List.flatMap_cons, ih, List.filter_cons]
    split <;> rfl
theorem fm_ifs {α β : Type} (p : α → Bool) (f : α → List β) (xs : List α) : xs.flatMap (fun x => if p x = true then f x else []) = (xs.filter p).flatMap f := by
  induction xs with
  | nil => rfl
  | cons x r ih =>
    rw [List.flatMap_cons, ih, List.filter_cons]
    split <;> simp
theorem e_comp {cf : Nat → List D → W D} {p : Bool} (own : List Nat) (t : Tg) (k : Ik) (es ifs : Es) (rest : G) (Γ : Env) : ev cf p (.comp own t k es ifs rest) Γ = W.bind (evEs cf (pk k) es Γ) fun as => W.bind (W.opt (walkD k as)) fun items =>
      W.bind (flatA (fun d acc => W.bind (W.opt (tgB t d (kill own Γ))) fun Γ' => W.bind (evIfs cf ifs Γ') fun c => if c = true then evG cf rest Γ' acc else capp acc []) items []) fun ds => W.ok (.list ds) := by
  simp only [capp_nil]
  rfl
theorem e_gen {cf : Nat → List D → W D} (t : Tg) (k : Ik) (es ifs : Es) (rest : G) (Γ : Env) (acc : List D) : evG cf (.gen t k es ifs rest) Γ acc = W.bind (evEs cf false es Γ) fun as => W.bind (W.opt (walkD k as)) fun items =>
      flatA (fun d acc => W.bind (W.opt (tgB t d (kill (tgs t) Γ))) fun Γ' => W.bind (evIfs cf ifs Γ') fun c => if c = true then evG cf rest Γ' acc else capp acc []) items acc := by
  simp only [capp_nil]
  rfl
end Ly

set_option maxRecDepth 100000
set_option maxHeartbeats 4000000
/-! Loops by folds, by invariants; comprehensions with draws. -/
namespace Ly
open PySem
theorem forL_Q {α : Type} {enc : α → D} {t : Tg} {ks : List Nat} {cf : Nat → List D → W D} {b : Ss} {κ : Ko} (I : Nat → Env → Prop) (xs : List α)
    (hs : ∀ (i : Nat) (x : α), xs[i]? = some x → ∀ Γ, I i Γ → ∀ κ' : Ko, (∀ Γ', I (i + 1) (kill ks Γ') → κ'.nx Γ') → κ'.ct = κ'.nx → κ'.rt = κ.rt → (∀ Γ', κ.nx (kill ks Γ') → κ'.bk Γ') → W.opt (tgB t (enc x) Γ) (evSs cf b κ'))
    (he : ∀ Γ, I xs.length Γ → κ.nx Γ) {Γ : Env} (h0 : I 0 (kill ks Γ)) :
    forL (fun d κ' Γ' => ∃ Γ'', tgB t d (kill ks Γ') = some Γ'' ∧ evSs cf b κ' Γ'') { κ with nx := fun Γ' => κ.nx (kill ks Γ') } (xs.map enc) Γ := by
  suffices h : ∀ (r : List α) (n : Nat) (Γ : Env), n + r.length = xs.length → (∀ i, r[i]? = xs[n + i]?) → I n (kill ks Γ) → forL (fun d κ' Γ' => ∃ Γ'', tgB t d (kill ks Γ') = some Γ'' ∧ evSs cf b κ' Γ'') { κ with nx := fun Γ' => κ.nx (kill ks Γ') } (r.map enc) Γ from h xs 0 Γ (by simp) (fun i => by simp) h0
  intro r
  induction r with
  | nil =>
    intro n Γ hl _ h
    exact he _ (by rw [← hl]; exact h)
  | cons x r ih =>
    intro n Γ hl hi h
    have nx : ∀ Γ', I (n + 1) (kill ks Γ') → forL (fun d κ' Γ' => ∃ Γ'', tgB t d (kill ks Γ') = some Γ'' ∧ evSs cf b κ' Γ'') { κ with nx := fun Γ' => κ.nx (kill ks Γ') } (r.map enc) Γ' := fun Γ' h' => ih (n + 1) Γ' (by rw [← hl, List.length_cons]; omega) (fun i => by
      have := hi (i + 1)
      rw [List.getElem?_cons_succ] at this
      rw [this]
      congr 1
      omega) h'
    exact hs n x (by have := hi 0; simpa using this.symm) _ h _ nx rfl rfl fun _ z => z
/-- a loop by what holds at its turns -/
theorem st_forI {cf : Nat → List D → W D} {κ : Ko} {Γ : Env} {α : Type} {xs : List α} {enc : α → D} {t : Tg} {k : Ik} {es : Es} {ks : List Nat} {b : Ss} {as : List D} (I : Nat → Env → Prop) (hes : evEs cf false es Γ = W.ok as) (hw : walkD k as = some (xs.map enc)) (h0 : I 0 (kill ks Γ))
    (hs : ∀ (i : Nat) (x : α), xs[i]? = some x → ∀ Γ, I i Γ → ∀ κ' : Ko, (∀ Γ', I (i + 1) (kill ks Γ') → κ'.nx Γ') → κ'.ct = κ'.nx → κ'.rt = κ.rt → (∀ Γ', κ.nx (kill ks Γ') → κ'.bk Γ') → W.opt (tgB t (enc x) Γ) (evSs cf b κ'))
    (he : ∀ Γ, I xs.length Γ → κ.nx Γ) : evS cf (.for t k es ks b) κ Γ := by
  show (evEs cf false es Γ) (fun as => ∃ items, walkD k as = some items ∧ _)
  rw [hes]
  exact ⟨_, hw, forL_Q I xs hs he h0⟩
/-- a loop as a fold; P: what else holds at its turns -/
theorem st_forF {cf : Nat → List D → W D} {κ : Ko} {Γ : Env} {α σ : Type} {xs : List α} {enc : α → D} {t : Tg} {k : Ik} {es : Es} {ks : List Nat} {b : Ss} {as : List D} (S : σ → Env) (f : σ → α → σ) (s0 : σ) (P : Nat → σ → Prop) (hes : evEs cf false es Γ = W.ok as) (hw : walkD k as = some (xs.map enc)) (h0 : kill ks Γ = S s0) (p0 : P 0 s0)
    (hp : ∀ (i : Nat) (x : α), xs[i]? = some x → ∀ s, P i s → P (i + 1) (f s x))
    (hs : ∀ (i : Nat) (x : α), xs[i]? = some x → ∀ s, P i s → ∀ κ' : Ko, (∀ Γ', kill ks Γ' = S (f s x) → κ'.nx Γ') → κ'.ct = κ'.nx → W.opt (tgB t (enc x) (S s)) (evSs cf b κ'))
    (he : P xs.length (xs.foldl f s0) → κ.nx (S (xs.foldl f s0))) : evS cf (.for t k es ks b) κ Γ := by
  refine st_forI (fun i Γ => Γ = S ((xs.take i).foldl f s0) ∧ P i ((xs.take i).foldl f s0)) hes hw ⟨h0, p0⟩ (fun i x hx Γ hI κ' h1 h2 _ _ => ?_) fun Γ hI => ?_
  · obtain ⟨rfl, hP⟩ := hI
    have e : (xs.take (i + 1)).foldl f s0 = f ((xs.take i).foldl f s0) x := by
      obtain ⟨hl, e⟩ := List.getElem?_eq_some_iff.mp hx
      rw [List.take_succ_eq_append_getElem hl, List.foldl_append, e]
      rfl
    exact hs i x hx _ hP κ' (fun Γ' h => h1 Γ' ⟨by rw [e]; exact h, by rw [e]; exact hp i x hx _ hP⟩) h2
  · rw [List.take_length] at hI
    obtain ⟨rfl, hP⟩ := hI
    exact he hP
/-- a loop as a fold, nothing else -/
theorem st_forE {cf : Nat → List D → W D} {κ : Ko} {Γ : Env} {α σ : Type} {xs : List α} {enc : α → D} {t : Tg} {k : Ik} {es : Es} {ks : List Nat} {b : Ss} {as : List D} (S : σ → Env) (f : σ → α → σ) (s0 : σ) (hes : evEs cf false es Γ = W.ok as) (hw : walkD k as = some (xs.map enc)) (h0 : kill ks Γ = S s0)
    (hs : ∀ x, x ∈ xs → ∀ s, ∀ κ' : Ko, (∀ Γ', kill ks Γ' = S (f s x) → κ'.nx Γ') → κ'.ct = κ'.nx → W.opt (tgB t (enc x) (S s)) (evSs cf b κ'))
    (he : κ.nx (S (xs.foldl f s0))) : evS cf (.for t k es ks b) κ Γ :=
  st_forF S f s0 (fun _ _ => True) hes hw h0 trivial (fun _ _ _ _ _ => trivial) (fun i x hx s _ => hs x (List.mem_of_getElem? hx) s) fun _ => he
/-- a while by the states of its turns -/
theorem st_whileF {cf : Nat → List D → W D} {κ : Ko} {Γ : Env} {n : Nat} {t : E} {ks : List Nat} {b : Ss} (S : Nat → Env) (m : Nat) (h0 : kill ks Γ = S 0) (hm : m < n)
    (hf : ev cf false t (S m) = W.ok (.bool false))
    (hs : ∀ i, i < m → ∀ κ' : Ko, (∀ Γ', kill ks Γ' = S (i + 1) → κ'.nx Γ') → κ'.ct = κ'.nx → evSs cf b κ' (S i))
    (htt : ∀ i, i < m → ev cf false t (S i) = W.ok (.bool true))
    (he : κ.nx (S m)) : evS cf (.while n t ks b) κ Γ := by
  show whileL _ _ _ n Γ
  suffices h : ∀ (j i n : Nat) (Γ : Env), i + j = m → j < n → kill ks Γ = S i → whileL (fun Γ' Q => ev cf false t (kill ks Γ') fun x => ∃ c, boolD x = some c ∧ Q c) (fun κ' Γ' => evSs cf b κ' (kill ks Γ')) { κ with nx := fun Γ' => κ.nx (kill ks Γ') } n Γ from h m 0 n Γ (by omega) hm h0
  intro j
  induction j with
  | zero =>
    intro i n Γ e hn hk
    cases n with
    | zero => omega
    | succ n =>
      show ev cf false t (kill ks Γ) _
      have : i = m := by omega
      rw [hk, this, hf]
      refine ⟨false, rfl, ?_⟩
      show κ.nx (kill ks Γ)
      rw [hk, this]
      exact he
  | succ j ih =>
    intro i n Γ e hn hk
    cases n with
    | zero => omega
    | succ n =>
      show ev cf false t (kill ks Γ) _
      rw [hk, htt i (by omega)]
      refine ⟨true, rfl, ?_⟩
      show evSs cf b _ (kill ks Γ)
      rw [hk]
      exact hs i (by omega) _ (fun Γ' h => ih (i + 1) n Γ' (by omega) (by omega) h) rfl
/-! ### numbers in range -/
theorem w_rg (b : Int) (h1 : -4611686018427387904 ≤ b) (h2 : b < 4611686018427387904) : walkD .range [.int b] = some ((List.range b.toNat).map fun k => .int (k : Nat)) := by
  rw [w_range]
  unfold smallI
  rw [decide_eq_true h1, decide_eq_true h2]
  unfold rangeL
  simp [gd]
theorem w_rg2 (a b : Int) (h1 : -4611686018427387904 ≤ b) (h2 : b < 4611686018427387904) (h3 : -4611686018427387904 ≤ a) (h4 : a < 4611686018427387904) : walkD .range [.int a, .int b] = some ((List.range (b - a).toNat).map fun k => .int (a + (k : Nat))) := by
  rw [w_range2]
  unfold smallI
  rw [decide_eq_true h1, decide_eq_true h2, decide_eq_true h3, decide_eq_true h4]
  rfl
theorem g_len {α : Type} {n : Nat} (h : n ≤ lim) (a : α) : gd (decide (n ≤ lim)) a = some a := by rw [decide_eq_true h]; rfl
theorem i_and (a b : Bool) : (if a = true then b else false) = (a && b) := by cases a <;> rfl
theorem i_or (a b : Bool) : (if a = true then true else b) = (a || b) := by cases a <;> rfl
theorem ap_nil {α : Type} (xs : List α) : [] ++ xs = xs := rfl
theorem dec_and (a b : Bool) : decide (a = true) = a := by cases a <;> rfl
theorem lim_v : lim = 16777216 := rfl
end Ly

set_option maxRecDepth 100000
set_option maxHeartbeats 4000000
namespace K02
open PySem Ly
def g_choices : Fn := ⟨false, 2, 5, (.cons (.ite (.cmp .eq (.var 1) (.con (.int 0))) (.cons (.ret (.lst (.cons (.tup .nil) .nil))) .nil) .nil) (.cons (.asg (.name 2) (.lst .nil)) (.cons (.for (.name 3) .range (.cons (.bi .len (.cons (.var 0) .nil)) .nil) [3] (.cons (.extend 2 (.comp [4] (.name 4) .seq (.cons (.call 0 none (.cons (.cut (.var 0) (.cons (.bin .add (.var 3) (.con (.int 1))) .nil) .nil) (.cons (.bin .sub (.var 1) (.con (.int 1))) .nil))) .nil) .nil (.elt (.bin .add (.tup (.cons (.idx (.var 0) (.var 3)) .nil)) (.var 4))))) .nil)) (.cons (.freeze 2) (.cons (.ret (.var 2)) .nil)))))⟩ -- 0 0:things 1:k 2:found 3:i 4:row
def g_wrong_in : Fn := ⟨false, 2, 3, (.cons (.ret (.bi .tuple (.cons (.comp [2] (.name 2) .seq (.cons (.bi .sorted (.cons (.var 1) .nil)) .nil) (.cons (.cmp .ne (.me .get (.var 0) (.cons (.var 2) .nil)) (.idx (.var 1) (.var 2))) .nil) (.elt (.var 2))) .nil))) .nil)⟩ -- 1 0:thing 1:told 2:mark
def g_near_ones : Fn := ⟨false, 3, 4, (.cons (.ret (.bi .tuple (.cons (.comp [3] (.name 3) .seq (.cons (.bi .sorted (.cons (.var 0) .nil)) .nil) (.cons (.cmp .le (.bi .len (.cons (.call 1 none (.cons (.idx (.var 0) (.var 3)) (.cons (.var 1) .nil))) .nil)) (.var 2)) .nil) (.elt (.var 3))) .nil))) .nil)⟩ -- 2 0:things 1:told 2:most 3:name
def g_nearest : Fn := ⟨false, 2, 4, (.cons (.ite (.cmp .eq (.var 0) (.dct .nil)) (.cons (.ret (.con .none)) .nil) .nil) (.cons (.asg (.name 2) (.bi .min (.cons (.comp [3] (.name 3) .keys (.cons (.var 0) .nil) .nil (.elt (.bi .len (.cons (.call 1 none (.cons (.idx (.var 0) (.var 3)) (.cons (.var 1) .nil))) .nil)))) .nil))) (.cons (.ret (.tup (.cons (.var 2) (.cons (.call 2 none (.cons (.var 0) (.cons (.var 1) (.cons (.var 2) .nil)))) .nil)))) .nil)))⟩ -- 3 0:things 1:told 2:least 3:name
def g_is_sure_by : Fn := ⟨false, 3, 3, (.cons (.ret (.cmp .eq (.bi .len (.cons (.call 2 none (.cons (.var 0) (.cons (.var 1) (.cons (.var 2) .nil)))) .nil)) (.con (.int 1)))) .nil)⟩ -- 4 0:things 1:told 2:most
def g_differ_in : Fn := ⟨false, 2, 4, (.cons (.asg (.name 2) (.bi .sortedSet (.cons (.bin .add (.bi .list (.cons (.var 0) .nil)) (.bi .list (.cons (.var 1) .nil))) .nil))) (.cons (.freeze 2) (.cons (.ret (.bi .tuple (.cons (.comp [3] (.name 3) .seq (.cons (.var 2) .nil) (.cons (.cmp .ne (.me .get (.var 0) (.cons (.var 3) .nil)) (.me .get (.var 1) (.cons (.var 3) .nil))) .nil) (.elt (.var 3))) .nil))) .nil)))⟩ -- 5 0:one 1:other 2:marks 3:mark
def g_least_gap : Fn := ⟨false, 1, 5, (.cons (.asg (.name 1) (.call 0 none (.cons (.bi .tuple (.cons (.bi .sorted (.cons (.var 0) .nil)) .nil)) (.cons (.con (.int 2)) .nil)))) (.cons (.asg (.name 2) (.comp [3, 4] (.tup [3, 4]) .seq (.cons (.var 1) .nil) .nil (.elt (.tup (.cons (.bi .len (.cons (.call 5 none (.cons (.idx (.var 0) (.var 3)) (.cons (.idx (.var 0) (.var 4)) .nil))) .nil)) (.cons (.var 3) (.cons (.var 4) .nil))))))) (.cons (.freeze 2) (.cons (.ret (.ite (.cmp .ne (.var 2) (.lst .nil)) (.bi .min (.cons (.var 2) .nil)) (.con .none))) .nil))))⟩ -- 6 0:things 1:pairs 2:rows 3:a 4:b
def g_sees_wrong : Fn := ⟨false, 1, 2, (.cons (.asg (.name 1) (.call 6 none (.cons (.var 0) .nil))) (.cons (.ret (.ite (.cmp .isnot (.var 1) (.con .none)) (.bi .max (.cons (.con (.int 0)) (.cons (.bin .sub (.idx (.var 1) (.con (.int 0))) (.con (.int 1))) .nil))) (.con .none))) .nil))⟩ -- 7 0:things 1:gap
def g_mends_wrong : Fn := ⟨false, 1, 2, (.cons (.asg (.name 1) (.call 6 none (.cons (.var 0) .nil))) (.cons (.ret (.ite (.cmp .isnot (.var 1) (.con .none)) (.bin .fdiv (.bi .max (.cons (.con (.int 0)) (.cons (.bin .sub (.idx (.var 1) (.con (.int 0))) (.con (.int 1))) .nil))) (.con (.int 2))) (.con .none))) .nil))⟩ -- 8 0:things 1:gap
def g_mended : Fn := ⟨false, 2, 3, (.cons (.asg (.name 2) (.call 3 none (.cons (.var 0) (.cons (.var 1) .nil)))) (.cons (.ret (.ite (.and (.cmp .isnot (.var 2) (.con .none)) (.cmp .eq (.bi .len (.cons (.idx (.var 2) (.con (.int 1))) .nil)) (.con (.int 1)))) (.idx (.var 0) (.idx (.idx (.var 2) (.con (.int 1))) (.con (.int 0)))) (.con .none))) .nil))⟩ -- 9 0:things 1:told 2:found
def g_lost_span : Fn := ⟨false, 2, 4, (.cons (.par [2, 3] (.cons (.ite (.cmp .ne (.var 0) (.tup .nil)) (.bi .max (.cons (.var 0) .nil)) (.con .none)) (.cons (.ite (.cmp .ne (.var 1) (.tup .nil)) (.bi .min (.cons (.var 1) .nil)) (.con .none)) .nil))) (.cons (.ite (.and (.cmp .isnot (.var 2) (.con .none)) (.and (.cmp .isnot (.var 3) (.con .none)) (.cmp .le (.var 3) (.var 2)))) (.cons (.ret (.con .none)) .nil) .nil) (.cons (.ret (.tup (.cons (.var 2) (.cons (.var 3) .nil)))) .nil)))⟩ -- 10 0:had 1:missed 2:after 3:by
def g_minutes_in : Fn := ⟨false, 2, 9, (.cons (.asg (.tup [4, 5, 6]) (.var 0)) (.cons (.asg (.tup [7, 8]) (.var 1)) (.cons (.asg (.name 2) (.ite (.cmp .isnot (.var 7) (.con .none)) (.bi .max (.cons (.var 5) (.cons (.var 7) .nil))) (.var 5))) (.cons (.asg (.name 3) (.ite (.cmp .isnot (.var 8) (.con .none)) (.bi .min (.cons (.var 6) (.cons (.var 8) .nil))) (.var 6))) (.cons (.ret (.bi .listRange (.cons (.var 2) (.cons (.var 3) .nil)))) .nil)))))⟩ -- 11 0:ride 1:span 2:first 3:last 4:_ 5:begin 6:end 7:after 8:by
def g_rides_for : Fn := ⟨false, 3, 5, (.cons (.asg (.name 3) (.call 10 none (.cons (.var 1) (.cons (.var 2) .nil)))) (.cons (.ite (.cmp .is (.var 3) (.con .none)) (.cons (.ret (.tup .nil)) .nil) .nil) (.cons (.ret (.bi .tuple (.cons (.comp [4] (.name 4) .range (.cons (.bi .len (.cons (.var 0) .nil)) .nil) (.cons (.cmp .ne (.call 11 none (.cons (.idx (.var 0) (.var 4)) (.cons (.var 3) .nil))) (.lst .nil)) .nil) (.elt (.var 4))) .nil))) .nil)))⟩ -- 12 0:rides 1:had 2:missed 3:span 4:k
def g_is_sure_ride : Fn := ⟨false, 3, 3, (.cons (.ret (.cmp .eq (.bi .len (.cons (.call 12 none (.cons (.var 0) (.cons (.var 1) (.cons (.var 2) .nil)))) .nil)) (.con (.int 1)))) .nil)⟩ -- 13 0:rides 1:had 2:missed
def g_found_on : Fn := ⟨false, 3, 4, (.cons (.ret (.bi .tuple (.cons (.comp [3] (.name 3) .range (.cons (.bi .len (.cons (.var 0) .nil)) .nil) (.cons (.and (.cmp .eq (.idx (.idx (.var 0) (.var 3)) (.con (.int 0))) (.var 1)) (.cmp .le (.idx (.idx (.var 0) (.var 3)) (.con (.int 1))) (.var 2))) .nil) (.elt (.var 3))) .nil))) .nil)⟩ -- 14 0:rides 1:line 2:minute 3:k
def g_could_be_lost : Fn := ⟨false, 5, 9, (.cons (.par [6, 7] (.cons (.call 10 none (.cons (.var 1) (.cons (.var 2) .nil))) (.cons (.lst .nil) .nil))) (.cons (.ite (.cmp .is (.var 6) (.con .none)) (.cons (.ret (.tup .nil)) .nil) .nil) (.cons (.for (.name 5) .range (.cons (.bi .len (.cons (.var 0) .nil)) .nil) [5] (.cons (.ite (.and (.cmp .eq (.idx (.idx (.var 0) (.var 5)) (.con (.int 0))) (.var 3)) (.bi .any (.cons (.comp [8] (.name 8) .seq (.cons (.call 11 none (.cons (.idx (.var 0) (.var 5)) (.cons (.var 6) .nil))) .nil) .nil (.elt (.cmp .le (.var 8) (.var 4)))) .nil))) (.cons (.append 7 (.var 5)) .nil) .nil) .nil)) (.cons (.ret (.bi .tuple (.cons (.var 7) .nil))) .nil))))⟩ -- 15 0:rides 1:had 2:missed 3:line 4:minute 5:k 6:span 7:found 8:own
def g_best_ask : Fn := ⟨false, 3, 9, (.cons (.asg (.name 3) (.call 12 none (.cons (.var 0) (.cons (.var 1) (.cons (.var 2) .nil))))) (.cons (.ite (.cmp .lt (.bi .len (.cons (.var 3) .nil)) (.con (.int 2))) (.cons (.ret (.con .none)) .nil) .nil) (.cons (.asg (.name 4) (.lst .nil)) (.cons (.for (.name 5) .seq (.cons (.bi .sortedSet (.cons (.comp [8] (.name 8) .seq (.cons (.var 3) .nil) .nil (.elt (.idx (.idx (.var 0) (.var 8)) (.con (.int 1))))) .nil)) .nil) [5, 6, 7] (.cons (.asg (.name 6) (.call 12 none (.cons (.var 0) (.cons (.bi .tuple (.cons (.bi .sortedSet (.cons (.bin .add (.var 1) (.tup (.cons (.var 5) .nil))) .nil)) .nil)) (.cons (.var 2) .nil))))) (.cons (.asg (.name 7) (.call 12 none (.cons (.var 0) (.cons (.var 1) (.cons (.bi .tuple (.cons (.bi .sortedSet (.cons (.bin .add (.var 2) (.tup (.cons (.var 5) .nil))) .nil)) .nil)) .nil))))) (.cons (.append 4 (.tup (.cons (.bi .max (.cons (.bi .len (.cons (.var 6) .nil)) (.cons (.bi .len (.cons (.var 7) .nil)) .nil))) (.cons (.var 5) .nil)))) .nil)))) (.cons (.ret (.bi .min (.cons (.var 4) .nil))) .nil)))))⟩ -- 16 0:rides 1:had 2:missed 3:places 4:rows 5:minute 6:yes 7:no 8:k
def g_minutes_left : Fn := ⟨false, 3, 5, (.cons (.asg (.name 3) (.call 10 none (.cons (.var 1) (.cons (.var 2) .nil)))) (.cons (.ret (.ite (.cmp .isnot (.var 3) (.con .none)) (.bi .sum (.cons (.comp [4] (.name 4) .seq (.cons (.var 0) .nil) .nil (.elt (.bi .len (.cons (.call 11 none (.cons (.var 4) (.cons (.var 3) .nil))) .nil)))) .nil)) (.con (.int 0)))) .nil))⟩ -- 17 0:rides 1:had 2:missed 3:span 4:ride
def g__law_pick : Fn := ⟨true, 1, 2, (.cons (.ret (.idx (.var 1) (.next 0 (.bi .len (.cons (.var 1) .nil))))) .nil)⟩ -- 18 0:w 1:rows
def g__law_alike : Fn := ⟨false, 2, 5, (.cons (.ite (.isi (.var 1) .dict) (.cons (.ret (.and (.isi (.var 0) .dict) (.and (.cmp .eq (.bi .sorted (.cons (.var 0) .nil)) (.bi .sorted (.cons (.var 1) .nil))) (.cmp .eq (.comp [3] (.name 3) .keys (.cons (.var 1) .nil) (.cons (.not (.call 19 none (.cons (.idx (.var 0) (.var 3)) (.cons (.idx (.var 1) (.var 3)) .nil)))) .nil) (.elt (.var 3))) (.lst .nil))))) .nil) .nil) (.cons (.ite (.or (.isi (.var 1) .tuple) (.isi (.var 1) .list)) (.cons (.asg (.name 2) (.ite (.isi (.var 1) .tuple) (.isi (.var 0) .tuple) (.isi (.var 0) .list))) (.cons (.ret (.and (.var 2) (.and (.cmp .eq (.bi .len (.cons (.var 0) .nil)) (.bi .len (.cons (.var 1) .nil))) (.cmp .eq (.comp [4] (.name 4) .range (.cons (.bi .len (.cons (.var 1) .nil)) .nil) (.cons (.not (.call 19 none (.cons (.idx (.var 0) (.var 4)) (.cons (.idx (.var 1) (.var 4)) .nil)))) .nil) (.elt (.var 4))) (.lst .nil))))) .nil)) .nil) (.cons (.ite (.or (.cmp .is (.var 1) (.con .none)) (.isi (.var 1) .str)) (.cons (.ret (.ite (.cmp .is (.var 1) (.con .none)) (.cmp .is (.var 0) (.con .none)) (.and (.isi (.var 0) .str) (.cmp .eq (.var 0) (.var 1))))) .nil) .nil) (.cons (.ret (.and (.isi (.var 0) .int) (.and (.cmp .eq (.isi (.var 0) .bool) (.isi (.var 1) .bool)) (.cmp .eq (.var 0) (.var 1))))) .nil))))⟩ -- 19 0:seen 1:due 2:kind 3:key 4:k
def g__law_things : Fn := ⟨true, 1, 7, (.cons (.asg (.name 2) (.dct .nil)) (.cons (.for (.name 3) .range (.cons (.ite (.cmp .gt (.next 0 (.con (.int 12))) (.con (.int 0))) (.bin .add (.next 0 (.var 1)) (.con (.int 1))) (.con (.int 0))) .nil) [3, 4, 5, 6] (.cons (.asg (.name 4) (.dct .nil)) (.cons (.freeze 4) (.cons (.for (.name 5) .seq (.cons (.tup (.cons (.con (.str "kind")) (.cons (.con (.str "size")) (.cons (.con (.str "tint")) .nil)))) .nil) [5, 6] (.cons (.asg (.name 6) (.call 18 (some 0) (.cons (.lst (.cons (.con (.str "")) (.cons (.con (.str "a")) (.cons (.con (.str "b")) (.cons (.con (.str "a")) (.cons (.con (.str "b")) (.cons (.con (.str "c")) .nil))))))) .nil))) (.cons (.asg (.name 4) (.bi .dict (.cons (.bin .add (.bi .listItems (.cons (.var 4) .nil)) (.ite (.cmp .ne (.var 6) (.con (.str ""))) (.lst (.cons (.tup (.cons (.var 5) (.cons (.var 6) .nil))) .nil)) (.lst .nil))) .nil))) (.cons (.freeze 4) .nil)))) (.cons (.put 2 (.bin .add (.con (.str "t")) (.bi .str (.cons (.bin .sub (.con (.int 9)) (.var 3)) .nil))) (.var 4)) .nil))))) (.cons (.freeze 2) (.cons (.ret (.var 2)) .nil))))⟩ -- 20 0:w 1:most 2:found 3:k 4:thing 5:mark 6:value
def g__law_own : Fn := ⟨false, 1, 2, (.cons (.ret (.bi .dict (.cons (.comp [1] (.name 1) .keys (.cons (.var 0) .nil) .nil (.elt (.tup (.cons (.var 1) (.cons (.bi .dict (.cons (.bi .listItems (.cons (.idx (.var 0) (.var 1)) .nil)) .nil)) .nil))))) .nil))) .nil)⟩ -- 21 0:things 1:name
def g__law_differ : Fn := ⟨false, 2, 3, (.cons (.ret (.comp [2] (.name 2) .seq (.cons (.tup (.cons (.con (.str "kind")) (.cons (.con (.str "size")) (.cons (.con (.str "tint")) (.cons (.con (.str "zone")) .nil))))) .nil) (.cons (.cmp .ne (.me .get (.var 0) (.cons (.var 2) (.cons (.con (.str "")) .nil))) (.me .get (.var 1) (.cons (.var 2) (.cons (.con (.str "")) .nil)))) .nil) (.elt (.var 2)))) .nil)⟩ -- 22 0:one 1:other 2:mark
def g__law_near : Fn := ⟨true, 1, 18, (.cons (.par [13, 14] (.cons (.bi .sorted (.cons (.var 1) .nil)) (.cons (.dct .nil) .nil))) (.cons (.freeze 13) (.cons (.freeze 14) (.cons (.for (.name 2) .seq (.cons (.tup (.cons (.con (.str "kind")) (.cons (.con (.str "size")) (.cons (.con (.str "tint")) (.cons (.con (.str "zone")) .nil))))) .nil) [2, 15] (.cons (.asg (.name 15) (.call 18 (some 0) (.cons (.lst (.cons (.con (.str "")) (.cons (.con (.str "a")) (.cons (.con (.str "b")) (.cons (.con (.str "c")) .nil))))) .nil))) (.cons (.asg (.name 14) (.bi .dict (.cons (.bin .add (.bi .listItems (.cons (.var 14) .nil)) (.ite (.cmp .ne (.var 15) (.con (.str ""))) (.lst (.cons (.tup (.cons (.var 2) (.cons (.var 15) .nil))) .nil)) (.lst .nil))) .nil))) (.cons (.freeze 14) .nil)))) (.cons (.asg (.name 3) (.bi .dict (.cons (.comp [4] (.name 4) .seq (.cons (.var 13) .nil) .nil (.elt (.tup (.cons (.var 4) (.cons (.comp [2] (.name 2) .seq (.cons (.bi .sorted (.cons (.var 14) .nil)) .nil) (.cons (.cmp .ne (.me .get (.idx (.var 1) (.var 4)) (.cons (.var 2) (.cons (.con (.str "")) .nil))) (.idx (.var 14) (.var 2))) .nil) (.elt (.var 2))) .nil))))) .nil))) (.cons (.freeze 3) (.cons (.for (.name 4) .seq (.cons (.var 13) .nil) [4, 7] (.cons (.asg (.name 7) (.tup (.cons (.call 1 none (.cons (.bi .dict (.cons (.idx (.var 1) (.var 4)) .nil)) (.cons (.bi .dict (.cons (.var 14) .nil)) .nil))) (.cons (.call 5 none (.cons (.bi .dict (.cons (.idx (.var 1) (.var 4)) .nil)) (.cons (.bi .dict (.cons (.var 14) .nil)) .nil))) .nil)))) (.cons (.ite (.not (.call 19 none (.cons (.var 7) (.cons (.tup (.cons (.bi .tuple (.cons (.idx (.var 3) (.var 4)) .nil)) (.cons (.bi .tuple (.cons (.call 22 none (.cons (.idx (.var 1) (.var 4)) (.cons (.var 14) .nil))) .nil)) .nil))) .nil)))) (.cons (.ret (.con (.bool false))) .nil) .nil) .nil))) (.cons (.asg (.name 5) (.bi .min (.cons (.bin .add (.comp [4] (.name 4) .seq (.cons (.var 13) .nil) .nil (.elt (.bi .len (.cons (.idx (.var 3) (.var 4)) .nil)))) (.lst (.cons (.con (.int 9)) .nil))) .nil))) (.cons (.asg (.name 6) (.bi .tuple (.cons (.comp [4] (.name 4) .seq (.cons (.var 13) .nil) (.cons (.cmp .eq (.bi .len (.cons (.idx (.var 3) (.var 4)) .nil)) (.var 5)) .nil) (.elt (.var 4))) .nil))) (.cons (.asg (.name 7) (.tup (.cons (.call 3 none (.cons (.call 21 none (.cons (.var 1) .nil)) (.cons (.bi .dict (.cons (.var 14) .nil)) .nil))) (.cons (.call 9 none (.cons (.call 21 none (.cons (.var 1) .nil)) (.cons (.bi .dict (.cons (.var 14) .nil)) .nil))) .nil)))) (.cons (.ite (.not (.call 19 none (.cons (.var 7) (.cons (.tup (.cons (.ite (.cmp .ne (.var 13) (.lst .nil)) (.tup (.cons (.var 5) (.cons (.var 6) .nil))) (.con .none)) (.cons (.ite (.cmp .eq (.bi .len (.cons (.var 6) .nil)) (.con (.int 1))) (.idx (.var 1) (.idx (.var 6) (.con (.int 0)))) (.con .none)) .nil))) .nil)))) (.cons (.ret (.con (.bool false))) .nil) .nil) (.cons (.for (.name 8) .range (.cons (.con (.int 4)) .nil) [8, 16] (.cons (.asg (.name 16) (.bi .tuple (.cons (.comp [4] (.name 4) .seq (.cons (.var 13) .nil) (.cons (.cmp .le (.bi .len (.cons (.idx (.var 3) (.var 4)) .nil)) (.var 8)) .nil) (.elt (.var 4))) .nil))) (.cons (.ite (.not (.call 19 none (.cons (.tup (.cons (.call 2 none (.cons (.call 21 none (.cons (.var 1) .nil)) (.cons (.bi .dict (.cons (.var 14) .nil)) (.cons (.var 8) .nil)))) (.cons (.call 4 none (.cons (.call 21 none (.cons (.var 1) .nil)) (.cons (.bi .dict (.cons (.var 14) .nil)) (.cons (.var 8) .nil)))) .nil))) (.cons (.tup (.cons (.var 16) (.cons (.cmp .eq (.bi .len (.cons (.var 16) .nil)) (.con (.int 1))) .nil))) .nil)))) (.cons (.ret (.con (.bool false))) .nil) .nil) .nil))) (.cons (.asg (.name 9) (.lst .nil)) (.cons (.freeze 9) (.cons (.for (.name 10) .range (.cons (.bi .len (.cons (.var 13) .nil)) .nil) [10] (.cons (.asg (.name 9) (.bin .add (.var 9) (.comp [17] (.name 17) .range (.cons (.bin .add (.var 10) (.con (.int 1))) (.cons (.bi .len (.cons (.var 13) .nil)) .nil)) .nil (.elt (.tup (.cons (.bi .len (.cons (.call 22 none (.cons (.idx (.var 1) (.idx (.var 13) (.var 10))) (.cons (.idx (.var 1) (.idx (.var 13) (.var 17))) .nil))) .nil)) (.cons (.idx (.var 13) (.var 10)) (.cons (.idx (.var 13) (.var 17)) .nil)))))))) .nil)) (.cons (.asg (.name 11) (.ite (.cmp .ne (.var 9) (.lst .nil)) (.idx (.bi .min (.cons (.var 9) .nil)) (.con (.int 0))) (.con .none))) (.cons (.asg (.name 12) (.ite (.cmp .eq (.var 9) (.lst .nil)) (.con .none) (.ite (.cmp .gt (.var 11) (.con (.int 0))) (.bin .sub (.var 11) (.con (.int 1))) (.con (.int 0))))) (.cons (.ite (.not (.call 19 none (.cons (.tup (.cons (.call 6 none (.cons (.call 21 none (.cons (.var 1) .nil)) .nil)) (.cons (.call 7 none (.cons (.call 21 none (.cons (.var 1) .nil)) .nil)) (.cons (.call 8 none (.cons (.call 21 none (.cons (.var 1) .nil)) .nil)) .nil)))) (.cons (.tup (.cons (.ite (.cmp .ne (.var 9) (.lst .nil)) (.bi .min (.cons (.var 9) .nil)) (.con .none)) (.cons (.var 12) (.cons (.ite (.cmp .eq (.var 9) (.lst .nil)) (.con .none) (.bin .fdiv (.var 12) (.con (.int 2)))) .nil)))) .nil)))) (.cons (.ret (.con (.bool false))) .nil) .nil) (.cons (.ret (.or (.cmp .eq (.var 9) (.lst .nil)) (.or (.cmp .eq (.var 11) (.con (.int 0))) (.call 24 none (.cons (.var 1) (.cons (.var 13) (.cons (.var 11) .nil))))))) .nil)))))))))))))))))))⟩ -- 23 0:w 1:things 2:mark 3:wrong 4:name 5:least 6:best 7:seen 8:most 9:rows 10:k 11:gap 12:sees 13:names 14:told 15:value 16:near 17:j
def g__law_safe : Fn := ⟨false, 3, 13, (.cons (.asg (.name 3) (.lst (.cons (.dct .nil) .nil))) (.cons (.freeze 3) (.cons (.for (.name 4) .seq (.cons (.tup (.cons (.con (.str "kind")) (.cons (.con (.str "size")) (.cons (.con (.str "tint")) .nil)))) .nil) [4, 5, 6] (.cons (.asg (.name 6) (.lst .nil)) (.cons (.freeze 6) (.cons (.for (.name 5) .seq (.cons (.var 3) .nil) [5] (.cons (.asg (.name 6) (.bin .add (.var 6) (.comp [11] (.name 11) .seq (.cons (.tup (.cons (.con (.str "")) (.cons (.con (.str "a")) (.cons (.con (.str "b")) (.cons (.con (.str "c")) .nil))))) .nil) .nil (.elt (.bi .dict (.cons (.bin .add (.bi .listItems (.cons (.var 5) .nil)) (.ite (.cmp .ne (.var 11) (.con (.str ""))) (.lst (.cons (.tup (.cons (.var 4) (.cons (.var 11) .nil))) .nil)) (.lst .nil))) .nil)))))) .nil)) (.cons (.asg (.name 3) (.var 6)) .nil))))) (.cons (.for (.name 5) .seq (.cons (.var 3) .nil) [5, 7, 8, 9] (.cons (.for (.name 7) .seq (.cons (.var 1) .nil) [7, 8, 9] (.cons (.asg (.name 8) (.bi .len (.cons (.call 22 none (.cons (.idx (.var 0) (.var 7)) (.cons (.var 5) .nil))) .nil))) (.cons (.asg (.name 9) (.comp [10] (.name 10) .seq (.cons (.var 1) .nil) (.cons (.cmp .ne (.var 10) (.var 7)) .nil) (.elt (.bi .len (.cons (.call 22 none (.cons (.idx (.var 0) (.var 10)) (.cons (.var 5) .nil))) .nil))))) (.cons (.freeze 9) (.cons (.ite (.or (.and (.cmp .le (.var 8) (.bin .sub (.var 2) (.con (.int 1)))) (.and (.cmp .gt (.var 8) (.con (.int 0))) (.cmp .isin (.con (.int 0)) (.var 9)))) (.and (.cmp .le (.var 8) (.bin .fdiv (.bin .sub (.var 2) (.con (.int 1))) (.con (.int 2)))) (.cmp .ne (.comp [12] (.name 12) .seq (.cons (.var 9) .nil) (.cons (.cmp .le (.var 12) (.var 8)) .nil) (.elt (.var 12))) (.lst .nil)))) (.cons (.ret (.con (.bool false))) .nil) .nil) .nil))))) .nil)) (.cons (.ret (.con (.bool true))) .nil)))))⟩ -- 24 0:things 1:names 2:gap 3:rows 4:mark 5:row 6:longer 7:name 8:far 9:others 10:own 11:value 12:one
def g__law_rides : Fn := ⟨true, 0, 5, (.cons (.par [2, 3] (.cons (.lst .nil) (.cons (.next 0 (.con (.int 4))) .nil))) (.cons (.for (.name 1) .range (.cons (.next 0 (.con (.int 6))) .nil) [1, 4] (.cons (.asg (.name 4) (.bin .add (.bin .add (.var 3) (.con (.int 1))) (.next 0 (.con (.int 6))))) (.cons (.append 2 (.tup (.cons (.call 18 (some 0) (.cons (.lst (.cons (.con (.str "red")) (.cons (.con (.str "blue")) .nil))) .nil)) (.cons (.var 3) (.cons (.var 4) .nil))))) (.cons (.asg (.name 3) (.bin .add (.var 4) (.next 0 (.con (.int 4))))) .nil)))) (.cons (.ret (.bi .tuple (.cons (.var 2) .nil))) .nil)))⟩ -- 25 0:w 1:k 2:found 3:at 4:end
def g__law_minutes : Fn := ⟨false, 3, 9, (.cons (.ite (.cmp .ne (.comp [3] (.name 3) .seq (.cons (.var 1) .nil) (.cons (.cmp .ne (.comp [8] (.name 8) .seq (.cons (.var 2) .nil) (.cons (.cmp .le (.var 8) (.var 3)) .nil) (.elt (.var 8))) (.lst .nil)) .nil) (.elt (.var 3))) (.lst .nil)) (.cons (.ret (.con .none)) .nil) .nil) (.cons (.ret (.comp [5, 6, 7] (.tup [5, 6, 7]) .seq (.cons (.var 0) .nil) .nil (.elt (.comp [4] (.name 4) .range (.cons (.var 6) (.cons (.var 7) .nil)) (.cons (.and (.cmp .eq (.comp [3] (.name 3) .seq (.cons (.var 1) .nil) (.cons (.cmp .gt (.var 3) (.var 4)) .nil) (.elt (.var 3))) (.lst .nil)) (.cmp .eq (.comp [3] (.name 3) .seq (.cons (.var 2) .nil) (.cons (.cmp .le (.var 3) (.var 4)) .nil) (.elt (.var 3))) (.lst .nil))) .nil) (.elt (.var 4)))))) .nil))⟩ -- 26 0:rides 1:had 2:missed 3:one 4:m 5:line 6:begin 7:end 8:other
def g__law_set : Fn := ⟨true, 2, 4, (.cons (.ret (.bi .tuple (.cons (.bi .sorted (.cons (.bi .dict (.cons (.comp [3] (.name 3) .range (.cons (.var 1) .nil) .nil (.elt (.tup (.cons (.next 0 (.var 2)) (.cons (.con (.bool true)) .nil))))) .nil)) .nil)) .nil))) .nil)⟩ -- 27 0:w 1:many 2:most 3:k
def g__law_lost : Fn := ⟨true, 0, 20, (.cons (.asg (.name 1) (.call 25 (some 0) .nil)) (.cons (.par [10, 2] (.cons (.call 27 (some 0) (.cons (.next 0 (.con (.int 3))) (.cons (.con (.int 20)) .nil))) (.cons (.bi .tuple (.cons (.comp [17] (.name 17) .seq (.cons (.call 27 (some 0) (.cons (.next 0 (.con (.int 3))) (.cons (.con (.int 20)) .nil))) .nil) .nil (.elt (.bin .add (.var 17) (.call 18 (some 0) (.cons (.lst (.cons (.con (.int 0)) (.cons (.con (.int 12)) .nil))) .nil))))) .nil)) .nil))) (.cons (.asg (.name 2) (.bi .tuple (.cons (.bi .sorted (.cons (.bi .dict (.cons (.comp [17] (.name 17) .seq (.cons (.var 2) .nil) .nil (.elt (.tup (.cons (.var 17) (.cons (.con (.bool true)) .nil))))) .nil)) .nil)) .nil))) (.cons (.asg (.name 3) (.call 26 none (.cons (.var 1) (.cons (.var 10) (.cons (.var 2) .nil))))) (.cons (.asg (.name 4) (.ite (.cmp .is (.var 3) (.con .none)) (.con .none) (.tup (.cons (.ite (.cmp .ne (.var 10) (.tup .nil)) (.idx (.var 10) (.neg (.con (.int 1)))) (.con .none)) (.cons (.ite (.cmp .ne (.var 2) (.tup .nil)) (.idx (.var 2) (.con (.int 0))) (.con .none)) .nil))))) (.cons (.asg (.name 5) (.bi .tuple (.cons (.comp [16] (.name 16) .range (.cons (.bi .len (.cons (.var 1) .nil)) .nil) (.cons (.and (.cmp .isnot (.var 3) (.con .none)) (.cmp .ne (.idx (.var 3) (.var 16)) (.lst .nil))) .nil) (.elt (.var 16))) .nil))) (.cons (.asg (.name 6) (.tup (.cons (.call 10 none (.cons (.var 10) (.cons (.var 2) .nil))) (.cons (.call 12 none (.cons (.var 1) (.cons (.var 10) (.cons (.var 2) .nil)))) (.cons (.call 13 none (.cons (.var 1) (.cons (.var 10) (.cons (.var 2) .nil)))) (.cons (.call 17 none (.cons (.var 1) (.cons (.var 10) (.cons (.var 2) .nil)))) .nil)))))) (.cons (.ite (.not (.call 19 none (.cons (.var 6) (.cons (.tup (.cons (.var 4) (.cons (.var 5) (.cons (.cmp .eq (.bi .len (.cons (.var 5) .nil)) (.con (.int 1))) (.cons (.ite (.cmp .isnot (.var 3) (.con .none)) (.bi .sum (.cons (.comp [18] (.name 18) .seq (.cons (.var 3) .nil) .nil (.elt (.bi .len (.cons (.var 18) .nil)))) .nil)) (.con (.int 0))) .nil))))) .nil)))) (.cons (.ret (.con (.bool false))) .nil) .nil) (.cons (.par [11, 12, 13] (.cons (.call 18 (some 0) (.cons (.lst (.cons (.con (.str "red")) (.cons (.con (.str "blue")) .nil))) .nil)) (.cons (.next 0 (.con (.int 30))) (.cons (.lst .nil) .nil)))) (.cons (.asg (.name 7) (.bi .tuple (.cons (.comp [16] (.name 16) .range (.cons (.bi .len (.cons (.var 1) .nil)) .nil) (.cons (.and (.cmp .eq (.idx (.idx (.var 1) (.var 16)) (.con (.int 0))) (.var 11)) (.cmp .le (.idx (.idx (.var 1) (.var 16)) (.con (.int 1))) (.var 12))) .nil) (.elt (.var 16))) .nil))) (.cons (.asg (.name 8) (.bi .tuple (.cons (.comp [16] (.name 16) .seq (.cons (.var 5) .nil) (.cons (.and (.cmp .eq (.idx (.idx (.var 1) (.var 16)) (.con (.int 0))) (.var 11)) (.cmp .ne (.comp [19] (.name 19) .seq (.cons (.idx (.var 3) (.var 16)) .nil) (.cons (.cmp .le (.var 19) (.var 12)) .nil) (.elt (.var 19))) (.lst .nil))) .nil) (.elt (.var 16))) .nil))) (.cons (.ite (.not (.call 19 none (.cons (.tup (.cons (.call 14 none (.cons (.var 1) (.cons (.var 11) (.cons (.var 12) .nil)))) (.cons (.call 15 none (.cons (.var 1) (.cons (.var 10) (.cons (.var 2) (.cons (.var 11) (.cons (.var 12) .nil)))))) .nil))) (.cons (.tup (.cons (.var 7) (.cons (.var 8) .nil))) .nil)))) (.cons (.ret (.con (.bool false))) .nil) .nil) (.cons (.for (.name 9) .seq (.cons (.bi .sorted (.cons (.comp [16] (.name 16) .seq (.cons (.var 5) .nil) .nil (.elt (.idx (.idx (.var 1) (.var 16)) (.con (.int 1))))) .nil)) .nil) [9, 14, 15] (.cons (.par [14, 15] (.cons (.call 26 none (.cons (.var 1) (.cons (.bin .add (.var 10) (.tup (.cons (.var 9) .nil))) (.cons (.var 2) .nil)))) (.cons (.call 26 none (.cons (.var 1) (.cons (.var 10) (.cons (.bin .add (.var 2) (.tup (.cons (.var 9) .nil))) .nil)))) .nil))) (.cons (.append 13 (.tup (.cons (.bi .max (.cons (.comp [6] (.name 6) .seq (.cons (.tup (.cons (.var 14) (.cons (.var 15) .nil))) .nil) .nil (.elt (.ite (.cmp .isnot (.var 6) (.con .none)) (.bi .len (.cons (.comp [18] (.name 18) .seq (.cons (.var 6) .nil) (.cons (.cmp .ne (.var 18) (.lst .nil)) .nil) (.elt (.var 18))) .nil)) (.con (.int 0))))) .nil)) (.cons (.var 9) .nil)))) .nil))) (.cons (.ret (.call 19 none (.cons (.call 16 none (.cons (.var 1) (.cons (.var 10) (.cons (.var 2) .nil)))) (.cons (.ite (.cmp .gt (.bi .len (.cons (.var 5) .nil)) (.con (.int 1))) (.bi .min (.cons (.var 13) .nil)) (.con .none)) .nil)))) .nil))))))))))))))⟩ -- 28 0:w 1:rides 2:missed 3:rows 4:span 5:able 6:told 7:there 8:could 9:ask 10:had 11:line 12:minute 13:asks 14:yes 15:no 16:k 17:one 18:row 19:m
def T : List Fn := [g_choices, g_wrong_in, g_near_ones, g_nearest, g_is_sure_by, g_differ_in, g_least_gap, g_sees_wrong, g_mends_wrong, g_mended, g_lost_span, g_minutes_in, g_rides_for, g_is_sure_ride, g_found_on, g_could_be_lost, g_best_ask, g_minutes_left, g__law_pick, g__law_alike, g__law_things, g__law_own, g__law_differ, g__law_near, g__law_safe, g__law_rides, g__law_minutes, g__law_set, g__law_lost]
def lawS : Ss := (.cons (.for (.name 2) .range (.cons (.con (.int 4)) .nil) [2] (.cons (.ite (.or (.not (.call 23 (some 1) (.cons (.call 20 (some 1) (.cons (.con (.int 5)) .nil)) .nil))) (.not (.call 28 (some 1) .nil))) (.cons (.ret (.con (.bool false))) .nil) .nil) .nil)) (.cons (.ret (.con (.bool true))) .nil)) -- 0:script 1:w 2:turn
def lawNl : Nat := 3
end K02

set_option maxRecDepth 100000
set_option maxHeartbeats 4000000
namespace K02
open PySem Ly

/-! ### choices -/
def comb : Nat → List D → List (List D)
  | 0, _ => [[]]
  | n + 1, xs => (List.range xs.length).flatMap fun i => (comb n (xs.drop (i + 1))).map (xs.getD i .none :: ·)
theorem comb_len : ∀ (n : Nat) (xs : List D), ∀ r ∈ comb n xs, r.length = n
  | 0, xs, r, h => by
    simp [comb] at h
    rw [h]
    rfl
  | n + 1, xs, r, h => by
    simp only [comb, List.mem_flatMap, List.mem_map] at h
    obtain ⟨i, _, r', hr, rfl⟩ := h
    rw [List.length_cons, comb_len n _ r' hr]
theorem ok_choices : ∀ (n k : Nat) (xs : List D), (∀ m i, m ≤ n → (comb m (xs.drop i)).length ≤ 1000) → xs.length ≤ 1000 → n ≤ 1000 → cfN T (k + n + 1) 0 [.tuple xs, .int n] = W.ok (.list ((comb n xs).map .tuple))
  | 0, k, xs, hb, hx, hn => by
    refine call_eq (f := g_choices) rfl rfl fun κ => ?_
    show evSs _ _ _ [.val (.tuple xs), .val (.int 0), .non, .non, .non] = _
    simp [g_choices, e_varT, e_varF, e_con, e_tup, e_lst, e_dct, e_bin, e_cat, e_neg, e_not, e_and, e_or, e_cmp, e_ite, e_idx, e_cut, e_bi, e_me, e_isi, e_call, e_nil, e_cons, e_o0, e_o1, e_if0, e_if1, evKV, st_nil, st_cons, st_asg, st_asgT, st_par, st_ret, st_brk, st_ite, b_ok, b_some, b_b, o_some, q_b, q_ok, q_some, s_g0, s_gs, s_pv, s_po, s_vv, v_addI, v_sub, v_mul, v_div, v_mod, v_pow, c_eqI, p_seq, p_keys, p_range, p_zip, p_enum, p_items, p_values, c_eqS, c_eqB, c_eqN, c_neI, c_neS, c_lt, c_gt, c_le, c_ge, c_isN, c_isnotN, n_none, n_int, n_bool, n_str, n_tup, n_list, n_dict, Bool.not_true, Bool.not_false, gd_t, f_int, f_abs, f_tupL, f_tupT, f_listL, f_listT, f_listD, f_min, f_max, l_list, l_tup, l_dict, w_list, w_tup, w_keys, t_bool, t_int, s_k0, s_kc, s_tn, Ly.fresh, Ly.freshL, setAll, List.set_cons_zero, List.set_cons_succ, if_true, if_false, Bool.false_eq_true, ite_true, ite_false, comb]
  | n + 1, k, xs, hb, hx, hn => by
    refine call_eq (f := g_choices) rfl rfl fun κ => ?_
    show evSs _ _ _ [.val (.tuple xs), .val (.int (n + 1 : Nat)), .non, .non, .non] = _
    have hne : (((n + 1 : Nat) : Int) == 0) = false := by simp; omega
    simp only [g_choices, e_varT, e_varF, e_con, e_tup, e_lst, e_dct, e_bin, e_cat, e_neg, e_not, e_and, e_or, e_cmp, e_ite, e_idx, e_cut, e_bi, e_me, e_isi, e_call, e_nil, e_cons, e_o0, e_o1, e_if0, e_if1, evKV, st_nil, st_cons, st_asg, st_asgT, st_par, st_ret, st_brk, st_ite, b_ok, b_some, b_b, o_some, q_b, q_ok, q_some, s_g0, s_gs, s_pv, s_po, s_vv, v_addI, v_sub, v_mul, v_div, v_mod, v_pow, c_eqI, p_seq, p_keys, p_range, p_zip, p_enum, p_items, p_values, c_eqS, c_eqB, c_eqN, c_neI, c_neS, c_lt, c_gt, c_le, c_ge, c_isN, c_isnotN, n_none, n_int, n_bool, n_str, n_tup, n_list, n_dict, Bool.not_true, Bool.not_false, gd_t, f_int, f_abs, f_tupL, f_tupT, f_listL, f_listT, f_listD, f_min, f_max, l_list, l_tup, l_dict, w_list, w_tup, w_keys, t_bool, t_int, s_k0, s_kc, s_tn, Ly.fresh, Ly.freshL, setAll, List.set_cons_zero, List.set_cons_succ, if_true, if_false, Bool.false_eq_true, ite_true, ite_false, hne]
    let g : Nat → List (List D) := fun i => (comb n (xs.drop (i + 1))).map (xs.getD i .none :: ·)
    let St : Nat → Ly.Env := fun i => [.val (.tuple xs), .val (.int (n + 1 : Nat)), .own (.list (((List.range i).flatMap g).map .tuple)), .non, .non]
    have len : ∀ i, ((List.range i).flatMap g).length ≤ i * 1000 := fun i => by
      induction i with
      | zero => simp
      | succ i ih =>
        rw [List.range_succ, List.flatMap_append, List.length_append, List.flatMap_cons, List.flatMap_nil, List.append_nil]
        have : (g i).length ≤ 1000 := by
          show ((comb n (xs.drop (i + 1))).map _).length ≤ _
          rw [List.length_map]
          exact hb n (i + 1) (by omega)
        omega
    have lim_ : lim = 16777216 := rfl
    rw [st_for (xs := List.range xs.length) (enc := fun (k : Nat) => PyData.int k) St (as := [.int xs.length]) (by simp only [e_varT, e_varF, e_con, e_tup, e_lst, e_dct, e_bin, e_cat, e_neg, e_not, e_and, e_or, e_cmp, e_ite, e_idx, e_cut, e_bi, e_me, e_isi, e_call, e_nil, e_cons, e_o0, e_o1, e_if0, e_if1, evKV, st_nil, st_cons, st_asg, st_asgT, st_par, st_ret, st_brk, st_ite, b_ok, b_some, b_b, o_some, q_b, q_ok, q_some, s_g0, s_gs, s_pv, s_po, s_vv, v_addI, v_sub, v_mul, v_div, v_mod, v_pow, c_eqI, p_seq, p_keys, p_range, p_zip, p_enum, p_items, p_values, c_eqS, c_eqB, c_eqN, c_neI, c_neS, c_lt, c_gt, c_le, c_ge, c_isN, c_isnotN, n_none, n_int, n_bool, n_str, n_tup, n_list, n_dict, Bool.not_true, Bool.not_false, gd_t, f_int, f_abs, f_tupL, f_tupT, f_listL, f_listT, f_listD, f_min, f_max, l_list, l_tup, l_dict, w_list, w_tup, w_keys, t_bool, t_int, s_k0, s_kc, s_tn, Ly.fresh, Ly.freshL, setAll, List.set_cons_zero, List.set_cons_succ, if_true, if_false, Bool.false_eq_true, ite_true, ite_false]) (by rw [w_range, small_nat (by omega), gd_t, range_enc]) rfl ?_]
    · rw [List.length_range]
      simp only [e_varT, e_varF, e_con, e_tup, e_lst, e_dct, e_bin, e_cat, e_neg, e_not, e_and, e_or, e_cmp, e_ite, e_idx, e_cut, e_bi, e_me, e_isi, e_call, e_nil, e_cons, e_o0, e_o1, e_if0, e_if1, evKV, st_nil, st_cons, st_asg, st_asgT, st_par, st_ret, st_brk, st_ite, b_ok, b_some, b_b, o_some, q_b, q_ok, q_some, s_g0, s_gs, s_pv, s_po, s_vv, v_addI, v_sub, v_mul, v_div, v_mod, v_pow, c_eqI, p_seq, p_keys, p_range, p_zip, p_enum, p_items, p_values, c_eqS, c_eqB, c_eqN, c_neI, c_neS, c_lt, c_gt, c_le, c_ge, c_isN, c_isnotN, n_none, n_int, n_bool, n_str, n_tup, n_list, n_dict, Bool.not_true, Bool.not_false, gd_t, f_int, f_abs, f_tupL, f_tupT, f_listL, f_listT, f_listD, f_min, f_max, l_list, l_tup, l_dict, w_list, w_tup, w_keys, t_bool, t_int, s_k0, s_kc, s_tn, Ly.fresh, Ly.freshL, setAll, List.set_cons_zero, List.set_cons_succ, if_true, if_false, Bool.false_eq_true, ite_true, ite_false]
      rw [st_frz 2 rfl]
      simp [St, e_varT, e_varF, e_con, e_tup, e_lst, e_dct, e_bin, e_cat, e_neg, e_not, e_and, e_or, e_cmp, e_ite, e_idx, e_cut, e_bi, e_me, e_isi, e_call, e_nil, e_cons, e_o0, e_o1, e_if0, e_if1, evKV, st_nil, st_cons, st_asg, st_asgT, st_par, st_ret, st_brk, st_ite, b_ok, b_some, b_b, o_some, q_b, q_ok, q_some, s_g0, s_gs, s_pv, s_po, s_vv, v_addI, v_sub, v_mul, v_div, v_mod, v_pow, c_eqI, p_seq, p_keys, p_range, p_zip, p_enum, p_items, p_values, c_eqS, c_eqB, c_eqN, c_neI, c_neS, c_lt, c_gt, c_le, c_ge, c_isN, c_isnotN, n_none, n_int, n_bool, n_str, n_tup, n_list, n_dict, Bool.not_true, Bool.not_false, gd_t, f_int, f_abs, f_tupL, f_tupT, f_listL, f_listT, f_listD, f_min, f_max, l_list, l_tup, l_dict, w_list, w_tup, w_keys, t_bool, t_int, s_k0, s_kc, s_tn, Ly.fresh, Ly.freshL, setAll, List.set_cons_zero, List.set_cons_succ, if_true, if_false, Bool.false_eq_true, ite_true, ite_false, comb, g]
    · intro i x hi κ'
      obtain ⟨hlt, e⟩ := List.getElem?_eq_some_iff.mp hi
      rw [List.length_range] at hlt
      rw [List.getElem_range] at e
      subst e
      refine ⟨[.val (.tuple xs), .val (.int (n + 1 : Nat)), .own (.list (((List.range i).flatMap g).map .tuple)), .val (.int i), .non], [.val (.tuple xs), .val (.int (n + 1 : Nat)), .own (.list (((List.range (i + 1)).flatMap g).map .tuple)), .val (.int i), .non], rfl, rfl, ?_⟩
      have call : cfN T (k + (n + 1)) 0 [.tuple (xs.drop (i + 1)), .int n] = W.ok (.list ((comb n (xs.drop (i + 1))).map .tuple)) := by
        have := ok_choices n k (xs.drop (i + 1)) (fun m j hm => by rw [List.drop_drop]; exact hb m _ (by omega)) (by rw [List.length_drop]; omega) (by omega)
        exact this
      have cut : cutL xs (some ((i : Int) + 1)) none = xs.drop (i + 1) := by
        unfold cutL
        have h1 : sIx xs.length 0 (some ((i : Int) + 1)) = i + 1 := by
          have q : ¬ ((i : Int) + 1 < 0) := by omega
          simp only [sIx, if_neg q]
          omega
        have h2 : sIx xs.length xs.length none = xs.length := rfl
        rw [h1, h2]
        exact List.take_of_length_le (by rw [List.length_drop]; omega)
      have sub : ((n + 1 : Nat) : Int) - 1 = n := by omega
      have xi : idxD (.tuple xs) (.int i) = some (xs.getD i .none) := by
        rw [x_tup, x_nat hlt]
        show xs[i]? = _
        rw [List.getD_eq_getElem?_getD, List.getElem?_eq_getElem hlt]
        rfl
      rw [st_cons, st_ext 2 _ (ds := ((List.range i).flatMap g).map .tuple) (es := (g i).map .tuple) rfl ?_ ?_]
      · simp [e_varT, e_varF, e_con, e_tup, e_lst, e_dct, e_bin, e_cat, e_neg, e_not, e_and, e_or, e_cmp, e_ite, e_idx, e_cut, e_bi, e_me, e_isi, e_call, e_nil, e_cons, e_o0, e_o1, e_if0, e_if1, evKV, st_nil, st_cons, st_asg, st_asgT, st_par, st_ret, st_brk, st_ite, b_ok, b_some, b_b, o_some, q_b, q_ok, q_some, s_g0, s_gs, s_pv, s_po, s_vv, v_addI, v_sub, v_mul, v_div, v_mod, v_pow, c_eqI, p_seq, p_keys, p_range, p_zip, p_enum, p_items, p_values, c_eqS, c_eqB, c_eqN, c_neI, c_neS, c_lt, c_gt, c_le, c_ge, c_isN, c_isnotN, n_none, n_int, n_bool, n_str, n_tup, n_list, n_dict, Bool.not_true, Bool.not_false, gd_t, f_int, f_abs, f_tupL, f_tupT, f_listL, f_listT, f_listD, f_min, f_max, l_list, l_tup, l_dict, w_list, w_tup, w_keys, t_bool, t_int, s_k0, s_kc, s_tn, Ly.fresh, Ly.freshL, setAll, List.set_cons_zero, List.set_cons_succ, if_true, if_false, Bool.false_eq_true, ite_true, ite_false, List.range_succ]
      · rw [ev_comp0 (xs := comb n (xs.drop (i + 1))) (enc := .tuple) (as := [.list ((comb n (xs.drop (i + 1))).map .tuple)]) (fun r => .tuple (xs.getD i .none :: r)) ?_ rfl ?_ ?_]
        · simp [g, Function.comp_def]
        · simp only [e_varT, e_varF, e_con, e_tup, e_lst, e_dct, e_bin, e_cat, e_neg, e_not, e_and, e_or, e_cmp, e_ite, e_idx, e_cut, e_bi, e_me, e_isi, e_call, e_nil, e_cons, e_o0, e_o1, e_if0, e_if1, evKV, st_nil, st_cons, st_asg, st_asgT, st_par, st_ret, st_brk, st_ite, b_ok, b_some, b_b, o_some, q_b, q_ok, q_some, s_g0, s_gs, s_pv, s_po, s_vv, v_addI, v_sub, v_mul, v_div, v_mod, v_pow, c_eqI, p_seq, p_keys, p_range, p_zip, p_enum, p_items, p_values, c_eqS, c_eqB, c_eqN, c_neI, c_neS, c_lt, c_gt, c_le, c_ge, c_isN, c_isnotN, n_none, n_int, n_bool, n_str, n_tup, n_list, n_dict, Bool.not_true, Bool.not_false, gd_t, f_int, f_abs, f_tupL, f_tupT, f_listL, f_listT, f_listD, f_min, f_max, l_list, l_tup, l_dict, w_list, w_tup, w_keys, t_bool, t_int, s_k0, s_kc, s_tn, Ly.fresh, Ly.freshL, setAll, List.set_cons_zero, List.set_cons_succ, if_true, if_false, Bool.false_eq_true, ite_true, ite_false, St, cutD, cut, sub, call]
        · intro r hr
          refine ⟨_, rfl, ?_⟩
          simp only [e_varT, e_varF, e_con, e_tup, e_lst, e_dct, e_bin, e_cat, e_neg, e_not, e_and, e_or, e_cmp, e_ite, e_idx, e_cut, e_bi, e_me, e_isi, e_call, e_nil, e_cons, e_o0, e_o1, e_if0, e_if1, evKV, st_nil, st_cons, st_asg, st_asgT, st_par, st_ret, st_brk, st_ite, b_ok, b_some, b_b, o_some, q_b, q_ok, q_some, s_g0, s_gs, s_pv, s_po, s_vv, v_addI, v_sub, v_mul, v_div, v_mod, v_pow, c_eqI, p_seq, p_keys, p_range, p_zip, p_enum, p_items, p_values, c_eqS, c_eqB, c_eqN, c_neI, c_neS, c_lt, c_gt, c_le, c_ge, c_isN, c_isnotN, n_none, n_int, n_bool, n_str, n_tup, n_list, n_dict, Bool.not_true, Bool.not_false, gd_t, f_int, f_abs, f_tupL, f_tupT, f_listL, f_listT, f_listD, f_min, f_max, l_list, l_tup, l_dict, w_list, w_tup, w_keys, t_bool, t_int, s_k0, s_kc, s_tn, Ly.fresh, Ly.freshL, setAll, List.set_cons_zero, List.set_cons_succ, if_true, if_false, Bool.false_eq_true, ite_true, ite_false, St, xi]
          rw [v_addT, g_le (by
            have := comb_len n _ r hr
            show 1 + r.length ≤ lim
            omega), o_some]
          rfl
        · have := hb n (i + 1) (by omega)
          omega
      · rw [List.length_map, List.length_map]
        have := len i
        have : (g i).length ≤ 1000 := by
          show ((comb n (xs.drop (i + 1))).map _).length ≤ _
          rw [List.length_map]
          exact hb n (i + 1) (by omega)
        omega
end K02

set_option maxRecDepth 100000
set_option maxHeartbeats 4000000
namespace K02
open PySem Ly
/-! ### a thing: by marks -/
def MK : List Str := ["kind", "size", "tint", "zone"]
def has (f : Str → Str) (m : Str) : Bool := !(f m == "")
def ksV (f : Str → Str) : List Str := MK.filter (has f)
def kvV (f : Str → Str) : List (Str × D) := (ksV f).map fun m => (m, .str (f m))
def dV (f : Str → Str) : D := .dict (sd (kvV f))
theorem MK_nd : MK.Nodup := by decide +kernel
theorem MK_sh : ∀ m ∈ MK, sh (.str m) = true := by decide +kernel
theorem MK_up : MK.Pairwise fun a b => leB (.str a) (.str b) = true := by decide +kernel
theorem kv_keys (f : Str → Str) : (kvV f).map (·.1) = ksV f := by
  unfold kvV
  rw [List.map_map]
  exact List.map_id _
theorem ks_nd (f : Str → Str) : (ksV f).Nodup := MK_nd.filter _
theorem kv_nd (f : Str → Str) : ((kvV f).map (·.1)).Nodup := by rw [kv_keys]; exact ks_nd f
theorem ks_len (f : Str → Str) : (ksV f).length ≤ 4 := List.length_filter_le _ _
theorem mem_ks {f : Str → Str} {m : Str} : m ∈ ksV f ↔ m ∈ MK ∧ has f m = true := List.mem_filter
theorem get_v {f : Str → Str} {m : Str} (h : m ∈ MK) : getD (sd (kvV f)) (.str m) = if has f m then some (.str (f m)) else none := by
  by_cases q : has f m = true
  · rw [if_pos q]
    exact sd_get (kv_nd f) (List.mem_map.mpr ⟨m, mem_ks.mpr ⟨h, q⟩, rfl⟩)
  · rw [if_neg q]
    refine sd_none fun p hp e => q ?_
    obtain ⟨m', hm, rfl⟩ := List.mem_map.mp hp
    have e : m' = m := e
    rw [← e]
    exact (mem_ks.mp hm).2
theorem get1 {f : Str → Str} {m : Str} (h : m ∈ MK) : meD .get (dV f) [.str m] = some (if has f m then .str (f m) else .none) := by
  show some ((getD (sd (kvV f)) (.str m)).getD .none) = _
  rw [get_v h]
  split <;> rfl
theorem get2 {f : Str → Str} {m : Str} (h : m ∈ MK) : meD .get (dV f) [.str m, .str ""] = some (.str (f m)) := by
  show some ((getD (sd (kvV f)) (.str m)).getD (.str "")) = _
  rw [get_v h]
  by_cases q : has f m = true
  · rw [if_pos q]; rfl
  · rw [if_neg q]
    have : f m = "" := by
      unfold has at q
      simpa using q
    rw [this]
    rfl
theorem get_ok (f : Str → Str) : gd (meOk .get (dV f)) () = some () := rfl
theorem idx_v {f : Str → Str} {m : Str} (h : m ∈ ksV f) : idxD (dV f) (.str m) = some (.str (f m)) := by
  show (some () >>= fun _ => getD (sd (kvV f)) (.str m)) = _
  obtain ⟨h1, h2⟩ := mem_ks.mp h
  show getD (sd (kvV f)) (.str m) = _
  rw [get_v h1, if_pos h2]
theorem keys_v (f : Str → Str) : keysOf (dV f) = some ((ksV f).map .str) := by
  show some ((sd (kvV f)).map (·.1)) = _
  rw [sd_fst]
  unfold kvV
  rw [List.map_map]
  rfl
theorem up_ks (f : Str → Str) : (ksV f).Pairwise fun a b => leB (.str a) (.str b) = true := MK_up.sublist List.filter_sublist
theorem sorted_v (f : Str → Str) : biD .sorted [dV f] = some (.list ((ksV f).map .str)) := by
  have lim_ : lim = 16777216 := rfl
  have := ks_len f
  exact sorted_of (keys_v f) (sortOk_strs fun x hx => MK_sh x (mem_ks.mp hx).1) (by rw [List.length_map]; omega) (srt_id (List.pairwise_map.mpr (up_ks f)))
theorem ne_mark {f : Str → Str} {m : Str} {b : Str} (hb : b ≠ "") (h2 : sh (.str b) = true) : cmpD .ne (if has f m then PyData.str (f m) else .none) (.str b) = some (!(f m == b)) := by
  by_cases q : has f m = true
  · rw [if_pos q]; rfl
  · rw [if_neg q]
    have e : f m = "" := by
      unfold has at q
      simpa using q
    have : (f m == b) = false := by
      rw [e]
      simpa using fun z => hb z.symm
    rw [this]
    show (gd (sh .none && sh (.str b)) (PyData.eqv .none (.str b))).map (!·) = _
    rw [h2]
    rfl
/-- the values are texts that may be compared -/
def Val (f : Str → Str) : Prop := ∀ m, sh (.str (f m)) = true
def wrongL (f g : Str → Str) : List Str := (ksV g).filter fun m => !(f m == g m)
theorem has_ne {g : Str → Str} {m : Str} (h : has g m = true) : g m ≠ "" := by
  unfold has at h
  simpa using h
theorem ok_wrong {f g : Str → Str} (hg : Val g) (k : Nat) : cfN T (k + 1) 1 [dV f, dV g] = W.ok (.tuple ((wrongL f g).map .str)) := by
  refine call_eq (f := g_wrong_in) rfl rfl fun κ => ?_
  show evSs _ _ _ [.val (dV f), .val (dV g), .non] = _
  have lim_ : lim = 16777216 := rfl
  have := ks_len g
  have c := fun b => ev_comp (cf := cfN T k) (b := b) (own := [2]) (t := .name 2) (k := .seq) (es := .cons (.bi .sorted (.cons (.var 1) .nil)) .nil) (ifs := .cons (.cmp .ne (.me .get (.var 0) (.cons (.var 2) .nil)) (.idx (.var 1) (.var 2))) .nil) (el := .var 2) (Γ := [.val (dV f), .val (dV g), .non])
    (xs := ksV g) (enc := .str) (as := [.list ((ksV g).map .str)]) (fun m => !(f m == g m)) .str (by simp only [e_varT, e_varF, e_con, e_tup, e_lst, e_dct, e_bin, e_cat, e_neg, e_not, e_and, e_or, e_cmp, e_ite, e_idx, e_cut, e_bi, e_me, e_isi, e_call, e_nil, e_cons, e_o0, e_o1, e_if0, e_if1, evKV, st_nil, st_cons, st_asg, st_asgT, st_par, st_ret, st_brk, st_ite, b_ok, b_some, b_b, o_some, q_b, q_ok, q_some, s_g0, s_gs, s_pv, s_po, s_vv, v_addI, v_sub, v_mul, v_div, v_mod, v_pow, c_eqI, p_seq, p_keys, p_range, p_zip, p_enum, p_items, p_values, c_eqS, c_eqB, c_eqN, c_neI, c_neS, c_lt, c_gt, c_le, c_ge, c_isN, c_isnotN, n_none, n_int, n_bool, n_str, n_tup, n_list, n_dict, Bool.not_true, Bool.not_false, gd_t, f_int, f_abs, f_tupL, f_tupT, f_listL, f_listT, f_listD, f_min, f_max, l_list, l_tup, l_dict, w_list, w_tup, w_keys, t_bool, t_int, s_k0, s_kc, s_tn, Ly.fresh, Ly.freshL, setAll, List.set_cons_zero, List.set_cons_succ, if_true, if_false, Bool.false_eq_true, ite_true, ite_false, sorted_v]) rfl (fun m hm => by
      obtain ⟨h1, h2⟩ := mem_ks.mp hm
      refine ⟨_, rfl, ?_, fun _ => ?_⟩
      · simp only [e_varT, e_varF, e_con, e_tup, e_lst, e_dct, e_bin, e_cat, e_neg, e_not, e_and, e_or, e_cmp, e_ite, e_idx, e_cut, e_bi, e_me, e_isi, e_call, e_nil, e_cons, e_o0, e_o1, e_if0, e_if1, evKV, st_nil, st_cons, st_asg, st_asgT, st_par, st_ret, st_brk, st_ite, b_ok, b_some, b_b, o_some, q_b, q_ok, q_some, s_g0, s_gs, s_pv, s_po, s_vv, v_addI, v_sub, v_mul, v_div, v_mod, v_pow, c_eqI, p_seq, p_keys, p_range, p_zip, p_enum, p_items, p_values, c_eqS, c_eqB, c_eqN, c_neI, c_neS, c_lt, c_gt, c_le, c_ge, c_isN, c_isnotN, n_none, n_int, n_bool, n_str, n_tup, n_list, n_dict, Bool.not_true, Bool.not_false, gd_t, f_int, f_abs, f_tupL, f_tupT, f_listL, f_listT, f_listD, f_min, f_max, l_list, l_tup, l_dict, w_list, w_tup, w_keys, t_bool, t_int, s_k0, s_kc, s_tn, Ly.fresh, Ly.freshL, setAll, List.set_cons_zero, List.set_cons_succ, if_true, if_false, Bool.false_eq_true, ite_true, ite_false, get_ok, get1 h1, idx_v hm, ne_mark (has_ne h2) (hg m)]
      · simp only [e_varT, e_varF, e_con, e_tup, e_lst, e_dct, e_bin, e_cat, e_neg, e_not, e_and, e_or, e_cmp, e_ite, e_idx, e_cut, e_bi, e_me, e_isi, e_call, e_nil, e_cons, e_o0, e_o1, e_if0, e_if1, evKV, st_nil, st_cons, st_asg, st_asgT, st_par, st_ret, st_brk, st_ite, b_ok, b_some, b_b, o_some, q_b, q_ok, q_some, s_g0, s_gs, s_pv, s_po, s_vv, v_addI, v_sub, v_mul, v_div, v_mod, v_pow, c_eqI, p_seq, p_keys, p_range, p_zip, p_enum, p_items, p_values, c_eqS, c_eqB, c_eqN, c_neI, c_neS, c_lt, c_gt, c_le, c_ge, c_isN, c_isnotN, n_none, n_int, n_bool, n_str, n_tup, n_list, n_dict, Bool.not_true, Bool.not_false, gd_t, f_int, f_abs, f_tupL, f_tupT, f_listL, f_listT, f_listD, f_min, f_max, l_list, l_tup, l_dict, w_list, w_tup, w_keys, t_bool, t_int, s_k0, s_kc, s_tn, Ly.fresh, Ly.freshL, setAll, List.set_cons_zero, List.set_cons_succ, if_true, if_false, Bool.false_eq_true, ite_true, ite_false]) (by omega)
  simp only [g_wrong_in, e_varT, e_varF, e_con, e_tup, e_lst, e_dct, e_bin, e_cat, e_neg, e_not, e_and, e_or, e_cmp, e_ite, e_idx, e_cut, e_bi, e_me, e_isi, e_call, e_nil, e_cons, e_o0, e_o1, e_if0, e_if1, evKV, st_nil, st_cons, st_asg, st_asgT, st_par, st_ret, st_brk, st_ite, b_ok, b_some, b_b, o_some, q_b, q_ok, q_some, s_g0, s_gs, s_pv, s_po, s_vv, v_addI, v_sub, v_mul, v_div, v_mod, v_pow, c_eqI, p_seq, p_keys, p_range, p_zip, p_enum, p_items, p_values, c_eqS, c_eqB, c_eqN, c_neI, c_neS, c_lt, c_gt, c_le, c_ge, c_isN, c_isnotN, n_none, n_int, n_bool, n_str, n_tup, n_list, n_dict, Bool.not_true, Bool.not_false, gd_t, f_int, f_abs, f_tupL, f_tupT, f_listL, f_listT, f_listD, f_min, f_max, l_list, l_tup, l_dict, w_list, w_tup, w_keys, t_bool, t_int, s_k0, s_kc, s_tn, Ly.fresh, Ly.freshL, setAll, List.set_cons_zero, List.set_cons_succ, if_true, if_false, Bool.false_eq_true, ite_true, ite_false, c]
  rfl
/-! ### things: by names -/
structure Th (nm srt : List Str) (th : Str → Str → Str) : Prop where
  nd : nm.Nodup
  perm : srt.Perm nm
  up : srt.Pairwise fun a b => leB (.str a) (.str b) = true
  shn : ∀ x ∈ nm, sh (.str x) = true
  len : nm.length ≤ 6
  val : ∀ x, Val (th x)
def kvT (nm : List Str) (th : Str → Str → Str) : List (Str × D) := nm.map fun x => (x, dV (th x))
def dT (nm : List Str) (th : Str → Str → Str) : D := .dict (sd (kvT nm th))
section
variable {nm srt : List Str} {th : Str → Str → Str} (t : Th nm srt th)
include t
theorem Th.slen : srt.length ≤ 6 := by rw [t.perm.length_eq]; exact t.len
theorem Th.mem {x : Str} : x ∈ srt ↔ x ∈ nm := t.perm.mem_iff
theorem Th.snd : srt.Nodup := t.perm.nodup_iff.mpr t.nd
omit t in
theorem kvT_keys : (kvT nm th).map (·.1) = nm := by
  unfold kvT
  rw [List.map_map]
  exact List.map_id _
theorem Th.idx {x : Str} (h : x ∈ nm) : idxD (dT nm th) (.str x) = some (dV (th x)) := by
  show (some () >>= fun _ => getD (sd (kvT nm th)) (.str x)) = _
  show getD (sd (kvT nm th)) (.str x) = _
  exact sd_get (by rw [kvT_keys]; exact t.nd) (List.mem_map.mpr ⟨x, h, rfl⟩)
omit t in
theorem keysT : keysOf (dT nm th) = some (nm.map .str) := by
  show some ((sd (kvT nm th)).map (·.1)) = _
  rw [sd_fst]
  unfold kvT
  rw [List.map_map]
  rfl
theorem Th.sorted : biD .sorted [dT nm th] = some (.list (srt.map .str)) := by
  have lim_ : lim = 16777216 := rfl
  have := t.len
  exact sorted_of keysT (sortOk_strs t.shn) (by rw [List.length_map]; omega) (srt_strs t.perm t.up)
def nearL (srt : List Str) (th : Str → Str → Str) (g : Str → Str) (most : Int) : List Str := srt.filter fun x => decide (((wrongL (th x) g).length : Int) ≤ most)
theorem ok_near {g : Str → Str} (hg : Val g) (most : Int) (k : Nat) : cfN T (k + 2) 2 [dT nm th, dV g, .int most] = W.ok (.tuple ((nearL srt th g most).map .str)) := by
  refine call_eq (f := g_near_ones) rfl rfl fun κ => ?_
  show evSs _ _ _ [.val (dT nm th), .val (dV g), .val (.int most), .non] = _
  have lim_ : lim = 16777216 := rfl
  have := t.slen
  have c := fun b => ev_comp (cf := cfN T (k + 1)) (b := b) (own := [3]) (t := .name 3) (k := .seq) (es := .cons (.bi .sorted (.cons (.var 0) .nil)) .nil) (ifs := .cons (.cmp .le (.bi .len (.cons (.call 1 none (.cons (.idx (.var 0) (.var 3)) (.cons (.var 1) .nil))) .nil)) (.var 2)) .nil) (el := .var 3) (Γ := [.val (dT nm th), .val (dV g), .val (.int most), .non])
    (xs := srt) (enc := .str) (as := [.list (srt.map .str)]) (fun x => decide (((wrongL (th x) g).length : Int) ≤ most)) .str (by simp only [e_varT, e_varF, e_con, e_tup, e_lst, e_dct, e_bin, e_cat, e_neg, e_not, e_and, e_or, e_cmp, e_ite, e_idx, e_cut, e_bi, e_me, e_isi, e_call, e_nil, e_cons, e_o0, e_o1, e_if0, e_if1, evKV, st_nil, st_cons, st_asg, st_asgT, st_par, st_ret, st_brk, st_ite, b_ok, b_some, b_b, o_some, q_b, q_ok, q_some, s_g0, s_gs, s_pv, s_po, s_vv, v_addI, v_sub, v_mul, v_div, v_mod, v_pow, c_eqI, p_seq, p_keys, p_range, p_zip, p_enum, p_items, p_values, c_eqS, c_eqB, c_eqN, c_neI, c_neS, c_lt, c_gt, c_le, c_ge, c_isN, c_isnotN, n_none, n_int, n_bool, n_str, n_tup, n_list, n_dict, Bool.not_true, Bool.not_false, gd_t, f_int, f_abs, f_tupL, f_tupT, f_listL, f_listT, f_listD, f_min, f_max, l_list, l_tup, l_dict, w_list, w_tup, w_keys, t_bool, t_int, s_k0, s_kc, s_tn, Ly.fresh, Ly.freshL, setAll, List.set_cons_zero, List.set_cons_succ, if_true, if_false, Bool.false_eq_true, ite_true, ite_false, t.sorted]) rfl (fun x hx => by
      have hx := t.mem.mp hx
      refine ⟨_, rfl, ?_, fun _ => ?_⟩
      · simp only [e_varT, e_varF, e_con, e_tup, e_lst, e_dct, e_bin, e_cat, e_neg, e_not, e_and, e_or, e_cmp, e_ite, e_idx, e_cut, e_bi, e_me, e_isi, e_call, e_nil, e_cons, e_o0, e_o1, e_if0, e_if1, evKV, st_nil, st_cons, st_asg, st_asgT, st_par, st_ret, st_brk, st_ite, b_ok, b_some, b_b, o_some, q_b, q_ok, q_some, s_g0, s_gs, s_pv, s_po, s_vv, v_addI, v_sub, v_mul, v_div, v_mod, v_pow, c_eqI, p_seq, p_keys, p_range, p_zip, p_enum, p_items, p_values, c_eqS, c_eqB, c_eqN, c_neI, c_neS, c_lt, c_gt, c_le, c_ge, c_isN, c_isnotN, n_none, n_int, n_bool, n_str, n_tup, n_list, n_dict, Bool.not_true, Bool.not_false, gd_t, f_int, f_abs, f_tupL, f_tupT, f_listL, f_listT, f_listD, f_min, f_max, l_list, l_tup, l_dict, w_list, w_tup, w_keys, t_bool, t_int, s_k0, s_kc, s_tn, Ly.fresh, Ly.freshL, setAll, List.set_cons_zero, List.set_cons_succ, if_true, if_false, Bool.false_eq_true, ite_true, ite_false, t.idx hx, ok_wrong hg, List.length_map]
      · simp only [e_varT, e_varF, e_con, e_tup, e_lst, e_dct, e_bin, e_cat, e_neg, e_not, e_and, e_or, e_cmp, e_ite, e_idx, e_cut, e_bi, e_me, e_isi, e_call, e_nil, e_cons, e_o0, e_o1, e_if0, e_if1, evKV, st_nil, st_cons, st_asg, st_asgT, st_par, st_ret, st_brk, st_ite, b_ok, b_some, b_b, o_some, q_b, q_ok, q_some, s_g0, s_gs, s_pv, s_po, s_vv, v_addI, v_sub, v_mul, v_div, v_mod, v_pow, c_eqI, p_seq, p_keys, p_range, p_zip, p_enum, p_items, p_values, c_eqS, c_eqB, c_eqN, c_neI, c_neS, c_lt, c_gt, c_le, c_ge, c_isN, c_isnotN, n_none, n_int, n_bool, n_str, n_tup, n_list, n_dict, Bool.not_true, Bool.not_false, gd_t, f_int, f_abs, f_tupL, f_tupT, f_listL, f_listT, f_listD, f_min, f_max, l_list, l_tup, l_dict, w_list, w_tup, w_keys, t_bool, t_int, s_k0, s_kc, s_tn, Ly.fresh, Ly.freshL, setAll, List.set_cons_zero, List.set_cons_succ, if_true, if_false, Bool.false_eq_true, ite_true, ite_false]) (by omega)
  simp only [g_near_ones, e_varT, e_varF, e_con, e_tup, e_lst, e_dct, e_bin, e_cat, e_neg, e_not, e_and, e_or, e_cmp, e_ite, e_idx, e_cut, e_bi, e_me, e_isi, e_call, e_nil, e_cons, e_o0, e_o1, e_if0, e_if1, evKV, st_nil, st_cons, st_asg, st_asgT, st_par, st_ret, st_brk, st_ite, b_ok, b_some, b_b, o_some, q_b, q_ok, q_some, s_g0, s_gs, s_pv, s_po, s_vv, v_addI, v_sub, v_mul, v_div, v_mod, v_pow, c_eqI, p_seq, p_keys, p_range, p_zip, p_enum, p_items, p_values, c_eqS, c_eqB, c_eqN, c_neI, c_neS, c_lt, c_gt, c_le, c_ge, c_isN, c_isnotN, n_none, n_int, n_bool, n_str, n_tup, n_list, n_dict, Bool.not_true, Bool.not_false, gd_t, f_int, f_abs, f_tupL, f_tupT, f_listL, f_listT, f_listD, f_min, f_max, l_list, l_tup, l_dict, w_list, w_tup, w_keys, t_bool, t_int, s_k0, s_kc, s_tn, Ly.fresh, Ly.freshL, setAll, List.set_cons_zero, List.set_cons_succ, if_true, if_false, Bool.false_eq_true, ite_true, ite_false, c]
  rfl
theorem ok_sure {g : Str → Str} (hg : Val g) (most : Int) (k : Nat) : cfN T (k + 3) 4 [dT nm th, dV g, .int most] = W.ok (.bool ((nearL srt th g most).length == 1)) := by
  refine call_eq (f := g_is_sure_by) rfl rfl fun κ => ?_
  show evSs _ _ _ [.val (dT nm th), .val (dV g), .val (.int most)] = _
  simp only [g_is_sure_by, e_varT, e_varF, e_con, e_tup, e_lst, e_dct, e_bin, e_cat, e_neg, e_not, e_and, e_or, e_cmp, e_ite, e_idx, e_cut, e_bi, e_me, e_isi, e_call, e_nil, e_cons, e_o0, e_o1, e_if0, e_if1, evKV, st_nil, st_cons, st_asg, st_asgT, st_par, st_ret, st_brk, st_ite, b_ok, b_some, b_b, o_some, q_b, q_ok, q_some, s_g0, s_gs, s_pv, s_po, s_vv, v_addI, v_sub, v_mul, v_div, v_mod, v_pow, c_eqI, p_seq, p_keys, p_range, p_zip, p_enum, p_items, p_values, c_eqS, c_eqB, c_eqN, c_neI, c_neS, c_lt, c_gt, c_le, c_ge, c_isN, c_isnotN, n_none, n_int, n_bool, n_str, n_tup, n_list, n_dict, Bool.not_true, Bool.not_false, gd_t, f_int, f_abs, f_tupL, f_tupT, f_listL, f_listT, f_listD, f_min, f_max, l_list, l_tup, l_dict, w_list, w_tup, w_keys, t_bool, t_int, s_k0, s_kc, s_tn, Ly.fresh, Ly.freshL, setAll, List.set_cons_zero, List.set_cons_succ, if_true, if_false, Bool.false_eq_true, ite_true, ite_false, ok_near t hg, List.length_map]
  have : (((nearL srt th g most).length : Int) == 1) = ((nearL srt th g most).length == 1) := by
    rw [Bool.eq_iff_iff]
    simp
    omega
  rw [this]
end
/-- the least of a row of numbers -/
def leastN : List Int → Int
  | [] => 0
  | x :: r => r.foldl (fun m y => if y < m then y else m) x
theorem leastL_int : ∀ (r : List Int) (x : Int), leastL ltB (.int x) (r.map .int) = .int (r.foldl (fun m y => if y < m then y else m) x)
  | [], x => rfl
  | y :: r, x => by
    rw [List.map_cons, List.foldl_cons]
    show leastL ltB (if ltB (.int y) (.int x) = true then .int y else .int x) (r.map .int) = _
    have e : ltB (.int y) (.int x) = decide (y < x) := PySem.W.dataLt_int _ _
    rw [e]
    by_cases h : y < x
    · rw [if_pos (decide_eq_true h), if_pos h]; exact leastL_int r y
    · rw [if_neg (by simpa using h), if_neg h]; exact leastL_int r x
theorem min_ints {xs : List Int} (h : xs ≠ []) : biD .min [.list (xs.map .int)] = some (.int (leastN xs)) := by
  cases xs with
  | nil => exact absurd rfl h
  | cons x r =>
    show best ltB (.list (.int x :: r.map .int)) = _
    have h1 : allAlike (PyData.int x :: r.map .int) = true := by
      have := sortOk_ints (x :: r)
      unfold Ly.sortOk at this
      rw [Bool.and_eq_true, Bool.and_eq_true] at this
      exact this.1.1
    have h2 : (PyData.int x :: r.map .int).all sh = true := by
      have := sortOk_ints (x :: r)
      unfold Ly.sortOk at this
      rw [Bool.and_eq_true] at this
      exact this.2
    have h3 : (PyData.int x :: r.map .int).all some_ = true := List.all_eq_true.mpr fun a ha => by
      obtain ⟨y, _, rfl⟩ := List.mem_map.mp (show a ∈ (x :: r).map PyData.int from ha)
      rfl
    show gd (allAlike (PyData.int x :: r.map .int) && (PyData.int x :: r.map .int).all sh && (PyData.int x :: r.map .int).all some_) _ = _
    rw [h1, h2, h3, leastL_int]
    rfl
section
variable {nm srt : List Str} {th : Str → Str → Str} (t : Th nm srt th)
include t
def leastW (nm : List Str) (th : Str → Str → Str) (g : Str → Str) : Int := leastN (nm.map fun x => ((wrongL (th x) g).length : Int))
def nearestD (nm srt : List Str) (th : Str → Str → Str) (g : Str → Str) : D := if nm = [] then .none else .tuple [.int (leastW nm th g), .tuple ((nearL srt th g (leastW nm th g)).map .str)]
theorem eq_empty : cmpD .eq (dT nm th) (.dict []) = some (decide (nm = [])) := by
  show gd (!((sd (kvT nm th)).length == 0) || _) (eqKV (sd (kvT nm th)) []) = _
  cases nm with
  | nil => rfl
  | cons x r => rfl
theorem ok_nearest {g : Str → Str} (hg : Val g) (k : Nat) : cfN T (k + 3) 3 [dT nm th, dV g] = W.ok (nearestD nm srt th g) := by
  refine call_eq (f := g_nearest) rfl rfl fun κ => ?_
  show evSs _ _ _ [.val (dT nm th), .val (dV g), .non, .non] = _
  have lim_ : lim = 16777216 := rfl
  have := t.len
  have c := fun b => ev_comp0 (cf := cfN T (k + 2)) (b := b) (own := [3]) (t := .name 3) (k := .keys) (es := .cons (.var 0) .nil) (el := .bi .len (.cons (.call 1 none (.cons (.idx (.var 0) (.var 3)) (.cons (.var 1) .nil))) .nil)) (Γ := [.val (dT nm th), .val (dV g), .non, .non])
    (xs := nm) (enc := .str) (as := [dT nm th]) (fun x => .int (wrongL (th x) g).length) (by simp only [e_varT, e_varF, e_con, e_tup, e_lst, e_dct, e_bin, e_cat, e_neg, e_not, e_and, e_or, e_cmp, e_ite, e_idx, e_cut, e_bi, e_me, e_isi, e_call, e_nil, e_cons, e_o0, e_o1, e_if0, e_if1, evKV, st_nil, st_cons, st_asg, st_asgT, st_par, st_ret, st_brk, st_ite, b_ok, b_some, b_b, o_some, q_b, q_ok, q_some, s_g0, s_gs, s_pv, s_po, s_vv, v_addI, v_sub, v_mul, v_div, v_mod, v_pow, c_eqI, p_seq, p_keys, p_range, p_zip, p_enum, p_items, p_values, c_eqS, c_eqB, c_eqN, c_neI, c_neS, c_lt, c_gt, c_le, c_ge, c_isN, c_isnotN, n_none, n_int, n_bool, n_str, n_tup, n_list, n_dict, Bool.not_true, Bool.not_false, gd_t, f_int, f_abs, f_tupL, f_tupT, f_listL, f_listT, f_listD, f_min, f_max, l_list, l_tup, l_dict, w_list, w_tup, w_keys, t_bool, t_int, s_k0, s_kc, s_tn, Ly.fresh, Ly.freshL, setAll, List.set_cons_zero, List.set_cons_succ, if_true, if_false, Bool.false_eq_true, ite_true, ite_false]) (by
      have := keysT (nm := nm) (th := th)
      exact this) (fun x hx => by
      refine ⟨_, rfl, ?_⟩
      simp only [e_varT, e_varF, e_con, e_tup, e_lst, e_dct, e_bin, e_cat, e_neg, e_not, e_and, e_or, e_cmp, e_ite, e_idx, e_cut, e_bi, e_me, e_isi, e_call, e_nil, e_cons, e_o0, e_o1, e_if0, e_if1, evKV, st_nil, st_cons, st_asg, st_asgT, st_par, st_ret, st_brk, st_ite, b_ok, b_some, b_b, o_some, q_b, q_ok, q_some, s_g0, s_gs, s_pv, s_po, s_vv, v_addI, v_sub, v_mul, v_div, v_mod, v_pow, c_eqI, p_seq, p_keys, p_range, p_zip, p_enum, p_items, p_values, c_eqS, c_eqB, c_eqN, c_neI, c_neS, c_lt, c_gt, c_le, c_ge, c_isN, c_isnotN, n_none, n_int, n_bool, n_str, n_tup, n_list, n_dict, Bool.not_true, Bool.not_false, gd_t, f_int, f_abs, f_tupL, f_tupT, f_listL, f_listT, f_listD, f_min, f_max, l_list, l_tup, l_dict, w_list, w_tup, w_keys, t_bool, t_int, s_k0, s_kc, s_tn, Ly.fresh, Ly.freshL, setAll, List.set_cons_zero, List.set_cons_succ, if_true, if_false, Bool.false_eq_true, ite_true, ite_false, t.idx hx, ok_wrong hg, List.length_map]) (by omega)
  by_cases h : nm = []
  · unfold nearestD
    simp only [g_nearest, e_varT, e_varF, e_con, e_tup, e_lst, e_dct, e_bin, e_cat, e_neg, e_not, e_and, e_or, e_cmp, e_ite, e_idx, e_cut, e_bi, e_me, e_isi, e_call, e_nil, e_cons, e_o0, e_o1, e_if0, e_if1, evKV, st_nil, st_cons, st_asg, st_asgT, st_par, st_ret, st_brk, st_ite, b_ok, b_some, b_b, o_some, q_b, q_ok, q_some, s_g0, s_gs, s_pv, s_po, s_vv, v_addI, v_sub, v_mul, v_div, v_mod, v_pow, c_eqI, p_seq, p_keys, p_range, p_zip, p_enum, p_items, p_values, c_eqS, c_eqB, c_eqN, c_neI, c_neS, c_lt, c_gt, c_le, c_ge, c_isN, c_isnotN, n_none, n_int, n_bool, n_str, n_tup, n_list, n_dict, Bool.not_true, Bool.not_false, gd_t, f_int, f_abs, f_tupL, f_tupT, f_listL, f_listT, f_listD, f_min, f_max, l_list, l_tup, l_dict, w_list, w_tup, w_keys, t_bool, t_int, s_k0, s_kc, s_tn, Ly.fresh, Ly.freshL, setAll, List.set_cons_zero, List.set_cons_succ, if_true, if_false, Bool.false_eq_true, ite_true, ite_false, eq_empty t, mergeD, List.all_nil, List.foldl_nil, decide_eq_true h, if_pos h]
  · unfold nearestD
    have hm : biD .min [.list (nm.map fun x => PyData.int (wrongL (th x) g).length)] = some (.int (leastW nm th g)) := by
      have := min_ints (xs := nm.map fun x => ((wrongL (th x) g).length : Int)) (by simpa using h)
      rw [List.map_map] at this
      exact this
    simp only [g_nearest, e_varT, e_varF, e_con, e_tup, e_lst, e_dct, e_bin, e_cat, e_neg, e_not, e_and, e_or, e_cmp, e_ite, e_idx, e_cut, e_bi, e_me, e_isi, e_call, e_nil, e_cons, e_o0, e_o1, e_if0, e_if1, evKV, st_nil, st_cons, st_asg, st_asgT, st_par, st_ret, st_brk, st_ite, b_ok, b_some, b_b, o_some, q_b, q_ok, q_some, s_g0, s_gs, s_pv, s_po, s_vv, v_addI, v_sub, v_mul, v_div, v_mod, v_pow, c_eqI, p_seq, p_keys, p_range, p_zip, p_enum, p_items, p_values, c_eqS, c_eqB, c_eqN, c_neI, c_neS, c_lt, c_gt, c_le, c_ge, c_isN, c_isnotN, n_none, n_int, n_bool, n_str, n_tup, n_list, n_dict, Bool.not_true, Bool.not_false, gd_t, f_int, f_abs, f_tupL, f_tupT, f_listL, f_listT, f_listD, f_min, f_max, l_list, l_tup, l_dict, w_list, w_tup, w_keys, t_bool, t_int, s_k0, s_kc, s_tn, Ly.fresh, Ly.freshL, setAll, List.set_cons_zero, List.set_cons_succ, if_true, if_false, Bool.false_eq_true, ite_true, ite_false, eq_empty t, mergeD, List.all_nil, List.foldl_nil, decide_eq_false h, if_neg h, c, hm, ok_near t hg]
end
end K02

set_option maxRecDepth 100000
set_option maxHeartbeats 4000000
namespace K02
open PySem Ly
/-! ### what differs -/
def differL (f g : Str → Str) : List Str := MK.filter fun m => !(f m == g m)
theorem differ_len (f g : Str → Str) : (differL f g).length ≤ 4 := List.length_filter_le _ _
theorem cmp_gets {f g : Str → Str} {m : Str} (hf : sh (.str (f m)) = true) (hg : sh (.str (g m)) = true) : cmpD .ne (if has f m then PyData.str (f m) else .none) (if has g m then PyData.str (g m) else .none) = some (!(f m == g m)) := by
  have e : ∀ {h : Str → Str}, ¬ has h m = true → h m = "" := fun {h} q => by
    unfold has at q
    simpa using q
  by_cases p : has f m = true
  · by_cases q : has g m = true
    · rw [if_pos p, if_pos q]; rfl
    · rw [if_pos p, if_neg q, e q]
      have := has_ne p
      have b : (f m == "") = false := by simpa using this
      rw [b]
      show (gd (sh (.str (f m)) && sh .none) (PyData.eqv (.str (f m)) .none)).map (!·) = _
      rw [hf]
      rfl
  · by_cases q : has g m = true
    · rw [if_neg p, if_pos q, e p]
      have := has_ne q
      have b : ("" == g m) = false := by simpa using fun z => this z.symm
      rw [b]
      show (gd (sh .none && sh (.str (g m))) (PyData.eqv .none (.str (g m)))).map (!·) = _
      rw [hg]
      rfl
    · rw [if_neg p, if_neg q, e p, e q]
      rfl
def bothL (f g : Str → Str) : List Str := MK.filter fun m => has f m || has g m
theorem both_perm (f g : Str → Str) : ((bothL f g).map PyData.str).Perm (onceL ((ksV f ++ ksV g).map .str)) := by
  have hk : ∀ x ∈ (ksV f ++ ksV g).map PyData.str, keyB x = true := fun x hx => by
    obtain ⟨m, _, rfl⟩ := List.mem_map.mp hx
    rfl
  have inj : ∀ {l : List Str}, l.Nodup → (l.map PyData.str).Nodup := fun {l} h => by
    induction l with
    | nil => exact List.nodup_nil
    | cons x r ih =>
      obtain ⟨h1, h2⟩ := List.nodup_cons.mp h
      refine List.nodup_cons.mpr ⟨fun z => ?_, ih h2⟩
      obtain ⟨y, hy, e⟩ := List.mem_map.mp z
      cases e
      exact h1 hy
  refine (List.perm_ext_iff_of_nodup (inj (MK_nd.filter _)) (onceL_nodup hk)).mpr fun a => ?_
  rw [onceL_mem hk, List.mem_map, List.mem_map]
  have mem : ∀ m, m ∈ bothL f g ↔ m ∈ ksV f ++ ksV g := fun m => by
    unfold bothL
    rw [List.mem_filter, List.mem_append, mem_ks, mem_ks, Bool.or_eq_true]
    constructor
    · rintro ⟨h, q | q⟩
      · exact .inl ⟨h, q⟩
      · exact .inr ⟨h, q⟩
    · rintro (⟨h, q⟩ | ⟨h, q⟩)
      · exact ⟨h, .inl q⟩
      · exact ⟨h, .inr q⟩
  constructor <;> (rintro ⟨m, h, e⟩)
  · exact ⟨m, (mem m).mp h, e⟩
  · exact ⟨m, (mem m).mpr h, e⟩
theorem both_sorted (f g : Str → Str) : biD .sortedSet [.list ((ksV f).map .str ++ (ksV g).map .str)] = some (.list ((bothL f g).map .str)) := by
  have hl : ((ksV f).map PyData.str ++ (ksV g).map PyData.str) = (ksV f ++ ksV g).map .str := by rw [List.map_append]
  have h1 := ks_len f
  have h2 := ks_len g
  have mk : ∀ m ∈ ksV f ++ ksV g, m ∈ MK := fun m hm => (List.mem_append.mp hm).elim (fun h => (mem_ks.mp h).1) fun h => (mem_ks.mp h).1
  have so : setOk ((ksV f ++ ksV g).map .str) = true := by
    unfold setOk
    rw [Bool.and_eq_true, Bool.and_eq_true, Bool.or_eq_true]
    refine ⟨⟨decide_eq_true (by rw [List.length_map, List.length_append]; omega), List.all_eq_true.mpr fun a ha => ?_⟩, .inr (List.all_eq_true.mpr fun a ha => ?_)⟩
    · obtain ⟨x, hx, rfl⟩ := List.mem_map.mp ha
      exact MK_sh x (mk x hx)
    · obtain ⟨x, hx, rfl⟩ := List.mem_map.mp ha
      rfl
  rw [hl]
  show gd (setOk _) (PyData.list (sortL (onceL _))) = _
  rw [so]
  have hk : ∀ x ∈ (ksV f ++ ksV g).map PyData.str, keyB x = true := fun x hx => by
    obtain ⟨m, _, rfl⟩ := List.mem_map.mp hx
    rfl
  rw [srt_perm (es := (bothL f g).map .str) (fun a ha b hb h1 h2 => ?_) (both_perm f g) (List.pairwise_map.mpr (MK_up.sublist List.filter_sublist))]
  · rfl
  · obtain ⟨x, _, rfl⟩ := List.mem_map.mp ((onceL_mem hk).mp ha)
    obtain ⟨y, _, rfl⟩ := List.mem_map.mp ((onceL_mem hk).mp hb)
    rw [anti_str h1 h2]
theorem both_differ (f g : Str → Str) : (bothL f g).filter (fun m => !(f m == g m)) = differL f g := by
  unfold bothL differL
  rw [List.filter_filter]
  refine List.filter_congr fun m _ => ?_
  unfold has
  by_cases h : f m = g m
  · rw [h]; simp
  · have b : (f m == g m) = false := by simpa using h
    rw [b]
    by_cases q : f m = ""
    · have : (g m == "") = false := by
        simp
        intro z
        exact h (by rw [q, z])
      rw [this]
      simp
    · have : (f m == "") = false := by simpa using q
      rw [this]
      simp
theorem list_v (f : Str → Str) : biD .list [dV f] = some (.list ((ksV f).map .str)) := by
  show some (PyData.list ((sd (kvV f)).map (·.1))) = _
  rw [sd_fst]
  unfold kvV
  rw [List.map_map]
  rfl
theorem ok_differ {f g : Str → Str} (hf : Val f) (hg : Val g) (k : Nat) : cfN T (k + 1) 5 [dV f, dV g] = W.ok (.tuple ((differL f g).map .str)) := by
  refine call_eq (f := g_differ_in) rfl rfl fun κ => ?_
  show evSs _ _ _ [.val (dV f), .val (dV g), .non, .non] = _
  have lim_ : lim = 16777216 := rfl
  have h1 := ks_len f
  have h2 := ks_len g
  have bl : (bothL f g).length ≤ 4 := List.length_filter_le _ _
  have c := fun b => ev_comp (cf := cfN T k) (b := b) (own := [3]) (t := .name 3) (k := .seq) (es := .cons (.var 2) .nil) (ifs := .cons (.cmp .ne (.me .get (.var 0) (.cons (.var 3) .nil)) (.me .get (.var 1) (.cons (.var 3) .nil))) .nil) (el := .var 3) (Γ := [.val (dV f), .val (dV g), .val (.list ((bothL f g).map .str)), .non])
    (xs := bothL f g) (enc := .str) (as := [.list ((bothL f g).map .str)]) (fun m => !(f m == g m)) .str (by simp only [e_varT, e_varF, e_con, e_tup, e_lst, e_dct, e_bin, e_cat, e_neg, e_not, e_and, e_or, e_cmp, e_ite, e_idx, e_cut, e_bi, e_me, e_isi, e_call, e_nil, e_cons, e_o0, e_o1, e_if0, e_if1, evKV, st_nil, st_cons, st_asg, st_asgT, st_par, st_ret, st_brk, st_ite, b_ok, b_some, b_b, o_some, q_b, q_ok, q_some, s_g0, s_gs, s_pv, s_po, s_vv, v_addI, v_sub, v_mul, v_div, v_mod, v_pow, c_eqI, p_seq, p_keys, p_range, p_zip, p_enum, p_items, p_values, c_eqS, c_eqB, c_eqN, c_neI, c_neS, c_lt, c_gt, c_le, c_ge, c_isN, c_isnotN, n_none, n_int, n_bool, n_str, n_tup, n_list, n_dict, Bool.not_true, Bool.not_false, gd_t, f_int, f_abs, f_tupL, f_tupT, f_listL, f_listT, f_listD, f_min, f_max, l_list, l_tup, l_dict, w_list, w_tup, w_keys, t_bool, t_int, s_k0, s_kc, s_tn, Ly.fresh, Ly.freshL, setAll, List.set_cons_zero, List.set_cons_succ, if_true, if_false, Bool.false_eq_true, ite_true, ite_false]) rfl (fun m hm => by
      have h1 := (List.mem_filter.mp hm).1
      refine ⟨_, rfl, ?_, fun _ => ?_⟩
      · simp only [e_varT, e_varF, e_con, e_tup, e_lst, e_dct, e_bin, e_cat, e_neg, e_not, e_and, e_or, e_cmp, e_ite, e_idx, e_cut, e_bi, e_me, e_isi, e_call, e_nil, e_cons, e_o0, e_o1, e_if0, e_if1, evKV, st_nil, st_cons, st_asg, st_asgT, st_par, st_ret, st_brk, st_ite, b_ok, b_some, b_b, o_some, q_b, q_ok, q_some, s_g0, s_gs, s_pv, s_po, s_vv, v_addI, v_sub, v_mul, v_div, v_mod, v_pow, c_eqI, p_seq, p_keys, p_range, p_zip, p_enum, p_items, p_values, c_eqS, c_eqB, c_eqN, c_neI, c_neS, c_lt, c_gt, c_le, c_ge, c_isN, c_isnotN, n_none, n_int, n_bool, n_str, n_tup, n_list, n_dict, Bool.not_true, Bool.not_false, gd_t, f_int, f_abs, f_tupL, f_tupT, f_listL, f_listT, f_listD, f_min, f_max, l_list, l_tup, l_dict, w_list, w_tup, w_keys, t_bool, t_int, s_k0, s_kc, s_tn, Ly.fresh, Ly.freshL, setAll, List.set_cons_zero, List.set_cons_succ, if_true, if_false, Bool.false_eq_true, ite_true, ite_false, get_ok, get1 h1, cmp_gets (hf m) (hg m)]
      · simp only [e_varT, e_varF, e_con, e_tup, e_lst, e_dct, e_bin, e_cat, e_neg, e_not, e_and, e_or, e_cmp, e_ite, e_idx, e_cut, e_bi, e_me, e_isi, e_call, e_nil, e_cons, e_o0, e_o1, e_if0, e_if1, evKV, st_nil, st_cons, st_asg, st_asgT, st_par, st_ret, st_brk, st_ite, b_ok, b_some, b_b, o_some, q_b, q_ok, q_some, s_g0, s_gs, s_pv, s_po, s_vv, v_addI, v_sub, v_mul, v_div, v_mod, v_pow, c_eqI, p_seq, p_keys, p_range, p_zip, p_enum, p_items, p_values, c_eqS, c_eqB, c_eqN, c_neI, c_neS, c_lt, c_gt, c_le, c_ge, c_isN, c_isnotN, n_none, n_int, n_bool, n_str, n_tup, n_list, n_dict, Bool.not_true, Bool.not_false, gd_t, f_int, f_abs, f_tupL, f_tupT, f_listL, f_listT, f_listD, f_min, f_max, l_list, l_tup, l_dict, w_list, w_tup, w_keys, t_bool, t_int, s_k0, s_kc, s_tn, Ly.fresh, Ly.freshL, setAll, List.set_cons_zero, List.set_cons_succ, if_true, if_false, Bool.false_eq_true, ite_true, ite_false]) (by omega)
  have a : binD .add (.list ((ksV f).map .str)) (.list ((ksV g).map .str)) = some (.list ((ksV f).map .str ++ (ksV g).map .str)) := by
    rw [v_addL, g_le (by rw [List.length_map, List.length_map]; omega)]
  simp only [g_differ_in, e_varT, e_varF, e_con, e_tup, e_lst, e_dct, e_bin, e_cat, e_neg, e_not, e_and, e_or, e_cmp, e_ite, e_idx, e_cut, e_bi, e_me, e_isi, e_call, e_nil, e_cons, e_o0, e_o1, e_if0, e_if1, evKV, st_nil, st_cons, st_asg, st_asgT, st_par, st_ret, st_brk, st_ite, b_ok, b_some, b_b, o_some, q_b, q_ok, q_some, s_g0, s_gs, s_pv, s_po, s_vv, v_addI, v_sub, v_mul, v_div, v_mod, v_pow, c_eqI, p_seq, p_keys, p_range, p_zip, p_enum, p_items, p_values, c_eqS, c_eqB, c_eqN, c_neI, c_neS, c_lt, c_gt, c_le, c_ge, c_isN, c_isnotN, n_none, n_int, n_bool, n_str, n_tup, n_list, n_dict, Bool.not_true, Bool.not_false, gd_t, f_int, f_abs, f_tupL, f_tupT, f_listL, f_listT, f_listD, f_min, f_max, l_list, l_tup, l_dict, w_list, w_tup, w_keys, t_bool, t_int, s_k0, s_kc, s_tn, Ly.fresh, Ly.freshL, setAll, List.set_cons_zero, List.set_cons_succ, if_true, if_false, Bool.false_eq_true, ite_true, ite_false, list_v, a, both_sorted]
  rw [st_frz 2 rfl]
  simp only [e_varT, e_varF, e_con, e_tup, e_lst, e_dct, e_bin, e_cat, e_neg, e_not, e_and, e_or, e_cmp, e_ite, e_idx, e_cut, e_bi, e_me, e_isi, e_call, e_nil, e_cons, e_o0, e_o1, e_if0, e_if1, evKV, st_nil, st_cons, st_asg, st_asgT, st_par, st_ret, st_brk, st_ite, b_ok, b_some, b_b, o_some, q_b, q_ok, q_some, s_g0, s_gs, s_pv, s_po, s_vv, v_addI, v_sub, v_mul, v_div, v_mod, v_pow, c_eqI, p_seq, p_keys, p_range, p_zip, p_enum, p_items, p_values, c_eqS, c_eqB, c_eqN, c_neI, c_neS, c_lt, c_gt, c_le, c_ge, c_isN, c_isnotN, n_none, n_int, n_bool, n_str, n_tup, n_list, n_dict, Bool.not_true, Bool.not_false, gd_t, f_int, f_abs, f_tupL, f_tupT, f_listL, f_listT, f_listD, f_min, f_max, l_list, l_tup, l_dict, w_list, w_tup, w_keys, t_bool, t_int, s_k0, s_kc, s_tn, Ly.fresh, Ly.freshL, setAll, List.set_cons_zero, List.set_cons_succ, if_true, if_false, Bool.false_eq_true, ite_true, ite_false, c, both_differ]
end K02

set_option maxRecDepth 100000
set_option maxHeartbeats 4000000
namespace K02
open PySem Ly
/-! ### the gap -/
def pairsL (srt : List Str) : List (Str × Str) := (List.range srt.length).flatMap fun i => (srt.drop (i + 1)).map fun y => (srt.getD i "", y)
theorem comb1 (xs : List D) : comb 1 xs = xs.map fun x => [x] := by
  unfold comb
  refine List.ext_getElem? fun i => ?_
  have e : (List.range xs.length).flatMap (fun i => (comb 0 (xs.drop (i + 1))).map (xs.getD i .none :: ·)) = (List.range xs.length).map fun i => [xs.getD i .none] := by
    rw [List.flatMap_def]
    have : (List.range xs.length).map (fun i => (comb 0 (xs.drop (i + 1))).map (xs.getD i .none :: ·)) = (List.range xs.length).map fun i => [[xs.getD i .none]] := rfl
    rw [this]
    induction (List.range xs.length) with
    | nil => rfl
    | cons a r ih => rw [List.map_cons, List.flatten_cons, ih]; rfl
  rw [e, List.getElem?_map, List.getElem?_map]
  by_cases h : i < xs.length
  · rw [List.getElem?_range h, List.getElem?_eq_getElem h]
    show some [xs.getD i .none] = some [xs[i]]
    rw [List.getD_eq_getElem?_getD, List.getElem?_eq_getElem h]
    rfl
  · rw [List.getElem?_eq_none (by simpa using h), List.getElem?_eq_none (by simpa using h)]
    rfl
theorem comb2 (srt : List Str) : comb 2 (srt.map .str) = (pairsL srt).map fun p => [.str p.1, .str p.2] := by
  have e : comb 2 (srt.map .str) = (List.range (srt.map PyData.str).length).flatMap fun i => (comb 1 ((srt.map PyData.str).drop (i + 1))).map ((srt.map PyData.str).getD i .none :: ·) := rfl
  rw [e, List.length_map]
  unfold pairsL
  rw [List.map_flatMap]
  rw [List.flatMap_def, List.flatMap_def]
  congr 1
  refine List.map_congr_left fun i hi => ?_
  have hi := List.mem_range.mp hi
  rw [comb1, ← List.map_drop, List.map_map, List.map_map, List.map_map]
  refine List.map_congr_left fun y _ => ?_
  show [(srt.map PyData.str).getD i .none, .str y] = [.str (srt.getD i ""), .str y]
  rw [List.getD_eq_getElem?_getD, List.getD_eq_getElem?_getD, List.getElem?_map, List.getElem?_eq_getElem hi]
  rfl
theorem comb_small : ∀ (m : Nat) (xs : List D), xs.length ≤ 6 → m ≤ 2 → (comb m xs).length ≤ 1000 := by
  intro m xs hx hm
  have h1 : ∀ ys : List D, (comb 1 ys).length = ys.length := fun ys => by rw [comb1, List.length_map]
  match m, hm with
  | 0, _ => show 1 ≤ 1000; omega
  | 1, _ => rw [h1]; omega
  | 2, _ =>
    show ((List.range xs.length).flatMap fun i => (comb 1 (xs.drop (i + 1))).map _).length ≤ _
    rw [List.length_flatMap]
    have : ∀ (l : List Nat), (l.map fun i => ((comb 1 (xs.drop (i + 1))).map (xs.getD i PyData.none :: ·)).length).sum ≤ l.length * 6 := fun l => by
      induction l with
      | nil => simp
      | cons a r ih =>
        rw [List.map_cons, List.sum_cons, List.length_cons]
        have : ((comb 1 (xs.drop (a + 1))).map (xs.getD a PyData.none :: ·)).length ≤ 6 := by
          rw [List.length_map, h1, List.length_drop]
          omega
        omega
    have := this (List.range xs.length)
    rw [List.length_range] at this
    omega
abbrev Row := Int × Str × Str
def rowD (r : Row) : D := .tuple [.int r.1, .str r.2.1, .str r.2.2]
def rowsL (srt : List Str) (th : Str → Str → Str) : List Row := (pairsL srt).map fun p => (((differL (th p.1) (th p.2)).length : Int), p.1, p.2)
def minR : List Row → Option Row
  | [] => none
  | x :: r => some (r.foldl (fun m y => if ltB (rowD y) (rowD m) then y else m) x)
def optD {α : Type} (f : α → D) : Option α → D
  | some a => f a
  | none => .none
theorem leastL_row : ∀ (r : List Row) (x : Row), leastL ltB (rowD x) (r.map rowD) = rowD (r.foldl (fun m y => if ltB (rowD y) (rowD m) then y else m) x)
  | [], x => rfl
  | y :: r, x => by
    rw [List.map_cons, List.foldl_cons]
    show leastL ltB (if ltB (rowD y) (rowD x) = true then rowD y else rowD x) (r.map rowD) = _
    by_cases h : ltB (rowD y) (rowD x) = true
    · rw [if_pos h, if_pos h]; exact leastL_row r y
    · rw [if_neg h, if_neg h]; exact leastL_row r x
theorem row_alike (x y : Row) : PySem.W.alike (rowD x) (rowD y) = true := by
  unfold rowD
  simp [PySem.W.alike, PySem.W.alikeAll]
def RowSh (r : Row) : Prop := sh (.str r.2.1) = true ∧ sh (.str r.2.2) = true
theorem row_lay {r : Row} (h : RowSh r) : lay 1 (rowD r) := lay_tup fun x hx => by
  rcases List.mem_cons.mp hx with rfl | hx
  · exact lay_int _
  rcases List.mem_cons.mp hx with rfl | hx
  · exact lay_str h.1
  rcases List.mem_cons.mp hx with rfl | hx
  · exact lay_str h.2
  · cases hx
theorem min_rows {rs : List Row} (hs : ∀ r ∈ rs, RowSh r) (h : rs ≠ []) : biD .min [.list (rs.map rowD)] = some (optD rowD (minR rs)) := by
  cases rs with
  | nil => exact absurd rfl h
  | cons x r =>
    have h1 : allAlike (rowD x :: r.map rowD) = true := List.all_eq_true.mpr fun a ha => List.all_eq_true.mpr fun b hb => by
      obtain ⟨p, _, rfl⟩ := List.mem_map.mp (show a ∈ (x :: r).map rowD from ha)
      obtain ⟨q, _, rfl⟩ := List.mem_map.mp (show b ∈ (x :: r).map rowD from hb)
      exact row_alike p q
    have h2 : (rowD x :: r.map rowD).all sh = true := List.all_eq_true.mpr fun a ha => by
      obtain ⟨p, hp, rfl⟩ := List.mem_map.mp (show a ∈ (x :: r).map rowD from ha)
      exact lay_sh (row_lay (hs p hp)) (by decide)
    have h3 : (rowD x :: r.map rowD).all some_ = true := List.all_eq_true.mpr fun a ha => by
      obtain ⟨p, hp, rfl⟩ := List.mem_map.mp (show a ∈ (x :: r).map rowD from ha)
      rfl
    show gd (allAlike (rowD x :: r.map rowD) && (rowD x :: r.map rowD).all sh && (rowD x :: r.map rowD).all some_) (leastL ltB (rowD x) (r.map rowD)) = _
    rw [h1, h2, h3, leastL_row]
    rfl
theorem pairs_mem {srt : List Str} {p : Str × Str} (h : p ∈ pairsL srt) : p.1 ∈ srt ∧ p.2 ∈ srt := by
  unfold pairsL at h
  obtain ⟨i, hi, h⟩ := List.mem_flatMap.mp h
  obtain ⟨y, hy, rfl⟩ := List.mem_map.mp h
  have hi := List.mem_range.mp hi
  refine ⟨?_, List.mem_of_mem_drop hy⟩
  show srt.getD i "" ∈ srt
  rw [List.getD_eq_getElem?_getD, List.getElem?_eq_getElem hi]
  exact List.getElem_mem hi
section
variable {nm srt : List Str} {th : Str → Str → Str} (t : Th nm srt th)
include t
theorem Th.rows_sh : ∀ r ∈ rowsL srt th, RowSh r := fun r hr => by
  obtain ⟨p, hp, rfl⟩ := List.mem_map.mp hr
  obtain ⟨h1, h2⟩ := pairs_mem hp
  exact ⟨t.shn _ (t.mem.mp h1), t.shn _ (t.mem.mp h2)⟩
theorem Th.pairs_len : (pairsL srt).length ≤ 1000 := by
  have := comb_small 2 (srt.map .str) (by rw [List.length_map]; exact t.slen) (by omega)
  rw [comb2, List.length_map] at this
  exact this
def gapD (srt : List Str) (th : Str → Str → Str) : D := optD rowD (minR (rowsL srt th))
theorem ok_gap (k : Nat) : cfN T (k + 4) 6 [dT nm th] = W.ok (gapD srt th) := by
  refine call_eq (f := g_least_gap) rfl rfl fun κ => ?_
  show evSs _ _ _ [.val (dT nm th), .non, .non, .non, .non] = _
  have lim_ : lim = 16777216 := rfl
  have pl := t.pairs_len
  have ch : cfN T (k + 3) 0 [.tuple (srt.map .str), .int 2] = W.ok (.list ((pairsL srt).map fun p => .tuple [.str p.1, .str p.2])) := by
    have := ok_choices 2 k (srt.map .str) (fun m i hm => comb_small m _ (by rw [List.length_drop, List.length_map]; have := t.slen; omega) hm) (by rw [List.length_map]; have := t.slen; omega) (by omega)
    rw [comb2, List.map_map] at this
    exact this
  have c := fun b => ev_comp0 (cf := cfN T (k + 3)) (b := b) (own := [3, 4]) (t := .tup [3, 4]) (k := .seq) (es := .cons (.var 1) .nil) (el := .tup (.cons (.bi .len (.cons (.call 5 none (.cons (.idx (.var 0) (.var 3)) (.cons (.idx (.var 0) (.var 4)) .nil))) .nil)) (.cons (.var 3) (.cons (.var 4) .nil)))) (Γ := [.val (dT nm th), .val (.list ((pairsL srt).map fun p => .tuple [.str p.1, .str p.2])), .non, .non, .non])
    (xs := pairsL srt) (enc := fun p => .tuple [.str p.1, .str p.2]) (as := [.list ((pairsL srt).map fun p => .tuple [.str p.1, .str p.2])]) (fun p => rowD (((differL (th p.1) (th p.2)).length : Int), p.1, p.2)) (by simp only [e_varT, e_varF, e_con, e_tup, e_lst, e_dct, e_bin, e_cat, e_neg, e_not, e_and, e_or, e_cmp, e_ite, e_idx, e_cut, e_bi, e_me, e_isi, e_call, e_nil, e_cons, e_o0, e_o1, e_if0, e_if1, evKV, st_nil, st_cons, st_asg, st_asgT, st_par, st_ret, st_brk, st_ite, b_ok, b_some, b_b, o_some, q_b, q_ok, q_some, s_g0, s_gs, s_pv, s_po, s_vv, v_addI, v_sub, v_mul, v_div, v_mod, v_pow, c_eqI, p_seq, p_keys, p_range, p_zip, p_enum, p_items, p_values, c_eqS, c_eqB, c_eqN, c_neI, c_neS, c_lt, c_gt, c_le, c_ge, c_isN, c_isnotN, n_none, n_int, n_bool, n_str, n_tup, n_list, n_dict, Bool.not_true, Bool.not_false, gd_t, f_int, f_abs, f_tupL, f_tupT, f_listL, f_listT, f_listD, f_min, f_max, l_list, l_tup, l_dict, w_list, w_tup, w_keys, t_bool, t_int, s_k0, s_kc, s_tn, Ly.fresh, Ly.freshL, setAll, List.set_cons_zero, List.set_cons_succ, if_true, if_false, Bool.false_eq_true, ite_true, ite_false]) rfl (fun p hp => by
      obtain ⟨h1, h2⟩ := pairs_mem hp
      refine ⟨_, rfl, ?_⟩
      simp only [List.zip_cons_cons, List.zip_nil_right, List.foldl_cons, List.foldl_nil, e_varT, e_varF, e_con, e_tup, e_lst, e_dct, e_bin, e_cat, e_neg, e_not, e_and, e_or, e_cmp, e_ite, e_idx, e_cut, e_bi, e_me, e_isi, e_call, e_nil, e_cons, e_o0, e_o1, e_if0, e_if1, evKV, st_nil, st_cons, st_asg, st_asgT, st_par, st_ret, st_brk, st_ite, b_ok, b_some, b_b, o_some, q_b, q_ok, q_some, s_g0, s_gs, s_pv, s_po, s_vv, v_addI, v_sub, v_mul, v_div, v_mod, v_pow, c_eqI, p_seq, p_keys, p_range, p_zip, p_enum, p_items, p_values, c_eqS, c_eqB, c_eqN, c_neI, c_neS, c_lt, c_gt, c_le, c_ge, c_isN, c_isnotN, n_none, n_int, n_bool, n_str, n_tup, n_list, n_dict, Bool.not_true, Bool.not_false, gd_t, f_int, f_abs, f_tupL, f_tupT, f_listL, f_listT, f_listD, f_min, f_max, l_list, l_tup, l_dict, w_list, w_tup, w_keys, t_bool, t_int, s_k0, s_kc, s_tn, Ly.fresh, Ly.freshL, setAll, List.set_cons_zero, List.set_cons_succ, if_true, if_false, Bool.false_eq_true, ite_true, ite_false, t.idx (t.mem.mp h1), t.idx (t.mem.mp h2), ok_differ (t.val p.1) (t.val p.2), List.length_map]
      rfl) (by omega)
  have er : (pairsL srt).map (fun p => rowD (((differL (th p.1) (th p.2)).length : Int), p.1, p.2)) = (rowsL srt th).map rowD := by
    unfold rowsL
    rw [List.map_map]
    rfl
  rw [er] at c
  simp only [g_least_gap, e_varT, e_varF, e_con, e_tup, e_lst, e_dct, e_bin, e_cat, e_neg, e_not, e_and, e_or, e_cmp, e_ite, e_idx, e_cut, e_bi, e_me, e_isi, e_call, e_nil, e_cons, e_o0, e_o1, e_if0, e_if1, evKV, st_nil, st_cons, st_asg, st_asgT, st_par, st_ret, st_brk, st_ite, b_ok, b_some, b_b, o_some, q_b, q_ok, q_some, s_g0, s_gs, s_pv, s_po, s_vv, v_addI, v_sub, v_mul, v_div, v_mod, v_pow, c_eqI, p_seq, p_keys, p_range, p_zip, p_enum, p_items, p_values, c_eqS, c_eqB, c_eqN, c_neI, c_neS, c_lt, c_gt, c_le, c_ge, c_isN, c_isnotN, n_none, n_int, n_bool, n_str, n_tup, n_list, n_dict, Bool.not_true, Bool.not_false, gd_t, f_int, f_abs, f_tupL, f_tupT, f_listL, f_listT, f_listD, f_min, f_max, l_list, l_tup, l_dict, w_list, w_tup, w_keys, t_bool, t_int, s_k0, s_kc, s_tn, Ly.fresh, Ly.freshL, setAll, List.set_cons_zero, List.set_cons_succ, if_true, if_false, Bool.false_eq_true, ite_true, ite_false, t.sorted, ch, c]
  rw [st_frz 2 rfl]
  by_cases h : rowsL srt th = []
  · have e : cmpD .ne (.list ((rowsL srt th).map rowD)) (.list []) = some false := by rw [h]; rfl
    have g : gapD srt th = .none := by unfold gapD; rw [h]; rfl
    simp only [e_varT, e_varF, e_con, e_tup, e_lst, e_dct, e_bin, e_cat, e_neg, e_not, e_and, e_or, e_cmp, e_ite, e_idx, e_cut, e_bi, e_me, e_isi, e_call, e_nil, e_cons, e_o0, e_o1, e_if0, e_if1, evKV, st_nil, st_cons, st_asg, st_asgT, st_par, st_ret, st_brk, st_ite, b_ok, b_some, b_b, o_some, q_b, q_ok, q_some, s_g0, s_gs, s_pv, s_po, s_vv, v_addI, v_sub, v_mul, v_div, v_mod, v_pow, c_eqI, p_seq, p_keys, p_range, p_zip, p_enum, p_items, p_values, c_eqS, c_eqB, c_eqN, c_neI, c_neS, c_lt, c_gt, c_le, c_ge, c_isN, c_isnotN, n_none, n_int, n_bool, n_str, n_tup, n_list, n_dict, Bool.not_true, Bool.not_false, gd_t, f_int, f_abs, f_tupL, f_tupT, f_listL, f_listT, f_listD, f_min, f_max, l_list, l_tup, l_dict, w_list, w_tup, w_keys, t_bool, t_int, s_k0, s_kc, s_tn, Ly.fresh, Ly.freshL, setAll, List.set_cons_zero, List.set_cons_succ, if_true, if_false, Bool.false_eq_true, ite_true, ite_false, e, g]
  · have e : cmpD .ne (.list ((rowsL srt th).map rowD)) (.list []) = some true := by
      have l1 : lay 2 (.list ((rowsL srt th).map rowD)) := lay_list fun x hx => by
        obtain ⟨r, hr, rfl⟩ := List.mem_map.mp hx
        exact row_lay (t.rows_sh r hr)
      have : PyData.eqv (.list ((rowsL srt th).map rowD)) (.list []) = false := by
        cases q : rowsL srt th with
        | nil => exact absurd q h
        | cons a r => simp [PyData.eqv, PyData.eqvAll]
      show (eqD _ _).map (!·) = _
      have q : eqD (.list ((rowsL srt th).map rowD)) (.list []) = some false := eq_lay l1 (lay_list (n := 1) (ds := []) (by simp)) (by decide) false this (.inl ⟨_, rfl⟩)
      rw [q]
      rfl
    simp only [e_varT, e_varF, e_con, e_tup, e_lst, e_dct, e_bin, e_cat, e_neg, e_not, e_and, e_or, e_cmp, e_ite, e_idx, e_cut, e_bi, e_me, e_isi, e_call, e_nil, e_cons, e_o0, e_o1, e_if0, e_if1, evKV, st_nil, st_cons, st_asg, st_asgT, st_par, st_ret, st_brk, st_ite, b_ok, b_some, b_b, o_some, q_b, q_ok, q_some, s_g0, s_gs, s_pv, s_po, s_vv, v_addI, v_sub, v_mul, v_div, v_mod, v_pow, c_eqI, p_seq, p_keys, p_range, p_zip, p_enum, p_items, p_values, c_eqS, c_eqB, c_eqN, c_neI, c_neS, c_lt, c_gt, c_le, c_ge, c_isN, c_isnotN, n_none, n_int, n_bool, n_str, n_tup, n_list, n_dict, Bool.not_true, Bool.not_false, gd_t, f_int, f_abs, f_tupL, f_tupT, f_listL, f_listT, f_listD, f_min, f_max, l_list, l_tup, l_dict, w_list, w_tup, w_keys, t_bool, t_int, s_k0, s_kc, s_tn, Ly.fresh, Ly.freshL, setAll, List.set_cons_zero, List.set_cons_succ, if_true, if_false, Bool.false_eq_true, ite_true, ite_false, e, min_rows t.rows_sh h]
    rfl
end
end K02

set_option maxRecDepth 100000
set_option maxHeartbeats 4000000
namespace K02
open PySem Ly
section
variable {nm srt : List Str} {th : Str → Str → Str} (t : Th nm srt th)
include t
def seesN (r : Row) : Int := if 0 < r.1 - 1 then r.1 - 1 else 0
def seesD (srt : List Str) (th : Str → Str → Str) : D := optD (fun r => .int (seesN r)) (minR (rowsL srt th))
def mendsD (srt : List Str) (th : Str → Str → Str) : D := optD (fun r => .int (seesN r / 2)) (minR (rowsL srt th))
omit t in
theorem row_0 (r : Row) : idxD (rowD r) (.int 0) = some (.int r.1) := rfl
theorem ok_sees (k : Nat) : cfN T (k + 5) 7 [dT nm th] = W.ok (seesD srt th) := by
  refine call_eq (f := g_sees_wrong) rfl rfl fun κ => ?_
  show evSs _ _ _ [.val (dT nm th), .non] = _
  unfold seesD
  have g := ok_gap t k
  unfold gapD at g
  cases q : minR (rowsL srt th) with
  | none =>
    rw [q] at g
    simp only [g_sees_wrong, e_varT, e_varF, e_con, e_tup, e_lst, e_dct, e_bin, e_cat, e_neg, e_not, e_and, e_or, e_cmp, e_ite, e_idx, e_cut, e_bi, e_me, e_isi, e_call, e_nil, e_cons, e_o0, e_o1, e_if0, e_if1, evKV, st_nil, st_cons, st_asg, st_asgT, st_par, st_ret, st_brk, st_ite, b_ok, b_some, b_b, o_some, q_b, q_ok, q_some, s_g0, s_gs, s_pv, s_po, s_vv, v_addI, v_sub, v_mul, v_div, v_mod, v_pow, c_eqI, p_seq, p_keys, p_range, p_zip, p_enum, p_items, p_values, c_eqS, c_eqB, c_eqN, c_neI, c_neS, c_lt, c_gt, c_le, c_ge, c_isN, c_isnotN, n_none, n_int, n_bool, n_str, n_tup, n_list, n_dict, Bool.not_true, Bool.not_false, gd_t, f_int, f_abs, f_tupL, f_tupT, f_listL, f_listT, f_listD, f_min, f_max, l_list, l_tup, l_dict, w_list, w_tup, w_keys, t_bool, t_int, s_k0, s_kc, s_tn, Ly.fresh, Ly.freshL, setAll, List.set_cons_zero, List.set_cons_succ, if_true, if_false, Bool.false_eq_true, ite_true, ite_false, g, optD]
  | some r =>
    rw [q] at g
    have e : isNo_ (rowD r) = false := rfl
    simp only [g_sees_wrong, e_varT, e_varF, e_con, e_tup, e_lst, e_dct, e_bin, e_cat, e_neg, e_not, e_and, e_or, e_cmp, e_ite, e_idx, e_cut, e_bi, e_me, e_isi, e_call, e_nil, e_cons, e_o0, e_o1, e_if0, e_if1, evKV, st_nil, st_cons, st_asg, st_asgT, st_par, st_ret, st_brk, st_ite, b_ok, b_some, b_b, o_some, q_b, q_ok, q_some, s_g0, s_gs, s_pv, s_po, s_vv, v_addI, v_sub, v_mul, v_div, v_mod, v_pow, c_eqI, p_seq, p_keys, p_range, p_zip, p_enum, p_items, p_values, c_eqS, c_eqB, c_eqN, c_neI, c_neS, c_lt, c_gt, c_le, c_ge, c_isN, c_isnotN, n_none, n_int, n_bool, n_str, n_tup, n_list, n_dict, Bool.not_true, Bool.not_false, gd_t, f_int, f_abs, f_tupL, f_tupT, f_listL, f_listT, f_listD, f_min, f_max, l_list, l_tup, l_dict, w_list, w_tup, w_keys, t_bool, t_int, s_k0, s_kc, s_tn, Ly.fresh, Ly.freshL, setAll, List.set_cons_zero, List.set_cons_succ, if_true, if_false, Bool.false_eq_true, ite_true, ite_false, g, optD, e, row_0, seesN]
theorem ok_mends (k : Nat) : cfN T (k + 5) 8 [dT nm th] = W.ok (mendsD srt th) := by
  refine call_eq (f := g_mends_wrong) rfl rfl fun κ => ?_
  show evSs _ _ _ [.val (dT nm th), .non] = _
  unfold mendsD
  have g := ok_gap t k
  unfold gapD at g
  cases q : minR (rowsL srt th) with
  | none =>
    rw [q] at g
    simp only [g_mends_wrong, e_varT, e_varF, e_con, e_tup, e_lst, e_dct, e_bin, e_cat, e_neg, e_not, e_and, e_or, e_cmp, e_ite, e_idx, e_cut, e_bi, e_me, e_isi, e_call, e_nil, e_cons, e_o0, e_o1, e_if0, e_if1, evKV, st_nil, st_cons, st_asg, st_asgT, st_par, st_ret, st_brk, st_ite, b_ok, b_some, b_b, o_some, q_b, q_ok, q_some, s_g0, s_gs, s_pv, s_po, s_vv, v_addI, v_sub, v_mul, v_div, v_mod, v_pow, c_eqI, p_seq, p_keys, p_range, p_zip, p_enum, p_items, p_values, c_eqS, c_eqB, c_eqN, c_neI, c_neS, c_lt, c_gt, c_le, c_ge, c_isN, c_isnotN, n_none, n_int, n_bool, n_str, n_tup, n_list, n_dict, Bool.not_true, Bool.not_false, gd_t, f_int, f_abs, f_tupL, f_tupT, f_listL, f_listT, f_listD, f_min, f_max, l_list, l_tup, l_dict, w_list, w_tup, w_keys, t_bool, t_int, s_k0, s_kc, s_tn, Ly.fresh, Ly.freshL, setAll, List.set_cons_zero, List.set_cons_succ, if_true, if_false, Bool.false_eq_true, ite_true, ite_false, g, optD]
  | some r =>
    rw [q] at g
    have e : isNo_ (rowD r) = false := rfl
    have d : gd (decide ((0 : Int) < 2) && decide ((2 : Int) < 1073741824)) (PyData.int (seesN r / 2)) = some (.int (seesN r / 2)) := rfl
    simp only [g_mends_wrong, e_varT, e_varF, e_con, e_tup, e_lst, e_dct, e_bin, e_cat, e_neg, e_not, e_and, e_or, e_cmp, e_ite, e_idx, e_cut, e_bi, e_me, e_isi, e_call, e_nil, e_cons, e_o0, e_o1, e_if0, e_if1, evKV, st_nil, st_cons, st_asg, st_asgT, st_par, st_ret, st_brk, st_ite, b_ok, b_some, b_b, o_some, q_b, q_ok, q_some, s_g0, s_gs, s_pv, s_po, s_vv, v_addI, v_sub, v_mul, v_div, v_mod, v_pow, c_eqI, p_seq, p_keys, p_range, p_zip, p_enum, p_items, p_values, c_eqS, c_eqB, c_eqN, c_neI, c_neS, c_lt, c_gt, c_le, c_ge, c_isN, c_isnotN, n_none, n_int, n_bool, n_str, n_tup, n_list, n_dict, Bool.not_true, Bool.not_false, gd_t, f_int, f_abs, f_tupL, f_tupT, f_listL, f_listT, f_listD, f_min, f_max, l_list, l_tup, l_dict, w_list, w_tup, w_keys, t_bool, t_int, s_k0, s_kc, s_tn, Ly.fresh, Ly.freshL, setAll, List.set_cons_zero, List.set_cons_succ, if_true, if_false, Bool.false_eq_true, ite_true, ite_false, g, optD, e, row_0]
    rw [show (if 0 < r.1 - 1 then r.1 - 1 else 0) = seesN r from rfl, d]
    simp only [e_varT, e_varF, e_con, e_tup, e_lst, e_dct, e_bin, e_cat, e_neg, e_not, e_and, e_or, e_cmp, e_ite, e_idx, e_cut, e_bi, e_me, e_isi, e_call, e_nil, e_cons, e_o0, e_o1, e_if0, e_if1, evKV, st_nil, st_cons, st_asg, st_asgT, st_par, st_ret, st_brk, st_ite, b_ok, b_some, b_b, o_some, q_b, q_ok, q_some, s_g0, s_gs, s_pv, s_po, s_vv, v_addI, v_sub, v_mul, v_div, v_mod, v_pow, c_eqI, p_seq, p_keys, p_range, p_zip, p_enum, p_items, p_values, c_eqS, c_eqB, c_eqN, c_neI, c_neS, c_lt, c_gt, c_le, c_ge, c_isN, c_isnotN, n_none, n_int, n_bool, n_str, n_tup, n_list, n_dict, Bool.not_true, Bool.not_false, gd_t, f_int, f_abs, f_tupL, f_tupT, f_listL, f_listT, f_listD, f_min, f_max, l_list, l_tup, l_dict, w_list, w_tup, w_keys, t_bool, t_int, s_k0, s_kc, s_tn, Ly.fresh, Ly.freshL, setAll, List.set_cons_zero, List.set_cons_succ, if_true, if_false, Bool.false_eq_true, ite_true, ite_false]
def mendedD (nm srt : List Str) (th : Str → Str → Str) (g : Str → Str) : D := match nm, nearL srt th g (leastW nm th g) with
  | [], _ => .none
  | _, [x] => dV (th x)
  | _, _ => .none
theorem near_mem {g : Str → Str} {n : Int} {x : Str} (h : x ∈ nearL srt th g n) : x ∈ nm := t.mem.mp (List.mem_filter.mp h).1
theorem ok_mended {g : Str → Str} (hg : Val g) (k : Nat) : cfN T (k + 4) 9 [dT nm th, dV g] = W.ok (mendedD nm srt th g) := by
  refine call_eq (f := g_mended) rfl rfl fun κ => ?_
  show evSs _ _ _ [.val (dT nm th), .val (dV g), .non] = _
  have n := ok_nearest t hg k
  unfold nearestD at n
  unfold mendedD
  by_cases h : nm = []
  · rw [if_pos h] at n
    subst h
    simp only [g_mended, e_varT, e_varF, e_con, e_tup, e_lst, e_dct, e_bin, e_cat, e_neg, e_not, e_and, e_or, e_cmp, e_ite, e_idx, e_cut, e_bi, e_me, e_isi, e_call, e_nil, e_cons, e_o0, e_o1, e_if0, e_if1, evKV, st_nil, st_cons, st_asg, st_asgT, st_par, st_ret, st_brk, st_ite, b_ok, b_some, b_b, o_some, q_b, q_ok, q_some, s_g0, s_gs, s_pv, s_po, s_vv, v_addI, v_sub, v_mul, v_div, v_mod, v_pow, c_eqI, p_seq, p_keys, p_range, p_zip, p_enum, p_items, p_values, c_eqS, c_eqB, c_eqN, c_neI, c_neS, c_lt, c_gt, c_le, c_ge, c_isN, c_isnotN, n_none, n_int, n_bool, n_str, n_tup, n_list, n_dict, Bool.not_true, Bool.not_false, gd_t, f_int, f_abs, f_tupL, f_tupT, f_listL, f_listT, f_listD, f_min, f_max, l_list, l_tup, l_dict, w_list, w_tup, w_keys, t_bool, t_int, s_k0, s_kc, s_tn, Ly.fresh, Ly.freshL, setAll, List.set_cons_zero, List.set_cons_succ, if_true, if_false, Bool.false_eq_true, ite_true, ite_false, n, c_isnotN]
  · rw [if_neg h] at n
    have e : isNo_ .none = true := rfl
    have i1 : ∀ a b : D, idxD (.tuple [a, b]) (.int 1) = some b := fun _ _ => rfl
    simp only [g_mended, e_varT, e_varF, e_con, e_tup, e_lst, e_dct, e_bin, e_cat, e_neg, e_not, e_and, e_or, e_cmp, e_ite, e_idx, e_cut, e_bi, e_me, e_isi, e_call, e_nil, e_cons, e_o0, e_o1, e_if0, e_if1, evKV, st_nil, st_cons, st_asg, st_asgT, st_par, st_ret, st_brk, st_ite, b_ok, b_some, b_b, o_some, q_b, q_ok, q_some, s_g0, s_gs, s_pv, s_po, s_vv, v_addI, v_sub, v_mul, v_div, v_mod, v_pow, c_eqI, p_seq, p_keys, p_range, p_zip, p_enum, p_items, p_values, c_eqS, c_eqB, c_eqN, c_neI, c_neS, c_lt, c_gt, c_le, c_ge, c_isN, c_isnotN, n_none, n_int, n_bool, n_str, n_tup, n_list, n_dict, Bool.not_true, Bool.not_false, gd_t, f_int, f_abs, f_tupL, f_tupT, f_listL, f_listT, f_listD, f_min, f_max, l_list, l_tup, l_dict, w_list, w_tup, w_keys, t_bool, t_int, s_k0, s_kc, s_tn, Ly.fresh, Ly.freshL, setAll, List.set_cons_zero, List.set_cons_succ, if_true, if_false, Bool.false_eq_true, ite_true, ite_false, n, e, i1, List.length_map]
    cases q : nearL srt th g (leastW nm th g) with
    | nil =>
      cases nm with
      | nil => exact absurd rfl h
      | cons a r => simp [e_varT, e_varF, e_con, e_tup, e_lst, e_dct, e_bin, e_cat, e_neg, e_not, e_and, e_or, e_cmp, e_ite, e_idx, e_cut, e_bi, e_me, e_isi, e_call, e_nil, e_cons, e_o0, e_o1, e_if0, e_if1, evKV, st_nil, st_cons, st_asg, st_asgT, st_par, st_ret, st_brk, st_ite, b_ok, b_some, b_b, o_some, q_b, q_ok, q_some, s_g0, s_gs, s_pv, s_po, s_vv, v_addI, v_sub, v_mul, v_div, v_mod, v_pow, c_eqI, p_seq, p_keys, p_range, p_zip, p_enum, p_items, p_values, c_eqS, c_eqB, c_eqN, c_neI, c_neS, c_lt, c_gt, c_le, c_ge, c_isN, c_isnotN, n_none, n_int, n_bool, n_str, n_tup, n_list, n_dict, Bool.not_true, Bool.not_false, gd_t, f_int, f_abs, f_tupL, f_tupT, f_listL, f_listT, f_listD, f_min, f_max, l_list, l_tup, l_dict, w_list, w_tup, w_keys, t_bool, t_int, s_k0, s_kc, s_tn, Ly.fresh, Ly.freshL, setAll, List.set_cons_zero, List.set_cons_succ, if_true, if_false, Bool.false_eq_true, ite_true, ite_false]
    | cons x r =>
      cases r with
      | nil =>
        have i0 : idxD (.tuple [.str x]) (.int 0) = some (.str x) := rfl
        have hx := near_mem t (g := g) (n := leastW nm th g) (x := x) (by rw [q]; simp)
        cases nm with
        | nil => exact absurd rfl h
        | cons a r => simp [e_varT, e_varF, e_con, e_tup, e_lst, e_dct, e_bin, e_cat, e_neg, e_not, e_and, e_or, e_cmp, e_ite, e_idx, e_cut, e_bi, e_me, e_isi, e_call, e_nil, e_cons, e_o0, e_o1, e_if0, e_if1, evKV, st_nil, st_cons, st_asg, st_asgT, st_par, st_ret, st_brk, st_ite, b_ok, b_some, b_b, o_some, q_b, q_ok, q_some, s_g0, s_gs, s_pv, s_po, s_vv, v_addI, v_sub, v_mul, v_div, v_mod, v_pow, c_eqI, p_seq, p_keys, p_range, p_zip, p_enum, p_items, p_values, c_eqS, c_eqB, c_eqN, c_neI, c_neS, c_lt, c_gt, c_le, c_ge, c_isN, c_isnotN, n_none, n_int, n_bool, n_str, n_tup, n_list, n_dict, Bool.not_true, Bool.not_false, gd_t, f_int, f_abs, f_tupL, f_tupT, f_listL, f_listT, f_listD, f_min, f_max, l_list, l_tup, l_dict, w_list, w_tup, w_keys, t_bool, t_int, s_k0, s_kc, s_tn, Ly.fresh, Ly.freshL, setAll, List.set_cons_zero, List.set_cons_succ, if_true, if_false, Bool.false_eq_true, ite_true, ite_false, i0, t.idx hx]
      | cons y r =>
        have b : (((r.length : Int) + 1 + 1 == 1) = false) := by simp; omega
        cases nm with
        | nil => exact absurd rfl h
        | cons a r' => simp [e_varT, e_varF, e_con, e_tup, e_lst, e_dct, e_bin, e_cat, e_neg, e_not, e_and, e_or, e_cmp, e_ite, e_idx, e_cut, e_bi, e_me, e_isi, e_call, e_nil, e_cons, e_o0, e_o1, e_if0, e_if1, evKV, st_nil, st_cons, st_asg, st_asgT, st_par, st_ret, st_brk, st_ite, b_ok, b_some, b_b, o_some, q_b, q_ok, q_some, s_g0, s_gs, s_pv, s_po, s_vv, v_addI, v_sub, v_mul, v_div, v_mod, v_pow, c_eqI, p_seq, p_keys, p_range, p_zip, p_enum, p_items, p_values, c_eqS, c_eqB, c_eqN, c_neI, c_neS, c_lt, c_gt, c_le, c_ge, c_isN, c_isnotN, n_none, n_int, n_bool, n_str, n_tup, n_list, n_dict, Bool.not_true, Bool.not_false, gd_t, f_int, f_abs, f_tupL, f_tupT, f_listL, f_listT, f_listD, f_min, f_max, l_list, l_tup, l_dict, w_list, w_tup, w_keys, t_bool, t_int, s_k0, s_kc, s_tn, Ly.fresh, Ly.freshL, setAll, List.set_cons_zero, List.set_cons_succ, if_true, if_false, Bool.false_eq_true, ite_true, ite_false, b]
/-! ### the law's own small helpers -/
omit t in
theorem own_v (f : Str → Str) : biD .dict [.list ((kvV f).map fun p => .tuple [.str p.1, p.2])] = some (dV f) := sd_dict (kv_nd f)
omit t in
theorem items_v (f : Str → Str) : biD .listItems [dV f] = some (.list ((kvV f).map fun p => .tuple [.str p.1, p.2])) := sd_items _
theorem ok_own (k : Nat) : cfN T (k + 1) 21 [dT nm th] = W.ok (dT nm th) := by
  refine call_eq (f := g__law_own) rfl rfl fun κ => ?_
  show evSs _ _ _ [.val (dT nm th), .non] = _
  have lim_ : lim = 16777216 := rfl
  have := t.len
  have c := fun b => ev_comp0 (cf := cfN T k) (b := b) (own := [1]) (t := .name 1) (k := .keys) (es := .cons (.var 0) .nil) (el := .tup (.cons (.var 1) (.cons (.bi .dict (.cons (.bi .listItems (.cons (.idx (.var 0) (.var 1)) .nil)) .nil)) .nil))) (Γ := [.val (dT nm th), .non])
    (xs := nm) (enc := .str) (as := [dT nm th]) (fun x => .tuple [.str x, dV (th x)]) (by simp only [e_varT, e_varF, e_con, e_tup, e_lst, e_dct, e_bin, e_cat, e_neg, e_not, e_and, e_or, e_cmp, e_ite, e_idx, e_cut, e_bi, e_me, e_isi, e_call, e_nil, e_cons, e_o0, e_o1, e_if0, e_if1, evKV, st_nil, st_cons, st_asg, st_asgT, st_par, st_ret, st_brk, st_ite, b_ok, b_some, b_b, o_some, q_b, q_ok, q_some, s_g0, s_gs, s_pv, s_po, s_vv, v_addI, v_sub, v_mul, v_div, v_mod, v_pow, c_eqI, p_seq, p_keys, p_range, p_zip, p_enum, p_items, p_values, c_eqS, c_eqB, c_eqN, c_neI, c_neS, c_lt, c_gt, c_le, c_ge, c_isN, c_isnotN, n_none, n_int, n_bool, n_str, n_tup, n_list, n_dict, Bool.not_true, Bool.not_false, gd_t, f_int, f_abs, f_tupL, f_tupT, f_listL, f_listT, f_listD, f_min, f_max, l_list, l_tup, l_dict, w_list, w_tup, w_keys, t_bool, t_int, s_k0, s_kc, s_tn, Ly.fresh, Ly.freshL, setAll, List.set_cons_zero, List.set_cons_succ, if_true, if_false, Bool.false_eq_true, ite_true, ite_false]) (by
      have := keysT (nm := nm) (th := th)
      exact this) (fun x hx => by
      refine ⟨_, rfl, ?_⟩
      simp only [e_varT, e_varF, e_con, e_tup, e_lst, e_dct, e_bin, e_cat, e_neg, e_not, e_and, e_or, e_cmp, e_ite, e_idx, e_cut, e_bi, e_me, e_isi, e_call, e_nil, e_cons, e_o0, e_o1, e_if0, e_if1, evKV, st_nil, st_cons, st_asg, st_asgT, st_par, st_ret, st_brk, st_ite, b_ok, b_some, b_b, o_some, q_b, q_ok, q_some, s_g0, s_gs, s_pv, s_po, s_vv, v_addI, v_sub, v_mul, v_div, v_mod, v_pow, c_eqI, p_seq, p_keys, p_range, p_zip, p_enum, p_items, p_values, c_eqS, c_eqB, c_eqN, c_neI, c_neS, c_lt, c_gt, c_le, c_ge, c_isN, c_isnotN, n_none, n_int, n_bool, n_str, n_tup, n_list, n_dict, Bool.not_true, Bool.not_false, gd_t, f_int, f_abs, f_tupL, f_tupT, f_listL, f_listT, f_listD, f_min, f_max, l_list, l_tup, l_dict, w_list, w_tup, w_keys, t_bool, t_int, s_k0, s_kc, s_tn, Ly.fresh, Ly.freshL, setAll, List.set_cons_zero, List.set_cons_succ, if_true, if_false, Bool.false_eq_true, ite_true, ite_false, t.idx hx, items_v, own_v]) (by omega)
  have d : biD .dict [.list (nm.map fun x => PyData.tuple [.str x, dV (th x)])] = some (dT nm th) := by
    have := sd_dict (kvs := kvT nm th) (by rw [kvT_keys]; exact t.nd)
    unfold kvT at this
    rw [List.map_map] at this
    exact this
  simp only [g__law_own, e_varT, e_varF, e_con, e_tup, e_lst, e_dct, e_bin, e_cat, e_neg, e_not, e_and, e_or, e_cmp, e_ite, e_idx, e_cut, e_bi, e_me, e_isi, e_call, e_nil, e_cons, e_o0, e_o1, e_if0, e_if1, evKV, st_nil, st_cons, st_asg, st_asgT, st_par, st_ret, st_brk, st_ite, b_ok, b_some, b_b, o_some, q_b, q_ok, q_some, s_g0, s_gs, s_pv, s_po, s_vv, v_addI, v_sub, v_mul, v_div, v_mod, v_pow, c_eqI, p_seq, p_keys, p_range, p_zip, p_enum, p_items, p_values, c_eqS, c_eqB, c_eqN, c_neI, c_neS, c_lt, c_gt, c_le, c_ge, c_isN, c_isnotN, n_none, n_int, n_bool, n_str, n_tup, n_list, n_dict, Bool.not_true, Bool.not_false, gd_t, f_int, f_abs, f_tupL, f_tupT, f_listL, f_listT, f_listD, f_min, f_max, l_list, l_tup, l_dict, w_list, w_tup, w_keys, t_bool, t_int, s_k0, s_kc, s_tn, Ly.fresh, Ly.freshL, setAll, List.set_cons_zero, List.set_cons_succ, if_true, if_false, Bool.false_eq_true, ite_true, ite_false, c, d]
end
theorem ok_ldiffer (f g : Str → Str) (k : Nat) : cfN T (k + 1) 22 [dV f, dV g] = W.ok (.list ((differL f g).map .str)) := by
  refine call_eq (f := g__law_differ) rfl rfl fun κ => ?_
  show evSs _ _ _ [.val (dV f), .val (dV g), .non] = _
  have lim_ : lim = 16777216 := rfl
  have l : MK.length = 4 := rfl
  have c := fun b => ev_comp (cf := cfN T k) (b := b) (own := [2]) (t := .name 2) (k := .seq) (es := .cons (.tup (.cons (.con (.str "kind")) (.cons (.con (.str "size")) (.cons (.con (.str "tint")) (.cons (.con (.str "zone")) .nil))))) .nil) (ifs := .cons (.cmp .ne (.me .get (.var 0) (.cons (.var 2) (.cons (.con (.str "")) .nil))) (.me .get (.var 1) (.cons (.var 2) (.cons (.con (.str "")) .nil)))) .nil) (el := .var 2) (Γ := [.val (dV f), .val (dV g), .non])
    (xs := MK) (enc := .str) (as := [.tuple (MK.map .str)]) (fun m => !(f m == g m)) .str (by simp only [e_varT, e_varF, e_con, e_tup, e_lst, e_dct, e_bin, e_cat, e_neg, e_not, e_and, e_or, e_cmp, e_ite, e_idx, e_cut, e_bi, e_me, e_isi, e_call, e_nil, e_cons, e_o0, e_o1, e_if0, e_if1, evKV, st_nil, st_cons, st_asg, st_asgT, st_par, st_ret, st_brk, st_ite, b_ok, b_some, b_b, o_some, q_b, q_ok, q_some, s_g0, s_gs, s_pv, s_po, s_vv, v_addI, v_sub, v_mul, v_div, v_mod, v_pow, c_eqI, p_seq, p_keys, p_range, p_zip, p_enum, p_items, p_values, c_eqS, c_eqB, c_eqN, c_neI, c_neS, c_lt, c_gt, c_le, c_ge, c_isN, c_isnotN, n_none, n_int, n_bool, n_str, n_tup, n_list, n_dict, Bool.not_true, Bool.not_false, gd_t, f_int, f_abs, f_tupL, f_tupT, f_listL, f_listT, f_listD, f_min, f_max, l_list, l_tup, l_dict, w_list, w_tup, w_keys, t_bool, t_int, s_k0, s_kc, s_tn, Ly.fresh, Ly.freshL, setAll, List.set_cons_zero, List.set_cons_succ, if_true, if_false, Bool.false_eq_true, ite_true, ite_false]; rfl) rfl (fun m hm => by
      refine ⟨_, rfl, ?_, fun _ => ?_⟩
      · simp only [e_varT, e_varF, e_con, e_tup, e_lst, e_dct, e_bin, e_cat, e_neg, e_not, e_and, e_or, e_cmp, e_ite, e_idx, e_cut, e_bi, e_me, e_isi, e_call, e_nil, e_cons, e_o0, e_o1, e_if0, e_if1, evKV, st_nil, st_cons, st_asg, st_asgT, st_par, st_ret, st_brk, st_ite, b_ok, b_some, b_b, o_some, q_b, q_ok, q_some, s_g0, s_gs, s_pv, s_po, s_vv, v_addI, v_sub, v_mul, v_div, v_mod, v_pow, c_eqI, p_seq, p_keys, p_range, p_zip, p_enum, p_items, p_values, c_eqS, c_eqB, c_eqN, c_neI, c_neS, c_lt, c_gt, c_le, c_ge, c_isN, c_isnotN, n_none, n_int, n_bool, n_str, n_tup, n_list, n_dict, Bool.not_true, Bool.not_false, gd_t, f_int, f_abs, f_tupL, f_tupT, f_listL, f_listT, f_listD, f_min, f_max, l_list, l_tup, l_dict, w_list, w_tup, w_keys, t_bool, t_int, s_k0, s_kc, s_tn, Ly.fresh, Ly.freshL, setAll, List.set_cons_zero, List.set_cons_succ, if_true, if_false, Bool.false_eq_true, ite_true, ite_false, get_ok, get2 hm]
      · simp only [e_varT, e_varF, e_con, e_tup, e_lst, e_dct, e_bin, e_cat, e_neg, e_not, e_and, e_or, e_cmp, e_ite, e_idx, e_cut, e_bi, e_me, e_isi, e_call, e_nil, e_cons, e_o0, e_o1, e_if0, e_if1, evKV, st_nil, st_cons, st_asg, st_asgT, st_par, st_ret, st_brk, st_ite, b_ok, b_some, b_b, o_some, q_b, q_ok, q_some, s_g0, s_gs, s_pv, s_po, s_vv, v_addI, v_sub, v_mul, v_div, v_mod, v_pow, c_eqI, p_seq, p_keys, p_range, p_zip, p_enum, p_items, p_values, c_eqS, c_eqB, c_eqN, c_neI, c_neS, c_lt, c_gt, c_le, c_ge, c_isN, c_isnotN, n_none, n_int, n_bool, n_str, n_tup, n_list, n_dict, Bool.not_true, Bool.not_false, gd_t, f_int, f_abs, f_tupL, f_tupT, f_listL, f_listT, f_listD, f_min, f_max, l_list, l_tup, l_dict, w_list, w_tup, w_keys, t_bool, t_int, s_k0, s_kc, s_tn, Ly.fresh, Ly.freshL, setAll, List.set_cons_zero, List.set_cons_succ, if_true, if_false, Bool.false_eq_true, ite_true, ite_false]) (by omega)
  simp only [g__law_differ, e_varT, e_varF, e_con, e_tup, e_lst, e_dct, e_bin, e_cat, e_neg, e_not, e_and, e_or, e_cmp, e_ite, e_idx, e_cut, e_bi, e_me, e_isi, e_call, e_nil, e_cons, e_o0, e_o1, e_if0, e_if1, evKV, st_nil, st_cons, st_asg, st_asgT, st_par, st_ret, st_brk, st_ite, b_ok, b_some, b_b, o_some, q_b, q_ok, q_some, s_g0, s_gs, s_pv, s_po, s_vv, v_addI, v_sub, v_mul, v_div, v_mod, v_pow, c_eqI, p_seq, p_keys, p_range, p_zip, p_enum, p_items, p_values, c_eqS, c_eqB, c_eqN, c_neI, c_neS, c_lt, c_gt, c_le, c_ge, c_isN, c_isnotN, n_none, n_int, n_bool, n_str, n_tup, n_list, n_dict, Bool.not_true, Bool.not_false, gd_t, f_int, f_abs, f_tupL, f_tupT, f_listL, f_listT, f_listD, f_min, f_max, l_list, l_tup, l_dict, w_list, w_tup, w_keys, t_bool, t_int, s_k0, s_kc, s_tn, Ly.fresh, Ly.freshL, setAll, List.set_cons_zero, List.set_cons_succ, if_true, if_false, Bool.false_eq_true, ite_true, ite_false, c]
  rfl
/-- one of a row -/
theorem ok_pick {ds : List D} {Q : D → Prop} (h0 : ds ≠ []) (h1 : ds.length < 1000) (h : ∀ d ∈ ds, Q d) (k : Nat) : cfN T (k + 1) 18 [.list ds] Q := by
  refine call_to (f := g__law_pick) rfl rfl fun κ hκ => ?_
  show evSs _ _ _ [.obj, .val (.list ds)]
  show W.opt _ fun c => _
  refine ⟨.list ds, rfl, ?_⟩
  refine ⟨(), rfl, ?_⟩
  refine ⟨.list ds, rfl, .int ds.length, rfl, ds.length, rfl, ?_, by omega, fun r r0 r1 => ?_⟩
  · have := List.length_pos_iff.mpr h0
    omega
  · refine ⟨ds[r.toNat]'(by omega), ?_, ?_⟩
    · rw [x_list, x_int r0 r1]
      exact List.getElem?_eq_getElem (by omega)
    · rw [hκ]
      exact h _ (List.getElem_mem _)
end K02

set_option maxRecDepth 100000
set_option maxHeartbeats 4000000
namespace K02
open PySem Ly
/-! ### the things that the law makes -/
def VS : List Str := ["", "a", "b", "c"]
def NM : List Str := ["t9", "t8", "t7", "t6", "t5"]
theorem VS_sh : ∀ v ∈ VS, sh (.str v) = true := by decide +kernel
theorem NM_nd : NM.Nodup := by decide +kernel
theorem NM_sh : ∀ v ∈ NM, sh (.str v) = true := by decide +kernel
theorem NM_up : NM.reverse.Pairwise fun a b => leB (.str a) (.str b) = true := by decide +kernel
def kvP (ms : List Str) (f : Str → Str) : List (Str × D) := (ms.filter (has f)).map fun m => (m, .str (f m))
theorem kvP_nd {ms : List Str} (h : ms.Nodup) (f : Str → Str) : ((kvP ms f).map (·.1)).Nodup := by
  have e : (kvP ms f).map (·.1) = ms.filter (has f) := by
    unfold kvP
    rw [List.map_map]
    exact List.map_id _
  rw [e]
  exact h.filter _
theorem kvP_congr {ms : List Str} {f g : Str → Str} (h : ∀ m ∈ ms, f m = g m) : kvP ms f = kvP ms g := by
  unfold kvP
  have e : ms.filter (has f) = ms.filter (has g) := List.filter_congr fun m hm => by unfold has; rw [h m hm]
  rw [e]
  refine List.map_congr_left fun m hm => ?_
  rw [h m (List.mem_filter.mp hm).1]
def upF (f : Str → Str) (x v : Str) : Str → Str := fun m => if m = x then v else f m
theorem kvP_snoc {ms : List Str} {x v : Str} (hx : x ∉ ms) (f : Str → Str) : kvP (ms ++ [x]) (upF f x v) = kvP ms f ++ (if (!(v == "")) = true then [(x, .str v)] else []) := by
  have e1 : kvP (ms ++ [x]) (upF f x v) = kvP ms (upF f x v) ++ kvP [x] (upF f x v) := by
    unfold kvP
    rw [List.filter_append, List.map_append]
  rw [e1, kvP_congr (f := upF f x v) (g := f) (fun m hm => by
    unfold upF
    rw [if_neg fun z => hx (by rw [← z]; exact hm)])]
  congr 1
  unfold kvP
  have q : has (upF f x v) x = !(v == "") := by
    unfold has upF
    rw [if_pos rfl]
  by_cases h : (!(v == "")) = true
  · rw [List.filter_cons, q, if_pos h, if_pos h]
    show [(x, PyData.str (upF f x v x))] = _
    unfold upF
    rw [if_pos rfl]
  · rw [List.filter_cons, q, if_neg h, if_neg h]
    rfl
/-- dict(list(d.items()) + ([(m, v)] if v != "" else [])) -/
theorem grow {cf : Nat → List D → W D} {Γ : Ly.Env} {i j l : Nat} {ms : List Str} {x v : Str} {f : Str → Str} (hn : ms.Nodup) (hx : x ∉ ms) (hl : ms.length ≤ 100) (h1 : Ly.get Γ i = .val (.dict (sd (kvP ms f)))) (h2 : Ly.get Γ j = .val (.str x)) (h3 : Ly.get Γ l = .val (.str v)) (b : Bool) :
    ev cf b (.bi .dict (.cons (.bin .add (.bi .listItems (.cons (.var i) .nil)) (.ite (.cmp .ne (.var l) (.con (.str ""))) (.lst (.cons (.tup (.cons (.var j) (.cons (.var l) .nil))) .nil)) (.lst .nil))) .nil)) Γ = W.ok (.dict (sd (kvP (ms ++ [x]) (upF f x v)))) := by
  have lim_ : lim = 16777216 := rfl
  have kl : (kvP ms f).length ≤ 100 := by
    unfold kvP
    rw [List.length_map]
    have := List.length_filter_le (has f) ms
    omega
  have nd : ((kvP ms f ++ (if (!(v == "")) = true then [(x, PyData.str v)] else [])).map (·.1)).Nodup := by
    rw [← kvP_snoc hx]
    exact kvP_nd (List.nodup_append.mpr ⟨hn, by simp, fun a ha c hc z => hx (by rw [← List.mem_singleton.mp hc, ← z]; exact ha)⟩) _
  rw [kvP_snoc hx]
  by_cases h : (!(v == "")) = true
  · rw [if_pos h] at nd ⊢
    have a : binD .add (.list ((kvP ms f).map fun p => PyData.tuple [.str p.1, p.2])) (.list [.tuple [.str x, .str v]]) = some (.list ((kvP ms f ++ [(x, PyData.str v)]).map fun p => .tuple [.str p.1, p.2])) := by
      rw [v_addL, g_le (by rw [List.length_map]; show _ + 1 ≤ _; omega), List.map_append]
      rfl
    simp only [e_varT, e_varF, e_con, e_tup, e_lst, e_dct, e_bin, e_cat, e_neg, e_not, e_and, e_or, e_cmp, e_ite, e_idx, e_cut, e_bi, e_me, e_isi, e_call, e_nil, e_cons, e_o0, e_o1, e_if0, e_if1, evKV, st_nil, st_cons, st_asg, st_asgT, st_par, st_ret, st_brk, st_ite, b_ok, b_some, b_b, o_some, q_b, q_ok, q_some, s_g0, s_gs, s_pv, s_po, s_vv, v_addI, v_sub, v_mul, v_div, v_mod, v_pow, c_eqI, p_seq, p_keys, p_range, p_zip, p_enum, p_items, p_values, c_eqS, c_eqB, c_eqN, c_neI, c_neS, c_lt, c_gt, c_le, c_ge, c_isN, c_isnotN, n_none, n_int, n_bool, n_str, n_tup, n_list, n_dict, Bool.not_true, Bool.not_false, gd_t, f_int, f_abs, f_tupL, f_tupT, f_listL, f_listT, f_listD, f_min, f_max, l_list, l_tup, l_dict, w_list, w_tup, w_keys, t_bool, t_int, s_k0, s_kc, s_tn, Ly.fresh, Ly.freshL, setAll, List.set_cons_zero, List.set_cons_succ, if_true, if_false, Bool.false_eq_true, ite_true, ite_false, h1, h2, h3, sd_items, h, a, sd_dict nd]
  · rw [if_neg h] at nd ⊢
    have a : binD .add (.list ((kvP ms f).map fun p => PyData.tuple [.str p.1, p.2])) (.list []) = some (.list ((kvP ms f ++ []).map fun p : Str × D => PyData.tuple [.str p.1, p.2])) := by
      rw [v_addL, g_le (by rw [List.length_map]; show _ + 0 ≤ _; omega), List.append_nil, List.append_nil]
    simp only [e_varT, e_varF, e_con, e_tup, e_lst, e_dct, e_bin, e_cat, e_neg, e_not, e_and, e_or, e_cmp, e_ite, e_idx, e_cut, e_bi, e_me, e_isi, e_call, e_nil, e_cons, e_o0, e_o1, e_if0, e_if1, evKV, st_nil, st_cons, st_asg, st_asgT, st_par, st_ret, st_brk, st_ite, b_ok, b_some, b_b, o_some, q_b, q_ok, q_some, s_g0, s_gs, s_pv, s_po, s_vv, v_addI, v_sub, v_mul, v_div, v_mod, v_pow, c_eqI, p_seq, p_keys, p_range, p_zip, p_enum, p_items, p_values, c_eqS, c_eqB, c_eqN, c_neI, c_neS, c_lt, c_gt, c_le, c_ge, c_isN, c_isnotN, n_none, n_int, n_bool, n_str, n_tup, n_list, n_dict, Bool.not_true, Bool.not_false, gd_t, f_int, f_abs, f_tupL, f_tupT, f_listL, f_listT, f_listD, f_min, f_max, l_list, l_tup, l_dict, w_list, w_tup, w_keys, t_bool, t_int, s_k0, s_kc, s_tn, Ly.fresh, Ly.freshL, setAll, List.set_cons_zero, List.set_cons_succ, if_true, if_false, Bool.false_eq_true, ite_true, ite_false, h1, h2, h3, sd_items, h, a, sd_dict nd]
/-- marks of a small row of values -/
def Good (f : Str → Str) : Prop := ∀ m, f m ∈ VS
theorem Good.val {f : Str → Str} (h : Good f) : Val f := fun m => VS_sh _ (h m)
theorem Good.up {f : Str → Str} (h : Good f) {x v : Str} (hv : v ∈ VS) : Good (upF f x v) := fun m => by
  unfold upF
  split
  · exact hv
  · exact h m
/-- what the law's things are -/
structure Gd (th : Str → Str → Str) : Prop where
  good : ∀ x, Good (th x)
  zone : ∀ x, th x "zone" = ""
theorem th_of {th : Str → Str → Str} (h : Gd th) (n : Nat) : Th (NM.take n) (NM.take n).reverse th where
  nd := NM_nd.sublist (List.take_sublist _ _)
  perm := List.reverse_perm _
  up := NM_up.sublist (by
    rw [List.reverse_sublist]
    exact List.take_sublist _ _)
  shn := fun x hx => NM_sh x (List.mem_of_mem_take hx)
  len := by
    rw [List.length_take]
    show min n 5 ≤ 6
    omega
  val := fun x => (h.good x).val
def M3 : List Str := ["kind", "size", "tint"]
theorem kv3 {f : Str → Str} (h : f "zone" = "") : kvP M3 f = kvV f := by
  show kvP M3 f = kvP (M3 ++ [("zone" : Str)]) f
  unfold kvP
  rw [List.filter_append]
  have : [("zone" : Str)].filter (has f) = [] := by
    rw [List.filter_cons]
    unfold has
    rw [h]
    rfl
  rw [this, List.append_nil]
theorem name_at {i : Nat} (h : i < 5) : ∃ s : Str, biD .str [.int (9 - (i : Int))] = some (.str s) ∧ binD .add (.str "t") (.str s) = some (.str (NM.getD i "")) := by
  match i, h with
  | 0, _ => exact ⟨"9", by rfl, by rfl⟩
  | 1, _ => exact ⟨"8", by rfl, by rfl⟩
  | 2, _ => exact ⟨"7", by rfl, by rfl⟩
  | 3, _ => exact ⟨"6", by rfl, by rfl⟩
  | 4, _ => exact ⟨"5", by rfl, by rfl⟩
theorem kvT_congr {nm : List Str} {a b : Str → Str → Str} (h : ∀ x ∈ nm, a x = b x) : kvT nm a = kvT nm b := List.map_congr_left fun x hx => by rw [h x hx]
theorem NM_snoc {i : Nat} (h : i < 5) : NM.take (i + 1) = NM.take i ++ [NM.getD i ""] ∧ NM.getD i "" ∉ NM.take i := by
  match i, h with
  | 0, _ => exact ⟨by decide +kernel, by decide +kernel⟩
  | 1, _ => exact ⟨by decide +kernel, by decide +kernel⟩
  | 2, _ => exact ⟨by decide +kernel, by decide +kernel⟩
  | 3, _ => exact ⟨by decide +kernel, by decide +kernel⟩
  | 4, _ => exact ⟨by decide +kernel, by decide +kernel⟩
end K02

set_option maxRecDepth 100000
set_option maxHeartbeats 4000000
/-! Every statement as one equation. -/
namespace Ly
open PySem
def stepF (cf : Nat → List D → W D) (t : Tg) (ks : List Nat) (b : Ss) : D → Ko → Env → Prop := fun d κ' Γ' => ∃ Γ'', tgB t d (kill ks Γ') = some Γ'' ∧ evSs cf b κ' Γ''
def loopK (κ : Ko) (ks : List Nat) : Ko := { κ with nx := fun Γ' => κ.nx (kill ks Γ') }
def ownOf : Sl → Option D
  | .own d => some d
  | _ => none
def ownL : Sl → Option (List D)
  | .own (.list ds) => some ds
  | _ => none
def ownK : Sl → Option (List (D × D))
  | .own (.dict ds) => some ds
  | _ => none
def nextD (x : D) : W D := W.bind (W.opt (intD x)) fun n => fun Q => 0 < n ∧ n < 1073741824 ∧ ∀ r : Nat, (r : Int) < n → Q (.int r)
section
variable {cf : Nat → List D → W D} {p : Bool} {Γ : Env} {κ : Ko}
theorem u_for (t : Tg) (k : Ik) (es : Es) (ks : List Nat) (b : Ss) : evS cf (.for t k es ks b) κ Γ = (evEs cf false es Γ) fun as => W.opt (walkD k as) fun items => forL (stepF cf t ks b) (loopK κ ks) items Γ := rfl
theorem u_frz (i : Nat) : evS cf (.freeze i) κ Γ = W.opt (ownOf (get Γ i)) fun d => κ.nx (Γ.set i (.val d)) := by
  apply propext
  constructor
  · rintro ⟨d, e, h⟩
    exact ⟨d, by rw [e]; rfl, h⟩
  · rintro ⟨d, e, h⟩
    refine ⟨d, ?_, h⟩
    cases q : get Γ i <;> rw [q] at e <;> cases e
    rfl
theorem ownL_get {s : Sl} {ds : List D} (h : ownL s = some ds) : s = .own (.list ds) := by
  cases s with
  | own d => cases d <;> cases h; rfl
  | _ => cases h
theorem ownK_get {s : Sl} {ds : List (D × D)} (h : ownK s = some ds) : s = .own (.dict ds) := by
  cases s with
  | own d => cases d <;> cases h; rfl
  | _ => cases h
theorem gd_q {b : Bool} {Q : Unit → Prop} : W.opt (gd b ()) Q = (b = true ∧ Q ()) := by
  apply propext
  cases b with
  | true => exact ⟨fun ⟨_, _, h⟩ => ⟨rfl, h⟩, fun h => ⟨(), rfl, h.2⟩⟩
  | false => exact ⟨fun ⟨_, e, _⟩ => (by cases e), fun h => (by cases h.1)⟩
theorem u_app (i : Nat) (e : E) : evS cf (.append i e) κ Γ = W.opt (ownL (get Γ i)) fun ds => (ev cf false e Γ) fun y => W.opt (gd (decide (ds.length < lim)) ()) fun _ => κ.nx (Γ.set i (.own (.list (ds ++ [y])))) := by
  simp only [gd_q, decide_eq_true_eq]
  apply propext
  constructor
  · rintro ⟨ds, e, h⟩
    exact ⟨ds, by rw [e]; rfl, h⟩
  · rintro ⟨d, e, h⟩
    exact ⟨d, ownL_get e, h⟩
def listOf : D → Option (List D)
  | .list ds => some ds
  | _ => none
theorem u_ext (i : Nat) (e : E) : evS cf (.extend i e) κ Γ = W.opt (ownL (get Γ i)) fun ds => (ev cf true e Γ) fun y => W.opt (listOf y) fun es => W.opt (gd (decide (ds.length + es.length ≤ lim)) ()) fun _ => κ.nx (Γ.set i (.own (.list (ds ++ es)))) := by
  simp only [gd_q, decide_eq_true_eq]
  have q : ∀ (y : D) (P : List D → Prop), W.opt (listOf y) P = ∃ es, y = .list es ∧ P es := fun y P => by
    apply propext
    constructor
    · rintro ⟨es, e, h⟩
      cases y <;> cases e
      exact ⟨_, rfl, h⟩
    · rintro ⟨es, rfl, h⟩
      exact ⟨es, rfl, h⟩
  simp only [q]
  apply propext
  constructor
  · rintro ⟨ds, e, h⟩
    exact ⟨ds, by rw [e]; rfl, h⟩
  · rintro ⟨d, e, h⟩
    exact ⟨d, ownL_get e, h⟩
theorem u_put (i : Nat) (k v : E) : evS cf (.put i k v) κ Γ = W.opt (ownK (get Γ i)) fun kvs => (ev cf false v Γ) fun y => (ev cf false k Γ) fun x => W.opt (gd (keyB x) ()) fun _ => W.opt (gd (decide (kvs.length < lim)) ()) fun _ => κ.nx (Γ.set i (.own (.dict (putD kvs x y)))) := by
  simp only [gd_q, decide_eq_true_eq]
  apply propext
  constructor
  · rintro ⟨ds, e, h⟩
    exact ⟨ds, by rw [e]; rfl, h⟩
  · rintro ⟨d, e, h⟩
    exact ⟨d, ownK_get e, h⟩
theorem u_aug (i : Nat) (o : Bop) (e : E) : evS cf (.aug i o e) κ Γ = W.opt ((vals (get Γ i)).bind intD) fun m => (ev cf false e Γ) fun y => W.opt (intD y) fun n => W.opt (binD o (.int m) (.int n)) fun z => κ.nx (Γ.set i (.val z)) := by
  have q : ∀ (y : D) (P : Int → Prop), W.opt (intD y) P = ∃ n, y = .int n ∧ P n := fun y P => by
    apply propext
    constructor
    · rintro ⟨es, e, h⟩
      cases y <;> cases e
      exact ⟨_, rfl, h⟩
    · rintro ⟨es, rfl, h⟩
      exact ⟨es, rfl, h⟩
  simp only [q]
  apply propext
  constructor
  · rintro ⟨ds, e, h⟩
    exact ⟨ds, by rw [e]; rfl, h⟩
  · rintro ⟨d, e, h⟩
    refine ⟨d, ?_, h⟩
    cases g : get Γ i with
    | val x =>
      rw [g] at e
      have e : intD x = some d := e
      cases x <;> cases e
      rfl
    | _ => rw [g] at e; cases e
theorem u_lset (i : Nat) (k v : E) : evS cf (.lset i k v) κ Γ = W.opt (ownL (get Γ i)) fun ds => (ev cf false v Γ) fun y => (ev cf false k Γ) fun x => W.opt ((intD x).bind (ixN ds.length)) fun j => κ.nx (Γ.set i (.own (.list (ds.set j y)))) := by
  have q : ∀ (x : D) (n : Nat) (P : Nat → Prop), W.opt ((intD x).bind (ixN n)) P = ∃ m j, x = .int m ∧ ixN n m = some j ∧ P j := fun x n P => by
    apply propext
    constructor
    · rintro ⟨j, e, h⟩
      cases x with
      | int m => exact ⟨m, j, rfl, e, h⟩
      | _ => cases e
    · rintro ⟨m, j, rfl, e, h⟩
      exact ⟨j, e, h⟩
  simp only [q]
  apply propext
  constructor
  · rintro ⟨ds, e, h⟩
    exact ⟨ds, by rw [e]; rfl, h⟩
  · rintro ⟨d, e, h⟩
    exact ⟨d, ownL_get e, h⟩
theorem u_callw (f i : Nat) (es : Es) : ev cf p (.call f (some i) es) Γ = W.bind (W.opt (gd (isObj (get Γ i)) ())) fun _ => W.bind (evEs cf false es Γ) fun ds => cf f ds := rfl
theorem u_next (i : Nat) (a : E) : ev cf p (.next i a) Γ = W.bind (W.opt (gd (isObj (get Γ i)) ())) fun _ => W.bind (ev cf false a Γ) nextD := by
  show W.bind _ _ = W.bind _ _
  congr 1
  funext _
  show W.bind _ _ = W.bind _ _
  congr 1
  funext x Q
  apply propext
  constructor
  · rintro ⟨n, rfl, h0, h1, h⟩
    exact ⟨n, rfl, h0, h1, fun r hr => h r (by omega) hr⟩
  · rintro ⟨n, e, h0, h1, h⟩
    cases x <;> cases e
    refine ⟨_, rfl, h0, h1, fun r r0 hr => ?_⟩
    have := h r.toNat (by omega)
    rwa [Int.toNat_of_nonneg r0] at this
theorem q_next (n : Int) (Q : D → Prop) : nextD (.int n) Q = (0 < n ∧ n < 1073741824 ∧ ∀ r : Nat, (r : Int) < n → Q (.int r)) := by
  unfold nextD
  rw [show intD (.int n) = some n from rfl, b_some]
theorem mg_nil : mergeD [] [] = [] := rfl
theorem q_if {c : Prop} [Decidable c] {m1 m2 : W D} {F : D → Prop} (P : D → Prop) (h1 : c → ∀ Q : D → Prop, (∀ d, P d → Q d) → m1 Q) (h2 : ¬ c → ∀ Q : D → Prop, (∀ d, P d → Q d) → m2 Q) (hF : ∀ d, P d → F d) : (if c then m1 else m2) F := by
  split
  · exact h1 ‹_› F hF
  · exact h2 ‹_› F hF
theorem capp_map {α : Type} {xs : List α} {e : α → D} (h : xs.length ≤ lim) : capp [] (xs.map e) = W.ok (xs.map e) := capp_ok (by rw [List.length_map]; exact h)
theorem capp_fmap {α : Type} {xs : List α} {p : α → Bool} {e : α → D} (h : xs.length ≤ lim) : capp [] ((xs.filter p).map e) = W.ok ((xs.filter p).map e) := capp_map (Nat.le_trans (List.length_filter_le _ _) h)
/-- what a range goes through -/
def rgN (n : Nat) (enc : Nat → D) : List D := (List.range n).map enc
def flatQ (n : Nat) (g : (k : Nat) → k < n → List D → W (List D)) (acc : List D) : W (List D) := flatP (List.range n) (fun k h acc => g k (List.mem_range.mp h) acc) acc
theorem flatQ_map (f : D → List D → W (List D)) (enc : Nat → D) (n : Nat) (acc : List D) : flatA f (rgN n enc) acc = flatQ n (fun x _ acc => f (enc x) acc) acc := flatP_map f enc _ acc
theorem flatQ_capp (f : Nat → List D) (n : Nat) (acc : List D) : flatQ n (fun x _ acc => capp acc (f x)) acc = capp acc ((List.range n).flatMap f) := flatP_capp f _ acc
theorem u_rg (b : Int) (h1 : -4611686018427387904 ≤ b) (h2 : b < 4611686018427387904) : walkD .range [.int b] = some (rgN b.toNat fun k => .int (k : Nat)) := w_rg b h1 h2
theorem u_rg2 (a b : Int) (h1 : -4611686018427387904 ≤ b) (h2 : b < 4611686018427387904) (h3 : -4611686018427387904 ≤ a) (h4 : a < 4611686018427387904) : walkD .range [.int a, .int b] = some (rgN (b - a).toNat fun k => .int (a + (k : Nat))) := w_rg2 a b h1 h2 h3 h4
theorem capp_rg {n : Nat} {e : Nat → D} (h : n ≤ lim) : capp [] ((List.range n).map e) = W.ok ((List.range n).map e) := capp_map (by rw [List.length_range]; exact h)
theorem capp_frg {n : Nat} {p : Nat → Bool} {e : Nat → D} (h : n ≤ lim) : capp [] (((List.range n).filter p).map e) = W.ok (((List.range n).filter p).map e) := capp_fmap (by rw [List.length_range]; exact h)
theorem v_divP {a b : Int} (h1 : 0 < b) (h2 : b < 1073741824) : binD .fdiv (.int a) (.int b) = some (.int (a / b)) := by rw [v_div, decide_eq_true h1, decide_eq_true h2]; rfl
theorem v_modP {a b : Int} (h1 : 0 < b) : binD .mod (.int a) (.int b) = some (.int (a % b)) := by rw [v_mod, decide_eq_true h1]; rfl
theorem v_mulR {a b : Int} (h1 : -9223372036854775808 ≤ b) (h2 : b ≤ 9223372036854775808) : binD .mul (.int a) (.int b) = some (.int (a * b)) := by
  rw [v_mul]
  unfold mulOk
  rw [decide_eq_true (p := b.natAbs < 18446744073709551616) (by omega), Bool.or_true]
  rfl
theorem v_mulA {a b : Int} (h1 : -9223372036854775808 ≤ a) (h2 : a ≤ 9223372036854775808) : binD .mul (.int a) (.int b) = some (.int (a * b)) := by
  rw [v_mul]
  unfold mulOk
  rw [decide_eq_true (p := a.natAbs < 18446744073709551616) (by omega), Bool.true_or]
  rfl
theorem g_lt {α : Type} {n : Nat} (h : n < lim) (a : α) : gd (decide (n < lim)) a = some a := by rw [decide_eq_true h]; rfl
theorem o_obj : isObj .obj = true := rfl
theorem o_own (d : D) : ownOf (.own d) = some d := rfl
theorem o_ownL (ds : List D) : ownL (.own (.list ds)) = some ds := rfl
theorem o_ownK (ds : List (D × D)) : ownK (.own (.dict ds)) = some ds := rfl
theorem o_lst (ds : List D) : listOf (.list ds) = some ds := rfl
theorem u_rev (a : E) : ev cf p (.rev a) Γ = W.bind (ev cf true a Γ) fun x => W.opt (revD x) := rfl
theorem u_cmp2 (o o2 : Cop) (a b c : E) : ev cf p (.cmp2 o o2 a b c) Γ = W.bind (ev cf true a Γ) fun x => W.bind (ev cf true b Γ) fun y => W.bind (W.opt (cmpD o x y)) fun k =>
      if k = true then W.bind (ev cf true c Γ) fun z => W.bind (W.opt (cmpD o2 y z)) fun c => W.ok (.bool c) else W.ok (.bool false) := by
  have q : ∀ y z, W.opt ((cmpD o2 y z).map PyData.bool) = W.bind (W.opt (cmpD o2 y z)) fun c => W.ok (.bool c) := fun y z => by
    funext Q
    show (∃ b, (cmpD o2 y z).map PyData.bool = some b ∧ Q b) = ∃ c, cmpD o2 y z = some c ∧ Q (.bool c)
    cases cmpD o2 y z <;> simp
  simp only [← q]
  rfl
/-- a loop by what holds at its turns -/
theorem for_I {α : Type} {items : List D} (xs : List α) (enc : α → D) {t : Tg} {ks : List Nat} {b : Ss} (I : Nat → Env → Prop) (hx : items = xs.map enc) (h0 : I 0 (kill ks Γ))
    (hs : ∀ (i : Nat) (x : α), xs[i]? = some x → ∀ Γ, I i Γ → ∀ κ' : Ko, (∀ Γ', I (i + 1) (kill ks Γ') → κ'.nx Γ') → κ'.ct = κ'.nx → κ'.rt = κ.rt → (∀ Γ', κ.nx (kill ks Γ') → κ'.bk Γ') → W.opt (tgB t (enc x) Γ) (evSs cf b κ'))
    (he : ∀ Γ, I xs.length Γ → κ.nx Γ) : forL (stepF cf t ks b) (loopK κ ks) items Γ := by
  subst hx
  exact forL_Q I xs hs he h0
/-- a loop as a fold -/
theorem for_F {α σ : Type} {items : List D} (xs : List α) (enc : α → D) {t : Tg} {ks : List Nat} {b : Ss} (S : σ → Env) (f : σ → α → σ) (s0 : σ) (P : Nat → σ → Prop) (hx : items = xs.map enc) (h0 : kill ks Γ = S s0) (p0 : P 0 s0)
    (hs : ∀ (i : Nat) (x : α), xs[i]? = some x → ∀ s, P i s → P (i + 1) (f s x) ∧ ∀ κ' : Ko, (∀ Γ', kill ks Γ' = S (f s x) → κ'.nx Γ') → κ'.ct = κ'.nx → W.opt (tgB t (enc x) (S s)) (evSs cf b κ'))
    (he : P xs.length (xs.foldl f s0) → κ.nx (S (xs.foldl f s0))) : forL (stepF cf t ks b) (loopK κ ks) items Γ := by
  refine for_I xs enc (fun i Γ => Γ = S ((xs.take i).foldl f s0) ∧ P i ((xs.take i).foldl f s0)) hx ⟨h0, p0⟩ (fun i x hx Γ hI κ' h1 h2 _ _ => ?_) fun Γ hI => ?_
  · obtain ⟨rfl, hP⟩ := hI
    have e : (xs.take (i + 1)).foldl f s0 = f ((xs.take i).foldl f s0) x := by
      obtain ⟨hl, e⟩ := List.getElem?_eq_some_iff.mp hx
      rw [List.take_succ_eq_append_getElem hl, List.foldl_append, e]
      rfl
    have := hs i x hx _ hP
    exact this.2 κ' (fun Γ' h => h1 Γ' ⟨by rw [e]; exact h, by rw [e]; exact this.1⟩) h2
  · rw [List.take_length] at hI
    obtain ⟨rfl, hP⟩ := hI
    exact he hP
/-- a loop over nothing known but its length; the turns draw -/
theorem for_N {α : Type} {items : List D} (xs : List α) (enc : α → D) {t : Tg} {ks : List Nat} {b : Ss} (I : Env → Prop) (hx : items = xs.map enc) (h0 : I (kill ks Γ))
    (hs : ∀ x, x ∈ xs → ∀ Γ, I Γ → ∀ κ' : Ko, (∀ Γ', I (kill ks Γ') → κ'.nx Γ') → κ'.ct = κ'.nx → κ'.rt = κ.rt → (∀ Γ', κ.nx (kill ks Γ') → κ'.bk Γ') → W.opt (tgB t (enc x) Γ) (evSs cf b κ'))
    (he : ∀ Γ, I Γ → κ.nx Γ) : forL (stepF cf t ks b) (loopK κ ks) items Γ :=
  for_I xs enc (fun _ => I) hx h0 (fun i x hx => hs x (List.mem_of_getElem? hx)) he
/-- a loop that changes nothing -/
theorem for_K {α : Type} {items : List D} (xs : List α) (enc : α → D) {t : Tg} {ks : List Nat} {b : Ss} (hx : items = xs.map enc)
    (hs : ∀ x, x ∈ xs → ∀ κ' : Ko, (∀ Γ', kill ks Γ' = kill ks Γ → κ'.nx Γ') → κ'.ct = κ'.nx → κ'.rt = κ.rt → W.opt (tgB t (enc x) (kill ks Γ)) (evSs cf b κ'))
    (he : κ.nx (kill ks Γ)) : forL (stepF cf t ks b) (loopK κ ks) items Γ :=
  for_N xs enc (fun Γ' => Γ' = kill ks Γ) hx rfl (fun x hx Γ' e κ' h1 h2 h3 _ => by rw [e]; exact hs x hx κ' h1 h2 h3) fun _ e => by rw [e]; exact he
end
theorem flatA_cons (f : D → List D → W (List D)) (d : D) (ds acc : List D) : flatA f (d :: ds) acc = W.bind (f d acc) fun a => flatA f ds a := rfl
theorem flatA_nil (f : D → List D → W (List D)) (acc : List D) : flatA f [] acc = capp acc [] := (capp_nil acc).symm
theorem capp_push {acc : List D} {d : D} (h : acc.length < lim) : capp acc [d] = W.ok (acc ++ [d]) := by
  unfold capp
  rw [if_pos (by rw [Bool.or_eq_true]; exact .inr (decide_eq_true (by show acc.length + 1 ≤ lim; omega))), o_some]
/-- items made by draws, of a kind -/
theorem flatP_T {α β : Type} (enc : β → D) (P : α → β → Prop) : ∀ (xs : List α) (g : (x : α) → x ∈ xs → List D → W (List D)) (acc : List D), (∀ x (hx : x ∈ xs) (acc : List D) (Q : List D → Prop), (∀ y, P x y → capp acc [enc y] Q) → g x hx acc Q) → acc.length + xs.length ≤ lim → ∀ Q : List D → Prop, (∀ ys : List β, ys.length = xs.length → (∀ (i : Nat) (x : α) (y : β), xs[i]? = some x → ys[i]? = some y → P x y) → Q (acc ++ ys.map enc)) → flatP xs g acc Q
  | [], _, acc, _, _, Q, hq => by
    have := hq [] rfl (fun i x d h => by cases h)
    rwa [List.map_nil, List.append_nil] at this
  | x :: xs, g, acc, h, hl, Q, hq => by
    rw [List.length_cons] at hl
    refine h x (by simp) acc _ fun y hy => ?_
    rw [capp_push (by omega)]
    refine flatP_T enc P xs _ (acc ++ [enc y]) (fun y hy => h y (by simp [hy])) (by rw [List.length_append]; show acc.length + 1 + _ ≤ _; omega) Q fun ys hn hr => ?_
    rw [List.append_assoc]
    refine hq (y :: ys) (by rw [List.length_cons, List.length_cons, hn]) fun i a e h1 h2 => ?_
    cases i with
    | zero =>
      cases h1
      cases h2
      exact hy
    | succ i => exact hr i a e h1 h2
theorem flatQ_T {β : Type} (enc : β → D) (P : β → Prop) (n : Nat) {g : (k : Nat) → k < n → List D → W (List D)} (h : ∀ x (hx : x < n) (acc : List D) (Q : List D → Prop), (∀ y, P y → capp acc [enc y] Q) → g x hx acc Q) (hl : n ≤ lim) {Q : List D → Prop} (hq : ∀ ys : List β, ys.length = n → (∀ y ∈ ys, P y) → Q (ys.map enc)) : flatQ n g [] Q := by
  refine flatP_T enc (fun _ y => P y) (List.range n) _ [] (fun x hx => h x (List.mem_range.mp hx)) (by rw [List.length_range]; show 0 + n ≤ lim; omega) Q fun ys hn hr => ?_
  rw [List.length_range] at hn
  refine hq ys hn fun y hy => ?_
  obtain ⟨i, hi, rfl⟩ := List.getElem_of_mem hy
  exact hr i i _ (by rw [List.getElem?_range (by omega)]) (List.getElem?_eq_getElem hi)
end Ly

set_option maxRecDepth 100000
set_option maxHeartbeats 4000000
/-! Dicts of rows; what is alike. -/
namespace Ly
open PySem
theorem okA_tup {n : Nat} {ds : List D} (h1 : ds.length ≤ 4000) (h : ∀ x ∈ ds, okA n x) : okA (n + 1) (.tuple ds) := ⟨h1, h⟩
theorem okA_lst {n : Nat} {ds : List D} (h1 : ds.length ≤ 4000) (h : ∀ x ∈ ds, okA n x) : okA (n + 1) (.list ds) := ⟨h1, h⟩
theorem okA_int {n : Nat} (i : Int) : okA (n + 1) (.int i) := trivial
theorem okA_str {n : Nat} (i : Str) : okA (n + 1) (.str i) := trivial
theorem okA_bool {n : Nat} (i : Bool) : okA (n + 1) (.bool i) := trivial
theorem okA_none {n : Nat} : okA (n + 1) .none := trivial
theorem okA_map {α : Type} {n : Nat} {xs : List α} {e : α → D} (h1 : xs.length ≤ 4000) (h : ∀ x ∈ xs, okA n (e x)) : okA (n + 1) (.tuple (xs.map e)) := okA_tup (by rw [List.length_map]; exact h1) fun x hx => by
  obtain ⟨y, hy, rfl⟩ := List.mem_map.mp hx
  exact h y hy
theorem okA_mapL {α : Type} {n : Nat} {xs : List α} {e : α → D} (h1 : xs.length ≤ 4000) (h : ∀ x ∈ xs, okA n (e x)) : okA (n + 1) (.list (xs.map e)) := okA_lst (by rw [List.length_map]; exact h1) fun x hx => by
  obtain ⟨y, hy, rfl⟩ := List.mem_map.mp hx
  exact h y hy
theorem okA_strs {n : Nat} {xs : List Str} (h : xs.length ≤ 4000) : okA (n + 2) (.tuple (xs.map .str)) := okA_map h fun _ _ => trivial
theorem okA_ints {n : Nat} {xs : List Int} (h : xs.length ≤ 4000) : okA (n + 2) (.tuple (xs.map .int)) := okA_map h fun _ _ => trivial
theorem okA_cons {n : Nat} {a : D} {ds : List D} (ha : okA n a) (h : okA (n + 1) (.tuple ds)) (h2 : ds.length < 4000) : okA (n + 1) (.tuple (a :: ds)) := ⟨by show ds.length + 1 ≤ 4000; omega, fun x hx => by
  rcases List.mem_cons.mp hx with rfl | hx
  · exact ha
  · exact h.2 x hx⟩
theorem okA_nil {n : Nat} : okA (n + 1) (.tuple []) := ⟨by show 0 ≤ 4000; omega, fun x hx => by cases hx⟩
theorem okA_one {n : Nat} {a : D} (ha : okA n a) : okA (n + 1) (.tuple [a]) := okA_cons ha okA_nil (by show 0 < 4000; omega)
theorem okA_two {n : Nat} {a b : D} (ha : okA n a) (hb : okA n b) : okA (n + 1) (.tuple [a, b]) := okA_cons ha (okA_one hb) (by show 1 < 4000; omega)
theorem okA_three {n : Nat} {a b c : D} (ha : okA n a) (hb : okA n b) (hc : okA n c) : okA (n + 1) (.tuple [a, b, c]) := okA_cons ha (okA_two hb hc) (by show 2 < 4000; omega)
theorem okA_four {n : Nat} {a b c d : D} (ha : okA n a) (hb : okA n b) (hc : okA n c) (hd : okA n d) : okA (n + 1) (.tuple [a, b, c, d]) := okA_cons ha (okA_three hb hc hd) (by show 3 < 4000; omega)
theorem okA_five {n : Nat} {a b c d e : D} (ha : okA n a) (hb : okA n b) (hc : okA n c) (hd : okA n d) (he : okA n e) : okA (n + 1) (.tuple [a, b, c, d, e]) := okA_cons ha (okA_four hb hc hd he) (by show 4 < 4000; omega)
theorem okA_six {n : Nat} {a b c d e f : D} (ha : okA n a) (hb : okA n b) (hc : okA n c) (hd : okA n d) (he : okA n e) (hf : okA n f) : okA (n + 1) (.tuple [a, b, c, d, e, f]) := okA_cons ha (okA_five hb hc hd he hf) (by show 5 < 4000; omega)
theorem sd_dict_map {xs : List Str} {v : Str → D} (h : xs.Nodup) : biD .dict [.list (xs.map fun x => .tuple [.str x, v x])] = some (.dict (sd (xs.map fun x => (x, v x)))) := by
  have := sd_dict (kvs := xs.map fun x => (x, v x)) (by rw [List.map_map]; show (xs.map fun x => x).Nodup; rw [List.map_id']; exact h)
  rw [List.map_map] at this
  exact this
theorem sd_idx_map {xs : List Str} {v : Str → D} {x : Str} (hx : x ∈ xs) : idxD (.dict (sd (xs.map fun x => (x, v x)))) (.str x) = some (v x) := by
  show (some () >>= fun _ => getD (sd _) (.str x)) = _
  show getD (sd _) (.str x) = _
  induction xs with
  | nil => cases hx
  | cons a r ih =>
    unfold getD sd
    rw [List.map_cons, List.map_cons, List.find?_cons]
    by_cases e : a = x
    · subst e
      simp [keyEq_str]
    · have q : (a == x) = false := by simpa using e
      simp only [keyEq_str, q]
      refine ih ?_
      rcases List.mem_cons.mp hx with h | h
      · exact absurd h.symm e
      · exact h
theorem ok_lay_tup {n : Nat} {ds : List D} (h : ∀ x ∈ ds, lay n x) : lay (n + 1) (.tuple ds) := lay_tup h
theorem g_le2 {n m : Nat} {α : Type} (h : n + m ≤ lim) (a : α) : gd (decide (n + m ≤ lim)) a = some a := by rw [decide_eq_true h]; rfl
theorem lt_gd {n : Nat} {α : Type} (h : n < lim) (a : α) : gd (decide (n < lim)) a = some a := by rw [decide_eq_true h]; rfl
theorem x_getL {α : Type} {xs : List α} {enc : α → D} (d : α) {i : Int} (h0 : 0 ≤ i) (h : i < xs.length) : idxD (.list (xs.map enc)) (.int i) = some (enc (xs.getD i.toNat d)) := by
  rw [x_list, List.length_map, x_int h0 h]
  show (xs.map enc)[i.toNat]? = _
  rw [List.getElem?_map, List.getD_eq_getElem?_getD, List.getElem?_eq_getElem (by omega)]
  rfl
theorem x_getT {α : Type} {xs : List α} {enc : α → D} (d : α) {i : Int} (h0 : 0 ≤ i) (h : i < xs.length) : idxD (.tuple (xs.map enc)) (.int i) = some (enc (xs.getD i.toNat d)) := x_getL d h0 h
theorem getD_mem {α : Type} {xs : List α} {d : α} {i : Nat} (h : i < xs.length) : xs.getD i d ∈ xs := by
  rw [List.getD_eq_getElem?_getD, List.getElem?_eq_getElem h]
  exact List.getElem_mem h
theorem drop_rg {α : Type} (d : α) (xs : List α) (m : Nat) : xs.drop m = (List.range (xs.length - m)).map fun j => xs.getD (m + j) d := by
  refine List.ext_getElem? fun i => ?_
  rw [List.getElem?_drop, List.getElem?_map]
  by_cases h : i < xs.length - m
  · rw [List.getElem?_range h, List.getElem?_eq_getElem (by omega)]
    show _ = some (xs.getD (m + i) d)
    rw [List.getD_eq_getElem?_getD, List.getElem?_eq_getElem (by omega)]
    rfl
  · rw [List.getElem?_eq_none (by omega), List.getElem?_eq_none (by rw [List.length_range]; omega)]
    rfl
end Ly

set_option maxRecDepth 100000
set_option maxHeartbeats 4000000
/-! Order of what is alike; what is in a list. -/
namespace Ly
open PySem
mutual
theorem alike_eqv : ∀ (x y : D), PySem.W.alike x y = true → PyData.eqv x y = true → x = y
  | .none, y, h, e => by cases y <;> simp [PySem.W.alike] at h <;> rfl
  | .bool a, y, h, e => by
    cases y <;> simp [PySem.W.alike] at h
    rename_i b
    cases a <;> cases b <;> first | rfl | (exfalso; revert e; decide)
  | .int a, y, h, e => by
    cases y <;> simp [PySem.W.alike] at h
    simp [PyData.eqv] at e
    rw [e]
  | .str a, y, h, e => by
    cases y <;> simp [PySem.W.alike] at h
    simp [PyData.eqv] at e
    rw [e]
  | .list xs, y, h, e => by
    cases y <;> simp [PySem.W.alike] at h
    simp only [PyData.eqv] at e
    rw [alikeAll_eqv xs _ h e]
  | .tuple xs, y, h, e => by
    cases y <;> simp [PySem.W.alike] at h
    simp only [PyData.eqv] at e
    rw [alikeAll_eqv xs _ h e]
  | .dict xs, y, h, e => by cases y <;> simp [PySem.W.alike] at h
theorem alikeAll_eqv : ∀ (xs ys : List D), PySem.W.alikeAll xs ys = true → PyData.eqvAll xs ys = true → xs = ys
  | [], [], _, _ => rfl
  | [], y :: ys, _, e => by simp [PyData.eqvAll] at e
  | x :: xs, [], h, e => by simp [PyData.eqvAll] at e
  | x :: xs, y :: ys, h, e => by
    simp only [PySem.W.alikeAll, Bool.and_eq_true] at h
    simp only [PyData.eqvAll, Bool.and_eq_true] at e
    rw [alike_eqv x y h.1 e.1, alikeAll_eqv xs ys h.2 e.2]
end
theorem alike_eqv_iff {x y : D} (h : PySem.W.alike x y = true) : PyData.eqv x y = true ↔ x = y :=
  ⟨alike_eqv x y h, fun e => by
    subst e
    exact PySem.W.eqv_refl_alike x h⟩

theorem lt_irr (x : D) : ltB x x = false := PyProof.Rows.lex_irrefl _
theorem lt_tr {x y z : D} (h : ltB x y = true) (h2 : ltB y z = true) : ltB x z = true := PyProof.Rows.lex_trans _ _ _ h h2
theorem lt_neg {x z : D} (y : D) (h : ltB x z = true) : ltB x y = true ∨ ltB y z = true := PyProof.Rows.lex_negTrans _ _ _ h
theorem lt_asy {x y : D} (h : ltB x y = true) : ltB y x = false := by
  cases q : ltB y x with
  | false => rfl
  | true =>
    have := lt_tr h q
    rw [lt_irr] at this
    cases this
theorem toks_inj {x y : D} (h : PySem.W.alike x y = true) (e : PySem.W.keyToks x = PySem.W.keyToks y) : x = y := by
  cases q : PyData.eqv x y with
  | true => exact alike_eqv x y h q
  | false =>
    have t := (PySem.W.toks_eqv x y h).2 q [] [.inl 0]
    rw [e, PySem.W.lex_pre] at t
    have i : PyProof.Rows.lexLt PyProof.Rows.itemOrd (PySem.W.keyToks y) (PySem.W.keyToks y) = false := PyProof.Rows.lex_irrefl _
    rw [i] at t
    cases t
theorem leB_anti {x y : D} (h : PySem.W.alike x y = true) (h1 : leB x y = true) (h2 : leB y x = true) : x = y := by
  have h1 : (!ltB y x) = true := h1
  have h2 : (!ltB x y) = true := h2
  rw [Bool.not_eq_true'] at h1 h2
  exact toks_inj h (PyProof.Rows.lex_total _ _ h2 h1)
/-- of two alike data one is less or they are the same -/
theorem lt_tri {x y : D} (h : PySem.W.alike x y = true) (hn : x ≠ y) : ltB x y = !ltB y x := by
  cases q : ltB y x with
  | true => exact lt_asy q
  | false =>
    cases q2 : ltB x y with
    | true => rfl
    | false => exact absurd (toks_inj h (PyProof.Rows.lex_total _ _ q2 q)) hn
theorem leB_iff {x y : D} : leB x y = true ↔ ltB y x = false := by
  show (!ltB y x) = true ↔ _
  rw [Bool.not_eq_true']
theorem leB_tr {x y z : D} (h : leB x y = true) (h2 : leB y z = true) : leB x z = true := by
  rw [leB_iff] at *
  cases q : ltB z x with
  | false => rfl
  | true =>
    rcases lt_neg y q with a | a
    · rw [h2] at a; cases a
    · rw [h] at a; cases a
theorem leB_tot (x y : D) : leB x y = true ∨ leB y x = true := by
  rw [leB_iff, leB_iff]
  cases q : ltB y x with
  | false => exact .inl rfl
  | true => exact .inr (lt_asy q)
theorem leB_rfl (x : D) : leB x x = true := by rw [leB_iff]; exact lt_irr x
/-! the least -/
theorem leastL_spec : ∀ (r : List D) (x : D), leastL ltB x r ∈ x :: r ∧ ∀ y ∈ x :: r, ltB y (leastL ltB x r) = false
  | [], x => ⟨by simp [leastL], fun y hy => by rw [List.mem_singleton.mp hy]; exact lt_irr x⟩
  | a :: r, x => by
    have e : leastL ltB x (a :: r) = leastL ltB (if ltB a x then a else x) r := rfl
    obtain ⟨h1, h2⟩ := leastL_spec r (if ltB a x then a else x)
    rw [e]
    refine ⟨?_, fun y hy => ?_⟩
    · rcases List.mem_cons.mp h1 with h | h
      · rw [h]
        split <;> simp
      · simp [h]
    · have hm := h2 _ (List.mem_cons_self ..)
      rcases List.mem_cons.mp hy with rfl | hy
      · cases q : ltB a y with
        | false => rw [q] at hm; exact hm
        | true =>
          rw [q] at hm
          cases q2 : ltB y (leastL ltB (if true = true then a else y) r) with
          | false => rfl
          | true =>
            exact nomatch (lt_tr q q2).symm.trans hm
      · rcases List.mem_cons.mp hy with rfl | hy
        · cases q : ltB y x with
          | true => rw [q] at hm; exact hm
          | false =>
            rw [q] at hm
            cases q2 : ltB y (leastL ltB (if false = true then y else x) r) with
            | false => rfl
            | true =>
              rcases lt_neg x q2 with a | a
              · rw [q] at a; cases a
              · exact nomatch a.symm.trans hm
        · exact h2 y (List.mem_cons_of_mem _ hy)
theorem leastL_uniq {r : List D} {x m : D} (ha : ∀ a ∈ x :: r, ∀ b ∈ x :: r, PySem.W.alike a b = true) (hm : m ∈ x :: r) (h : ∀ y ∈ x :: r, ltB y m = false) : leastL ltB x r = m := by
  obtain ⟨h1, h2⟩ := leastL_spec r x
  exact leB_anti (ha _ h1 _ hm) (leB_iff.mpr (h2 m hm) |> fun _ => leB_iff.mpr (h2 m hm)) (leB_iff.mpr (h _ h1))
/-! sorted -/
theorem sort_mem {ds : List D} {d : D} : d ∈ sortL ds ↔ d ∈ ds := (List.mergeSort_perm ds leB).mem_iff
theorem sort_perm (ds : List D) : (sortL ds).Perm ds := List.mergeSort_perm ds leB
theorem sort_len (ds : List D) : (sortL ds).length = ds.length := (sort_perm ds).length_eq
theorem sort_up (ds : List D) : (sortL ds).Pairwise fun a b => leB a b = true := by
  refine List.pairwise_mergeSort (le := leB) (fun a b c h1 h2 => leB_tr h1 h2) (fun a b => ?_) ds
  rw [Bool.or_eq_true]
  exact leB_tot a b
/-- alike data in order are one row -/
theorem up_uniq {ds es : List D} (ha : ∀ a ∈ ds, ∀ b ∈ ds, PySem.W.alike a b = true) (p : ds.Perm es) (h1 : ds.Pairwise fun a b => leB a b = true) (h2 : es.Pairwise fun a b => leB a b = true) : ds = es :=
  List.Perm.eq_of_pairwise (le := fun a b => leB a b = true) (fun a b h3 h4 h5 h6 => leB_anti (ha a h3 b (p.mem_iff.mpr h4)) h5 h6) h1 h2 p
theorem sort_uniq {ds es : List D} (ha : ∀ a ∈ ds, ∀ b ∈ ds, PySem.W.alike a b = true) (p : es.Perm ds) (h : es.Pairwise fun a b => leB a b = true) : sortL ds = es :=
  up_uniq (fun a h1 b h2 => ha a (sort_mem.mp h1) b (sort_mem.mp h2)) ((sort_perm ds).trans p.symm) (sort_up ds) h
theorem sort_congr {ds es : List D} (ha : ∀ a ∈ ds, ∀ b ∈ ds, PySem.W.alike a b = true) (p : es.Perm ds) : sortL ds = sortL es :=
  sort_uniq ha ((sort_perm es).trans p) (sort_up es)
theorem sort_id {ds : List D} (h : ds.Pairwise fun a b => leB a b = true) : sortL ds = ds := List.mergeSort_of_pairwise h
theorem alike_of {ds : List D} (h : sortOk ds = true) : ∀ a ∈ ds, ∀ b ∈ ds, PySem.W.alike a b = true := by
  unfold Ly.sortOk allAlike at h
  rw [Bool.and_eq_true, Bool.and_eq_true] at h
  intro a ha b hb
  exact List.all_eq_true.mp (List.all_eq_true.mp h.1.1 a ha) b hb
/-! tuples in order -/
theorem lt_tup {x y : D} {xs ys : List D} (h : PySem.W.alike x y = true) : ltB (.tuple (x :: xs)) (.tuple (y :: ys)) = if PyData.eqv x y = true then ltB (.tuple xs) (.tuple ys) else ltB x y := by
  show PySem.W.dataLt _ _ = _
  rw [PySem.W.dataLt_tuple, PySem.W.dataLt_cons h, ← PySem.W.dataLt_tuple]
  rfl
theorem lt_tupE {x : D} {xs ys : List D} (h : PySem.W.alike x x = true) : ltB (.tuple (x :: xs)) (.tuple (x :: ys)) = ltB (.tuple xs) (.tuple ys) := by
  rw [lt_tup h, if_pos ((alike_eqv_iff h).mpr rfl)]
theorem lt_tupN {x y : D} {xs ys : List D} (h : PySem.W.alike x y = true) (hn : x ≠ y) : ltB (.tuple (x :: xs)) (.tuple (y :: ys)) = ltB x y := by
  rw [lt_tup h, if_neg fun z => hn ((alike_eqv_iff h).mp z)]
theorem lt_int (x y : Int) : ltB (.int x) (.int y) = decide (x < y) := PySem.W.dataLt_int x y
theorem lt_nil : ltB (.tuple []) (.tuple []) = false := lt_irr _
theorem lt_tupI (x y : Int) (xs ys : List D) : ltB (.tuple (.int x :: xs)) (.tuple (.int y :: ys)) = if x = y then ltB (.tuple xs) (.tuple ys) else decide (x < y) := by
  by_cases e : x = y
  · subst e
    rw [if_pos rfl, lt_tupE rfl]
  · rw [if_neg e, lt_tupN rfl (fun z => e (by cases z; rfl)), lt_int]
/-! what is in a list -/
theorem lay_ints {α : Type} {xs : List α} {f : α → Int} : lay 1 (.list (xs.map fun x => .int (f x))) := lay_list fun d hd => by
  obtain ⟨x, _, rfl⟩ := List.mem_map.mp hd
  exact lay_int _
theorem mem_okI {α : Type} {xs : List α} {f : α → Int} (a : Int) : memOk (.int a) (xs.map fun x => .int (f x)) = true := by
  unfold memOk
  rw [sh_int, lay_sh lay_ints (by decide)]
  rfl
theorem c_inIM {α : Type} (xs : List α) (f : α → Int) (a : Int) : cmpD .isin (.int a) (.list (xs.map fun x => .int (f x))) = some (xs.any fun x => f x == a) := by
  rw [c_inL, mem_okI]
  show some (memD _ _) = _
  unfold memD
  rw [List.any_map]
  rfl
theorem is_emp {α β : Type} (xs : List α) (f : α → β) : (xs.map f).isEmpty = xs.isEmpty := by cases xs <;> rfl
theorem ne_nil {ds : List D} (h : sh (.list ds) = true) : cmpD .ne (.list ds) (.list []) = some (!ds.isEmpty) := by
  show (gd (sh (.list ds) && sh (.list [])) (PyData.eqv (.list ds) (.list []))).map (!·) = _
  rw [h]
  cases ds with
  | nil => rfl
  | cons a r => rfl
theorem eq_nil' {ds : List D} (h : sh (.list ds) = true) : cmpD .eq (.list ds) (.list []) = some ds.isEmpty := by
  show (gd (sh (.list ds) && sh (.list [])) (PyData.eqv (.list ds) (.list []))) = _
  rw [h]
  cases ds with
  | nil => rfl
  | cons a r => rfl
theorem ne_nilI {α : Type} (xs : List α) (f : α → Int) : cmpD .ne (.list (xs.map fun x => .int (f x))) (.list []) = some (!xs.isEmpty) := by rw [ne_nil (lay_sh lay_ints (by decide)), is_emp]
theorem eq_nilI {α : Type} (xs : List α) (f : α → Int) : cmpD .eq (.list (xs.map fun x => .int (f x))) (.list []) = some xs.isEmpty := by rw [eq_nil' (lay_sh lay_ints (by decide)), is_emp]
end Ly

set_option maxRecDepth 100000
set_option maxHeartbeats 4000000
/-! Least, greatest, sums, sets. -/
namespace Ly
open PySem
theorem ints_M {α : Type} (f : α → Int) : ∀ xs : List α, intsD (xs.map fun x => .int (f x)) = some (xs.map f)
  | [] => rfl
  | x :: xs => by
    rw [List.map_cons]
    show (intsD _).map _ = _
    rw [ints_M f xs]
    rfl
theorem bools_M {α : Type} (f : α → Bool) : ∀ xs : List α, boolsD (xs.map fun x => .bool (f x)) = some (xs.map f)
  | [] => rfl
  | x :: xs => by
    rw [List.map_cons]
    show (boolsD _).map _ = _
    rw [bools_M f xs]
    rfl
theorem sum_M {α : Type} (f : α → Int) (xs : List α) : biD .sum [.list (xs.map fun x => .int (f x))] = some (.int (xs.map f).sum) := by
  show (intsD _).map _ = _
  rw [ints_M]
  rfl
theorem any_M {α : Type} (f : α → Bool) (xs : List α) : biD .any [.list (xs.map fun x => .bool (f x))] = some (.bool (xs.any f)) := by
  show (boolsD _).map _ = _
  rw [bools_M]
  show some (PyData.bool ((xs.map f).any id)) = _
  rw [List.any_map]
  rfl
theorem all_M {α : Type} (f : α → Bool) (xs : List α) : biD .all [.list (xs.map fun x => .bool (f x))] = some (.bool (xs.all f)) := by
  show (boolsD _).map _ = _
  rw [bools_M]
  show some (PyData.bool ((xs.map f).all id)) = _
  rw [List.all_map]
  rfl
/-! least and greatest by any order -/
theorem leastL_G {lt : D → D → Bool} (irr : ∀ x, lt x x = false) (tr : ∀ x y z, lt x y = true → lt y z = true → lt x z = true) (ng : ∀ x y z, lt x z = true → lt x y = true ∨ lt y z = true) : ∀ (r : List D) (x : D), leastL lt x r ∈ x :: r ∧ ∀ y ∈ x :: r, lt y (leastL lt x r) = false
  | [], x => ⟨by simp [leastL], fun y hy => by rw [List.mem_singleton.mp hy]; exact irr x⟩
  | a :: r, x => by
    have e : leastL lt x (a :: r) = leastL lt (if lt a x then a else x) r := rfl
    obtain ⟨h1, h2⟩ := leastL_G irr tr ng r (if lt a x then a else x)
    rw [e]
    have key : ∀ y, lt (if lt a x = true then a else x) y = false ∨ lt y (leastL lt (if lt a x then a else x) r) = true ∨ lt y (leastL lt (if lt a x then a else x) r) = false := fun y => by cases lt y (leastL lt (if lt a x then a else x) r) <;> simp
    have hm := h2 _ (List.mem_cons_self ..)
    refine ⟨?_, fun y hy => ?_⟩
    · rcases List.mem_cons.mp h1 with h | h
      · rw [h]
        split <;> simp
      · simp [h]
    · have go : ∀ z, lt z (if lt a x = true then a else x) = false → lt z (leastL lt (if lt a x = true then a else x) r) = false := fun z hz => by
        cases q : lt z (leastL lt (if lt a x = true then a else x) r) with
        | false => rfl
        | true =>
          rcases ng _ (if lt a x = true then a else x) _ q with h | h
          · exact nomatch h.symm.trans hz
          · exact nomatch h.symm.trans hm
      rcases List.mem_cons.mp hy with rfl | hy
      · refine go y ?_
        split
        · rename_i q
          cases q2 : lt y a with
          | false => rfl
          | true => exact nomatch (tr _ _ _ q q2).symm.trans (irr a)
        · exact irr y
      · rcases List.mem_cons.mp hy with rfl | hy
        · refine go y ?_
          split
          · exact irr y
          · rename_i q
            simpa using q
        · exact h2 y (List.mem_cons_of_mem _ hy)
/-- of the same kind, each laid plainly -/
structure Same {α : Type} (xs : List α) (enc : α → D) : Prop where
  alike : ∀ a ∈ xs, ∀ b ∈ xs, PySem.W.alike (enc a) (enc b) = true
  sh : ∀ a ∈ xs, sh (enc a) = true
  ne : ∀ a ∈ xs, some_ (enc a) = true
theorem best_M {α : Type} {xs : List α} {enc : α → D} (s : Same xs enc) (hne : xs ≠ []) (lt : D → D → Bool) (irr : ∀ x, lt x x = false) (tr : ∀ x y z, lt x y = true → lt y z = true → lt x z = true) (ng : ∀ x y z, lt x z = true → lt x y = true ∨ lt y z = true) :
    ∃ m ∈ xs, best lt (.list (xs.map enc)) = some (enc m) ∧ best lt (.tuple (xs.map enc)) = some (enc m) ∧ ∀ y ∈ xs, lt (enc y) (enc m) = false := by
  cases xs with
  | nil => exact absurd rfl hne
  | cons x r =>
    obtain ⟨h1, h2⟩ := leastL_G irr tr ng (r.map enc) (enc x)
    have h1 : leastL lt (enc x) (r.map enc) ∈ (x :: r).map enc := h1
    obtain ⟨m, hm, e⟩ := List.mem_map.mp h1
    have a1 : allAlike ((x :: r).map enc) = true := List.all_eq_true.mpr fun a ha => List.all_eq_true.mpr fun b hb => by
      obtain ⟨p, hp, rfl⟩ := List.mem_map.mp ha
      obtain ⟨q, hq, rfl⟩ := List.mem_map.mp hb
      exact s.alike p hp q hq
    have a2 : ((x :: r).map enc).all Ly.sh = true := List.all_eq_true.mpr fun a ha => by
      obtain ⟨p, hp, rfl⟩ := List.mem_map.mp ha
      exact s.sh p hp
    have a3 : ((x :: r).map enc).all some_ = true := List.all_eq_true.mpr fun a ha => by
      obtain ⟨p, hp, rfl⟩ := List.mem_map.mp ha
      exact s.ne p hp
    refine ⟨m, hm, ?_, ?_, fun y hy => ?_⟩
    · show gd (allAlike ((x :: r).map enc) && ((x :: r).map enc).all Ly.sh && ((x :: r).map enc).all some_) (leastL lt (enc x) (r.map enc)) = _
      rw [a1, a2, a3, e]
      rfl
    · show gd (allAlike ((x :: r).map enc) && ((x :: r).map enc).all Ly.sh && ((x :: r).map enc).all some_) (leastL lt (enc x) (r.map enc)) = _
      rw [a1, a2, a3, e]
      rfl
    · have := h2 (enc y) (List.mem_map.mpr ⟨y, hy, rfl⟩ : enc y ∈ (x :: r).map enc)
      rwa [← e] at this
theorem min_M {α : Type} {xs : List α} {enc : α → D} (s : Same xs enc) (hne : xs ≠ []) :
    ∃ m ∈ xs, biD .min [.list (xs.map enc)] = some (enc m) ∧ biD .min [.tuple (xs.map enc)] = some (enc m) ∧ ∀ y ∈ xs, ltB (enc y) (enc m) = false :=
  best_M s hne ltB lt_irr (fun _ _ _ => lt_tr) fun _ y _ => lt_neg y
theorem max_M {α : Type} {xs : List α} {enc : α → D} (s : Same xs enc) (hne : xs ≠ []) :
    ∃ m ∈ xs, biD .max [.list (xs.map enc)] = some (enc m) ∧ biD .max [.tuple (xs.map enc)] = some (enc m) ∧ ∀ y ∈ xs, ltB (enc m) (enc y) = false :=
  best_M s hne (fun a b => ltB b a) lt_irr (fun _ _ _ h1 h2 => lt_tr h2 h1) fun _ y _ h => (lt_neg y h).symm
theorem same_int {α : Type} (xs : List α) (f : α → Int) : Same xs fun x => .int (f x) := ⟨fun _ _ _ _ => rfl, fun _ _ => sh_int _, fun _ _ => rfl⟩
theorem min_I {α : Type} {xs : List α} (f : α → Int) (hne : xs ≠ []) : ∃ m ∈ xs, biD .min [.list (xs.map fun x => .int (f x))] = some (.int (f m)) ∧ biD .min [.tuple (xs.map fun x => .int (f x))] = some (.int (f m)) ∧ ∀ y ∈ xs, f m ≤ f y := by
  obtain ⟨m, hm, e1, e2, h⟩ := min_M (same_int xs f) hne
  refine ⟨m, hm, e1, e2, fun y hy => ?_⟩
  have := h y hy
  rw [lt_int, decide_eq_false_iff_not] at this
  omega
theorem max_I {α : Type} {xs : List α} (f : α → Int) (hne : xs ≠ []) : ∃ m ∈ xs, biD .max [.list (xs.map fun x => .int (f x))] = some (.int (f m)) ∧ biD .max [.tuple (xs.map fun x => .int (f x))] = some (.int (f m)) ∧ ∀ y ∈ xs, f y ≤ f m := by
  obtain ⟨m, hm, e1, e2, h⟩ := max_M (same_int xs f) hne
  refine ⟨m, hm, e1, e2, fun y hy => ?_⟩
  have := h y hy
  rw [lt_int, decide_eq_false_iff_not] at this
  omega
/-! sorted(set(..)) of numbers -/
theorem sset_ints {xs : List Int} (hl : xs.length < 4000) : ∃ ys : List Int, biD .sortedSet [.list (xs.map .int)] = some (.list (ys.map .int)) ∧ biD .sortedSet [.tuple (xs.map .int)] = some (.list (ys.map .int)) ∧ (∀ x, x ∈ ys ↔ x ∈ xs) ∧ ys.Pairwise (· < ·) ∧ ys.length ≤ xs.length := by
  have hk : ∀ x ∈ xs.map PyData.int, keyB x = true := fun x hx => by
    obtain ⟨m, _, rfl⟩ := List.mem_map.mp hx
    rfl
  have so : setOk (xs.map .int) = true := by
    unfold setOk
    rw [Bool.and_eq_true, Bool.and_eq_true, Bool.or_eq_true]
    refine ⟨⟨decide_eq_true (by rw [List.length_map]; exact hl), List.all_eq_true.mpr fun a ha => ?_⟩, .inl (List.all_eq_true.mpr fun a ha => ?_)⟩
    · obtain ⟨x, hx, rfl⟩ := List.mem_map.mp ha
      exact sh_int x
    · obtain ⟨x, hx, rfl⟩ := List.mem_map.mp ha
      rfl
  have all_int : ∀ d ∈ sortL (onceL (xs.map .int)), ∃ i, d = .int i ∧ i ∈ xs := fun d hd => by
    obtain ⟨i, hi, rfl⟩ := List.mem_map.mp ((onceL_mem hk).mp (sort_mem.mp hd))
    exact ⟨i, rfl, hi⟩
  have ex : ∀ ds : List D, (∀ d ∈ ds, ∃ i, d = .int i ∧ i ∈ xs) → ∃ ys : List Int, ds = ys.map .int := fun ds => by
    induction ds with
    | nil => exact fun _ => ⟨[], rfl⟩
    | cons d r ih =>
      intro h
      obtain ⟨ys, rfl⟩ := ih fun d hd => h d (by simp [hd])
      obtain ⟨i, rfl, _⟩ := h d (by simp)
      exact ⟨i :: ys, rfl⟩
  obtain ⟨ys, e⟩ := ex _ all_int
  have inj : ∀ x, (PyData.int x ∈ ys.map PyData.int ↔ x ∈ ys) := fun x => by
    rw [List.mem_map]
    exact ⟨fun ⟨y, h, z⟩ => by cases z; exact h, fun h => ⟨x, h, rfl⟩⟩
  have inj2 : ∀ x, (PyData.int x ∈ xs.map PyData.int ↔ x ∈ xs) := fun x => by
    rw [List.mem_map]
    exact ⟨fun ⟨y, h, z⟩ => by cases z; exact h, fun h => ⟨x, h, rfl⟩⟩
  refine ⟨ys, ?_, ?_, fun x => ?_, ?_, ?_⟩
  · show gd (setOk _) (PyData.list (sortL (onceL _))) = _
    rw [so, e]
    rfl
  · show gd (setOk _) (PyData.list (sortL (onceL _))) = _
    rw [so, e]
    rfl
  · rw [← inj, ← e, sort_mem, onceL_mem hk, inj2]
  · have up := sort_up (onceL (xs.map .int))
    have nd : (sortL (onceL (xs.map .int))).Nodup := (sort_perm _).nodup_iff.mpr (onceL_nodup hk)
    rw [e] at up nd
    have up := List.pairwise_map.mp up
    have nd := List.pairwise_map.mp nd
    refine (List.Pairwise.and up nd).imp fun {a b} h => ?_
    obtain ⟨h1, h2⟩ := h
    rw [leB_int, decide_eq_true_eq] at h1
    have : a ≠ b := fun z => h2 (by rw [z])
    omega
  · have l1 : ys.length = (onceL (xs.map PyData.int)).length := by rw [← sort_len, e, List.length_map]
    rw [l1]
    have : ∀ ds : List D, (onceL ds).length ≤ ds.length := fun ds => by
      induction ds with
      | nil => exact Nat.le_refl _
      | cons d r ih =>
        show ((d :: (onceL r).filter _)).length ≤ _
        rw [List.length_cons, List.length_cons]
        have := List.length_filter_le (fun y => !keyEq d y) (onceL r)
        omega
    have := this (xs.map .int)
    rwa [List.length_map] at this
theorem up_int {xs ys : List Int} (h1 : xs.Pairwise (· < ·)) (h2 : ys.Pairwise (· < ·)) (h : ∀ x, x ∈ xs ↔ x ∈ ys) : xs = ys := by
  have n1 : xs.Nodup := h1.imp fun h => by omega
  have n2 : ys.Nodup := h2.imp fun h => by omega
  exact List.Perm.eq_of_pairwise (le := fun a b => a < b) (fun a b _ _ p q => by omega) h1 h2 ((List.perm_ext_iff_of_nodup n1 n2).mpr h)
/-- sorted(..) of numbers that stand in order -/
theorem sorted_up {xs : List Int} (h : xs.Pairwise (· ≤ ·)) (hl : xs.length ≤ lim) : biD .sorted [.list (xs.map .int)] = some (.list (xs.map .int)) :=
  sorted_of rfl (sortOk_ints xs) (by rw [List.length_map]; exact hl) (sort_id (List.pairwise_map.mpr (h.imp fun h => by rw [leB_int]; exact decide_eq_true h)))
def rgI (a b : Int) : List Int := (List.range (b - a).toNat).map fun k => a + (k : Nat)
theorem rgI_D (a b : Int) : rangeL a b = (rgI a b).map .int := by
  unfold rangeL rgI
  rw [List.map_map]
  rfl
theorem rgI_mem {a b x : Int} : x ∈ rgI a b ↔ a ≤ x ∧ x < b := by
  unfold rgI
  rw [List.mem_map]
  constructor
  · rintro ⟨k, hk, rfl⟩
    have := List.mem_range.mp hk
    omega
  · rintro ⟨h1, h2⟩
    exact ⟨(x - a).toNat, List.mem_range.mpr (by omega), by omega⟩
theorem rgI_up (a b : Int) : (rgI a b).Pairwise (· < ·) := by
  unfold rgI
  rw [List.pairwise_map]
  exact List.pairwise_lt_range.imp fun h => by omega
theorem rgI_len (a b : Int) : (rgI a b).length = (b - a).toNat := by
  unfold rgI
  rw [List.length_map, List.length_range]
theorem ne_nil0 (xs : List Int) : cmpD .ne (.list (xs.map .int)) (.list []) = some (!xs.isEmpty) := ne_nilI xs fun x => x
theorem eq_nil0 (xs : List Int) : cmpD .eq (.list (xs.map .int)) (.list []) = some xs.isEmpty := eq_nilI xs fun x => x
theorem max2 (a b : Int) : biD .max [.list [.int a, .int b]] = some (.int (if a < b then b else a)) := by
  have e : leastL (fun a b => ltB b a) (.int a) [.int b] = .int (if a < b then b else a) := by
    show (if ltB (.int a) (.int b) = true then PyData.int b else .int a) = _
    rw [lt_int]
    by_cases h : a < b
    · rw [if_pos (decide_eq_true h), if_pos h]
    · rw [if_neg (by simpa using h), if_neg h]
  show gd (allAlike [.int a, .int b] && [PyData.int a, .int b].all sh && [PyData.int a, .int b].all some_) (leastL (fun a b => ltB b a) (.int a) [.int b]) = _
  rw [e]
  have : [PyData.int a, .int b].all sh = true := by simp [sh_int]
  rw [this]
  rfl
theorem min2 (a b : Int) : biD .min [.list [.int a, .int b]] = some (.int (if b < a then b else a)) := by
  have e : leastL ltB (.int a) [.int b] = .int (if b < a then b else a) := by
    show (if ltB (.int b) (.int a) = true then PyData.int b else .int a) = _
    rw [lt_int]
    by_cases h : b < a
    · rw [if_pos (decide_eq_true h), if_pos h]
    · rw [if_neg (by simpa using h), if_neg h]
  show gd (allAlike [.int a, .int b] && [PyData.int a, .int b].all sh && [PyData.int a, .int b].all some_) (leastL ltB (.int a) [.int b]) = _
  rw [e]
  have : [PyData.int a, .int b].all sh = true := by simp [sh_int]
  rw [this]
  rfl
theorem same_II {α : Type} (xs : List α) (f g : α → Int) : Same xs fun x => .tuple [.int (f x), .int (g x)] := ⟨fun a _ b _ => by simp [PySem.W.alike, PySem.W.alikeAll], fun a _ => lay_sh (n := 1) (lay_tup fun d hd => by
  rcases List.mem_cons.mp hd with rfl | hd
  · exact lay_int _
  · rw [List.mem_singleton.mp hd]; exact lay_int _) (by decide), fun _ _ => rfl⟩
/-! dicts made of rows of keys -/
theorem keyEq_iff {a b : D} (ha : keyB a = true) : keyEq a b = true ↔ a = b := by
  cases a <;> cases ha <;> cases b <;> simp [keyEq]
theorem hasD_iff {kvs : List (D × D)} {k : D} (h : ∀ p ∈ kvs, keyB p.1 = true) : hasD kvs k = true ↔ k ∈ kvs.map (·.1) := by
  unfold hasD
  rw [List.any_eq_true, List.mem_map]
  constructor
  · rintro ⟨p, hp, e⟩
    exact ⟨p, hp, (keyEq_iff (h p hp)).mp e⟩
  · rintro ⟨p, hp, e⟩
    exact ⟨p, hp, (keyEq_iff (h p hp)).mpr e⟩
theorem putD_keys {kvs : List (D × D)} {k v : D} (_h : ∀ p ∈ kvs, keyB p.1 = true) : (putD kvs k v).map (·.1) = if hasD kvs k = true then kvs.map (·.1) else kvs.map (·.1) ++ [k] := by
  unfold putD
  by_cases q : hasD kvs k = true
  · rw [if_pos q, if_pos q, List.map_map]
    refine List.map_congr_left fun p _ => ?_
    show (if keyEq p.1 k = true then (p.1, v) else p).1 = p.1
    split <;> rfl
  · rw [if_neg q, if_neg q, List.map_append]
    rfl
theorem putD_kb {kvs : List (D × D)} {k v : D} (h : ∀ p ∈ kvs, keyB p.1 = true) (hk : keyB k = true) : ∀ p ∈ putD kvs k v, keyB p.1 = true := by
  unfold putD
  split
  · intro p hp
    obtain ⟨q, hq, rfl⟩ := List.mem_map.mp hp
    split
    · exact h q hq
    · exact h q hq
  · intro p hp
    rcases List.mem_append.mp hp with hp | hp
    · exact h p hp
    · rw [List.mem_singleton.mp hp]; exact hk
theorem mergeD_spec : ∀ (more kvs : List (D × D)), (∀ p ∈ kvs, keyB p.1 = true) → (∀ p ∈ more, keyB p.1 = true) → (kvs.map (·.1)).Nodup → (∀ p ∈ mergeD kvs more, keyB p.1 = true) ∧ ((mergeD kvs more).map (·.1)).Nodup ∧ (∀ k, k ∈ (mergeD kvs more).map (·.1) ↔ k ∈ kvs.map (·.1) ∨ k ∈ more.map (·.1)) ∧ (mergeD kvs more).length ≤ kvs.length + more.length
  | [], kvs, h1, _, h3 => ⟨h1, h3, fun k => by simp [mergeD], Nat.le_refl _⟩
  | p :: r, kvs, h1, h2, h3 => by
    have hk := putD_keys (k := p.1) (v := p.2) h1
    have kb := putD_kb (k := p.1) (v := p.2) h1 (h2 p (by simp))
    have nd : ((putD kvs p.1 p.2).map (·.1)).Nodup := by
      rw [hk]
      split
      · exact h3
      · rename_i q
        have q := fun z => q ((hasD_iff h1).mpr z)
        exact List.nodup_append.mpr ⟨h3, by simp, fun a ha b hb z => q (by rw [← List.mem_singleton.mp hb, ← z]; exact ha)⟩
    obtain ⟨a, b, c, d⟩ := mergeD_spec r (putD kvs p.1 p.2) kb (fun q hq => h2 q (by simp [hq])) nd
    have e : mergeD kvs (p :: r) = mergeD (putD kvs p.1 p.2) r := rfl
    rw [e]
    refine ⟨a, b, fun k => ?_, ?_⟩
    · rw [c, hk, List.map_cons, List.mem_cons]
      split
      · rename_i q
        have q := (hasD_iff h1).mp q
        constructor
        · rintro (h | h)
          · exact .inl h
          · exact .inr (.inr h)
        · rintro (h | h | h)
          · exact .inl h
          · rw [h]; exact .inl q
          · exact .inr h
      · rw [List.mem_append, List.mem_singleton]
        constructor
        · rintro ((h | h) | h)
          · exact .inl h
          · exact .inr (.inl h)
          · exact .inr (.inr h)
        · rintro (h | h | h)
          · exact .inl (.inl h)
          · exact .inl (.inr h)
          · exact .inr h
    · refine Nat.le_trans d ?_
      have : (putD kvs p.1 p.2).length ≤ kvs.length + 1 := by
        have := congrArg List.length hk
        rw [List.length_map] at this
        rw [this]
        split
        · rw [List.length_map]; omega
        · rw [List.length_append, List.length_map]; exact Nat.le_refl _
      rw [List.length_cons]
      omega
theorem pairs_M {α : Type} (f g : α → D) : ∀ xs : List α, pairs (xs.map fun x => .tuple [f x, g x]) = some (xs.map fun x => (f x, g x))
  | [] => rfl
  | x :: r => by
    rw [List.map_cons]
    show (pairs _).map _ = _
    rw [pairs_M f g r]
    rfl
/-- sorted(dict([(x, v) for x in xs])) of numbers -/
theorem sdict_ints {xs : List Int} (g : Int → D) (hl : xs.length ≤ lim) : ∃ kvs, biD .dict [.list (xs.map fun x => .tuple [.int x, g x])] = some (.dict kvs) ∧ ∃ ys : List Int, biD .sorted [.dict kvs] = some (.list (ys.map .int)) ∧ (∀ x, x ∈ ys ↔ x ∈ xs) ∧ ys.Pairwise (· < ·) ∧ ys.length ≤ xs.length := by
  have hk : ∀ p ∈ xs.map (fun x => (PyData.int x, g x)), keyB p.1 = true := fun p hp => by
    obtain ⟨x, _, rfl⟩ := List.mem_map.mp hp
    rfl
  obtain ⟨a, b, c, d⟩ := mergeD_spec (xs.map fun x => (PyData.int x, g x)) [] (fun p hp => by cases hp) hk List.nodup_nil
  refine ⟨mergeD [] (xs.map fun x => (PyData.int x, g x)), ?_, ?_⟩
  · show ((pairs _).bind _) = _
    rw [pairs_M (fun x => .int x) g]
    show gd ((xs.map fun x => (PyData.int x, g x)).all fun p => keyB p.1) _ = _
    rw [List.all_eq_true.mpr hk]
    rfl
  · have ex : ∀ ds : List D, (∀ d ∈ ds, ∃ i, d = .int i ∧ i ∈ xs) → ∃ ys : List Int, ds = ys.map .int := fun ds => by
      induction ds with
      | nil => exact fun _ => ⟨[], rfl⟩
      | cons d r ih =>
        intro h
        obtain ⟨ys, rfl⟩ := ih fun d hd => h d (by simp [hd])
        obtain ⟨i, rfl, _⟩ := h d (by simp)
        exact ⟨i :: ys, rfl⟩
    have mem : ∀ d, d ∈ (mergeD [] (xs.map fun x => (PyData.int x, g x))).map (·.1) ↔ ∃ i, d = .int i ∧ i ∈ xs := fun d => by
      rw [c, List.map_map]
      constructor
      · rintro (h | h)
        · cases h
        · obtain ⟨i, hi, rfl⟩ := List.mem_map.mp h
          exact ⟨i, rfl, hi⟩
      · rintro ⟨i, rfl, hi⟩
        exact .inr (List.mem_map.mpr ⟨i, hi, rfl⟩)
    obtain ⟨zs, ez⟩ := ex _ fun d hd => (mem d).mp hd
    obtain ⟨ys, e⟩ := ex (sortL ((mergeD [] (xs.map fun x => (PyData.int x, g x))).map (·.1))) fun d hd => (mem d).mp (sort_mem.mp hd)
    have inj : ∀ (l : List Int) x, (PyData.int x ∈ l.map PyData.int ↔ x ∈ l) := fun l x => by
      rw [List.mem_map]
      exact ⟨fun ⟨y, h, z⟩ => by cases z; exact h, fun h => ⟨x, h, rfl⟩⟩
    have l0 : (mergeD [] (xs.map fun x => (PyData.int x, g x))).length ≤ xs.length := by simpa using d
    refine ⟨ys, ?_, fun x => ?_, ?_, ?_⟩
    · refine sorted_of rfl ?_ (by rw [List.length_map]; omega) e
      rw [ez]
      exact sortOk_ints zs
    · rw [← inj, ← e, sort_mem, mem]
      exact ⟨fun ⟨i, h, hi⟩ => by cases h; exact hi, fun h => ⟨x, rfl, h⟩⟩
    · have up := sort_up ((mergeD [] (xs.map fun x => (PyData.int x, g x))).map (·.1))
      have nd : (sortL ((mergeD [] (xs.map fun x => (PyData.int x, g x))).map (·.1))).Nodup := (sort_perm _).nodup_iff.mpr b
      rw [e] at up nd
      have up := List.pairwise_map.mp up
      have nd := List.pairwise_map.mp nd
      refine (List.Pairwise.and up nd).imp fun {a b} h => ?_
      obtain ⟨h1, h2⟩ := h
      rw [leB_int, decide_eq_true_eq] at h1
      have : a ≠ b := fun z => h2 (by rw [z])
      omega
    · have : ys.length = (mergeD [] (xs.map fun x => (PyData.int x, g x))).length := by
        rw [← List.length_map (f := PyData.int), ← e, sort_len, List.length_map]
      omega
end Ly

set_option maxRecDepth 100000
set_option maxHeartbeats 4000000
namespace K02
open PySem Ly
theorem lit_M3 : [PyData.str (Str.ofString "kind"), .str (Str.ofString "size"), .str (Str.ofString "tint")] = M3.map .str := rfl
theorem put_T {i : Nat} {th : Str → Str → Str} {f : Str → Str} (hi : i < 5) (hz : f "zone" = "") : putD (sd (kvT (NM.take i) th)) (.str (NM.getD i "")) (.dict (sd (kvP M3 f))) = sd (kvT (NM.take (i + 1)) fun x => if x = NM.getD i "" then f else th x) := by
  obtain ⟨e1, e2⟩ := NM_snoc hi
  rw [kv3 hz, sd_put, e1]
  · unfold kvT
    rw [List.map_append]
    have : (NM.take i).map (fun x => (x, dV (if x = NM.getD i "" then f else th x))) = (NM.take i).map fun x => (x, dV (th x)) := List.map_congr_left fun x hx => by
      rw [if_neg fun z => e2 (by rw [← z]; exact hx)]
    rw [this]
    simp [dV]
  · intro p hp z
    obtain ⟨x, hx, rfl⟩ := List.mem_map.mp hp
    exact e2 (by rw [← z]; exact hx)
theorem vals6 {Q : D → Prop} (h : ∀ v ∈ VS, Q (.str v)) : ∀ d ∈ [PyData.str "", .str "a", .str "b", .str "a", .str "b", .str "c"], Q d := by
  intro d hd
  simp only [List.mem_cons, List.not_mem_nil, or_false] at hd
  rcases hd with rfl | rfl | rfl | rfl | rfl | rfl
  · exact h _ (by simp [VS])
  · exact h _ (by simp [VS])
  · exact h _ (by simp [VS])
  · exact h _ (by simp [VS])
  · exact h _ (by simp [VS])
  · exact h _ (by simp [VS])
theorem grow2 {ms : List Str} {x v : Str} {f : Str → Str} (hn : ms.Nodup) (hx : x ∉ ms) (hl : ms.length ≤ 100) :
    binD .add (.list ((kvP ms f).map fun p => PyData.tuple [.str p.1, p.2])) (.list (if (!(v == "")) = true then [.tuple [.str x, .str v]] else [])) = some (.list ((kvP (ms ++ [x]) (upF f x v)).map fun p => PyData.tuple [.str p.1, p.2])) ∧
    biD .dict [.list ((kvP (ms ++ [x]) (upF f x v)).map fun p => PyData.tuple [.str p.1, p.2])] = some (.dict (sd (kvP (ms ++ [x]) (upF f x v)))) := by
  have lim_ := lim_v
  have kl : (kvP ms f).length ≤ 100 := by
    unfold kvP
    rw [List.length_map]
    have := List.length_filter_le (has f) ms
    omega
  refine ⟨?_, sd_dict (kvP_nd (List.nodup_append.mpr ⟨hn, by simp, fun a ha c hc z => hx (by rw [← List.mem_singleton.mp hc, ← z]; exact ha)⟩) _)⟩
  rw [kvP_snoc hx]
  split
  · rw [v_addL, g_le (by rw [List.length_map]; show _ + 1 ≤ _; omega), List.map_append]
    rfl
  · rw [v_addL, g_le (by rw [List.length_map]; show _ + 0 ≤ _; omega), List.append_nil, List.append_nil]
theorem ok_things {Q : D → Prop} (k : Nat) (h : ∀ n th, n ≤ 5 → Gd th → Q (dT (NM.take n) th)) : cfN T (k + 2) 20 [.int 5] Q := by
  refine call_to (f := g__law_things) rfl rfl fun κ hκ => ?_
  show evSs _ _ _ [.obj, .val (.int 5), .non, .non, .non, .non, .non]
  simp -implicitDefEqProofs (maxSteps := 4000000) (disch := first | assumption | omega | decide | (simp only [List.length_map, List.length_append, List.length_cons, List.length_nil, List.length_range, List.length_drop, List.length_take, List.length_reverse]; omega)) only [e_varT, e_varF, e_con, e_tup, e_lst, e_dct, e_bin, e_cat, e_neg, e_not, e_and, e_or, e_cmp, u_cmp2, e_ite, e_idx, e_cut, u_rev, e_bi, e_me, e_isi, e_call, u_callw, u_next, q_next, e_nil, e_cons, e_o0, e_o1, e_if0, e_if1, evKV, st_nil, st_cons, st_asg, st_asgT, st_par, st_ret, st_brk, st_ite, u_for, u_frz, u_app, u_ext, u_put, u_aug, u_lset, o_obj, o_own, o_ownL, o_ownK, o_lst, b_ok, b_some, b_b, o_some, q_b, q_ok, q_some, s_g0, s_gs, s_pv, s_po, s_vv, v_addI, v_sub, v_mulR, v_mulA, v_divP, v_modP, v_pow, c_eqI, p_seq, p_keys, p_range, p_zip, p_enum, p_items, p_values, c_eqS, c_eqB, c_eqN, c_neI, c_neS, c_lt, c_gt, c_le, c_ge, c_isN, c_isnotN, n_none, n_int, n_bool, n_str, n_tup, n_list, n_dict, Bool.not_true, Bool.not_false, gd_t, f_int, f_abs, f_tupL, f_tupT, f_listL, f_listT, f_listD, f_min, f_max, l_list, l_tup, l_dict, w_list, w_tup, w_keys, t_bool, t_int, s_k0, s_kc, s_tn, Ly.fresh, Ly.freshL, setAll, List.set_cons_zero, List.set_cons_succ, if_true, if_false, Bool.false_eq_true, ite_true, ite_false, List.all_nil, mg_nil, e_comp, e_elt, e_gen, capp_ite, flatP_map, flatP_capp, flatA_cons, flatA_nil, capp_bind, List.cons_append, List.nil_append, fm_one, fm_if, fm_ifs, ap_nil, i_ok, i_some, i_int, i_str, i_bool, i_list, i_tup, i_and, i_or, u_rg, u_rg2, flatQ_map, flatQ_capp, Int.toNat_natCast, List.length_range, capp_rg, capp_frg, g_len, g_lt, Bool.and_true, Bool.true_and, Bool.and_false, Bool.false_and, Bool.or_true, Bool.true_or, Bool.or_false, Bool.false_or, capp_map, capp_fmap, capp_ok,  List.length_map, List.length_append, List.length_cons, List.length_nil, g__law_things]
  refine ⟨by omega, by omega, fun r hr => ?_⟩
  refine q_if (fun d => ∃ n : Nat, n ≤ 5 ∧ d = .int n) (fun _ Q hQ => ?_) (fun _ Q hQ => ?_) ?_
  · simp -implicitDefEqProofs (maxSteps := 4000000) (disch := first | assumption | omega | decide | (simp only [List.length_map, List.length_append, List.length_cons, List.length_nil, List.length_range, List.length_drop, List.length_take, List.length_reverse]; omega)) only [e_varT, e_varF, e_con, e_tup, e_lst, e_dct, e_bin, e_cat, e_neg, e_not, e_and, e_or, e_cmp, u_cmp2, e_ite, e_idx, e_cut, u_rev, e_bi, e_me, e_isi, e_call, u_callw, u_next, q_next, e_nil, e_cons, e_o0, e_o1, e_if0, e_if1, evKV, st_nil, st_cons, st_asg, st_asgT, st_par, st_ret, st_brk, st_ite, u_for, u_frz, u_app, u_ext, u_put, u_aug, u_lset, o_obj, o_own, o_ownL, o_ownK, o_lst, b_ok, b_some, b_b, o_some, q_b, q_ok, q_some, s_g0, s_gs, s_pv, s_po, s_vv, v_addI, v_sub, v_mulR, v_mulA, v_divP, v_modP, v_pow, c_eqI, p_seq, p_keys, p_range, p_zip, p_enum, p_items, p_values, c_eqS, c_eqB, c_eqN, c_neI, c_neS, c_lt, c_gt, c_le, c_ge, c_isN, c_isnotN, n_none, n_int, n_bool, n_str, n_tup, n_list, n_dict, Bool.not_true, Bool.not_false, gd_t, f_int, f_abs, f_tupL, f_tupT, f_listL, f_listT, f_listD, f_min, f_max, l_list, l_tup, l_dict, w_list, w_tup, w_keys, t_bool, t_int, s_k0, s_kc, s_tn, Ly.fresh, Ly.freshL, setAll, List.set_cons_zero, List.set_cons_succ, if_true, if_false, Bool.false_eq_true, ite_true, ite_false, List.all_nil, mg_nil, e_comp, e_elt, e_gen, capp_ite, flatP_map, flatP_capp, flatA_cons, flatA_nil, capp_bind, List.cons_append, List.nil_append, fm_one, fm_if, fm_ifs, ap_nil, i_ok, i_some, i_int, i_str, i_bool, i_list, i_tup, i_and, i_or, u_rg, u_rg2, flatQ_map, flatQ_capp, Int.toNat_natCast, List.length_range, capp_rg, capp_frg, g_len, g_lt, Bool.and_true, Bool.true_and, Bool.and_false, Bool.false_and, Bool.or_true, Bool.true_or, Bool.or_false, Bool.false_or, capp_map, capp_fmap, capp_ok,  List.length_map, List.length_append, List.length_cons, List.length_nil]
    refine ⟨by omega, by omega, fun r2 hr2 => ?_⟩
    exact hQ _ ⟨r2 + 1, by omega, rfl⟩
  · exact hQ _ ⟨0, by omega, rfl⟩
  · rintro _ ⟨n, hn, rfl⟩
    simp -implicitDefEqProofs (maxSteps := 4000000) (disch := first | assumption | omega | decide | (simp only [List.length_map, List.length_append, List.length_cons, List.length_nil, List.length_range, List.length_drop, List.length_take, List.length_reverse]; omega)) only [e_varT, e_varF, e_con, e_tup, e_lst, e_dct, e_bin, e_cat, e_neg, e_not, e_and, e_or, e_cmp, u_cmp2, e_ite, e_idx, e_cut, u_rev, e_bi, e_me, e_isi, e_call, u_callw, u_next, q_next, e_nil, e_cons, e_o0, e_o1, e_if0, e_if1, evKV, st_nil, st_cons, st_asg, st_asgT, st_par, st_ret, st_brk, st_ite, u_for, u_frz, u_app, u_ext, u_put, u_aug, u_lset, o_obj, o_own, o_ownL, o_ownK, o_lst, b_ok, b_some, b_b, o_some, q_b, q_ok, q_some, s_g0, s_gs, s_pv, s_po, s_vv, v_addI, v_sub, v_mulR, v_mulA, v_divP, v_modP, v_pow, c_eqI, p_seq, p_keys, p_range, p_zip, p_enum, p_items, p_values, c_eqS, c_eqB, c_eqN, c_neI, c_neS, c_lt, c_gt, c_le, c_ge, c_isN, c_isnotN, n_none, n_int, n_bool, n_str, n_tup, n_list, n_dict, Bool.not_true, Bool.not_false, gd_t, f_int, f_abs, f_tupL, f_tupT, f_listL, f_listT, f_listD, f_min, f_max, l_list, l_tup, l_dict, w_list, w_tup, w_keys, t_bool, t_int, s_k0, s_kc, s_tn, Ly.fresh, Ly.freshL, setAll, List.set_cons_zero, List.set_cons_succ, if_true, if_false, Bool.false_eq_true, ite_true, ite_false, List.all_nil, mg_nil, e_comp, e_elt, e_gen, capp_ite, flatP_map, flatP_capp, flatA_cons, flatA_nil, capp_bind, List.cons_append, List.nil_append, fm_one, fm_if, fm_ifs, ap_nil, i_ok, i_some, i_int, i_str, i_bool, i_list, i_tup, i_and, i_or, u_rg, u_rg2, flatQ_map, flatQ_capp, Int.toNat_natCast, List.length_range, capp_rg, capp_frg, g_len, g_lt, Bool.and_true, Bool.true_and, Bool.and_false, Bool.false_and, Bool.or_true, Bool.true_or, Bool.or_false, Bool.false_or, capp_map, capp_fmap, capp_ok,  List.length_map, List.length_append, List.length_cons, List.length_nil, Int.toNat_natCast]
    refine for_I (List.range n) (fun k => .int (k : Nat)) (fun i Γ => ∃ th, Gd th ∧ Γ = [.obj, .val (.int 5), .own (dT (NM.take i) th), .non, .non, .non, .non]) rfl ⟨fun _ _ => "", ⟨fun _ _ => by simp [VS], fun _ => rfl⟩, rfl⟩ ?_ ?_
    · intro i x hx Γ hI κ' h1 h2 h3 h4
      obtain ⟨th, hg, rfl⟩ := hI
      obtain ⟨hl, hx⟩ := List.getElem?_eq_some_iff.mp hx
      rw [List.length_range] at hl
      rw [List.getElem_range] at hx
      subst hx
      simp -implicitDefEqProofs (maxSteps := 4000000) (disch := first | assumption | omega | decide | (simp only [List.length_map, List.length_append, List.length_cons, List.length_nil, List.length_range, List.length_drop, List.length_take, List.length_reverse]; omega)) only [e_varT, e_varF, e_con, e_tup, e_lst, e_dct, e_bin, e_cat, e_neg, e_not, e_and, e_or, e_cmp, u_cmp2, e_ite, e_idx, e_cut, u_rev, e_bi, e_me, e_isi, e_call, u_callw, u_next, q_next, e_nil, e_cons, e_o0, e_o1, e_if0, e_if1, evKV, st_nil, st_cons, st_asg, st_asgT, st_par, st_ret, st_brk, st_ite, u_for, u_frz, u_app, u_ext, u_put, u_aug, u_lset, o_obj, o_own, o_ownL, o_ownK, o_lst, b_ok, b_some, b_b, o_some, q_b, q_ok, q_some, s_g0, s_gs, s_pv, s_po, s_vv, v_addI, v_sub, v_mulR, v_mulA, v_divP, v_modP, v_pow, c_eqI, p_seq, p_keys, p_range, p_zip, p_enum, p_items, p_values, c_eqS, c_eqB, c_eqN, c_neI, c_neS, c_lt, c_gt, c_le, c_ge, c_isN, c_isnotN, n_none, n_int, n_bool, n_str, n_tup, n_list, n_dict, Bool.not_true, Bool.not_false, gd_t, f_int, f_abs, f_tupL, f_tupT, f_listL, f_listT, f_listD, f_min, f_max, l_list, l_tup, l_dict, w_list, w_tup, w_keys, t_bool, t_int, s_k0, s_kc, s_tn, Ly.fresh, Ly.freshL, setAll, List.set_cons_zero, List.set_cons_succ, if_true, if_false, Bool.false_eq_true, ite_true, ite_false, List.all_nil, mg_nil, e_comp, e_elt, e_gen, capp_ite, flatP_map, flatP_capp, flatA_cons, flatA_nil, capp_bind, List.cons_append, List.nil_append, fm_one, fm_if, fm_ifs, ap_nil, i_ok, i_some, i_int, i_str, i_bool, i_list, i_tup, i_and, i_or, u_rg, u_rg2, flatQ_map, flatQ_capp, Int.toNat_natCast, List.length_range, capp_rg, capp_frg, g_len, g_lt, Bool.and_true, Bool.true_and, Bool.and_false, Bool.false_and, Bool.or_true, Bool.true_or, Bool.or_false, Bool.false_or, capp_map, capp_fmap, capp_ok,  List.length_map, List.length_append, List.length_cons, List.length_nil]
      refine for_I M3 .str (fun j Γ => ∃ f, Good f ∧ f "zone" = "" ∧ Γ = [.obj, .val (.int 5), .own (dT (NM.take i) th), .val (.int (i : Nat)), .val (.dict (sd (kvP (M3.take j) f))), .non, .non]) rfl ⟨fun _ => "", fun _ => by simp [VS], rfl, rfl⟩ ?_ ?_
      · intro j m hm Γ hI κ2 g1 g2 g3 g4
        obtain ⟨f, hf, hz, rfl⟩ := hI
        obtain ⟨hj, hm⟩ := List.getElem?_eq_some_iff.mp hm
        simp -implicitDefEqProofs (maxSteps := 4000000) (disch := first | assumption | omega | decide | (simp only [List.length_map, List.length_append, List.length_cons, List.length_nil, List.length_range, List.length_drop, List.length_take, List.length_reverse]; omega)) only [e_varT, e_varF, e_con, e_tup, e_lst, e_dct, e_bin, e_cat, e_neg, e_not, e_and, e_or, e_cmp, u_cmp2, e_ite, e_idx, e_cut, u_rev, e_bi, e_me, e_isi, e_call, u_callw, u_next, q_next, e_nil, e_cons, e_o0, e_o1, e_if0, e_if1, evKV, st_nil, st_cons, st_asg, st_asgT, st_par, st_ret, st_brk, st_ite, u_for, u_frz, u_app, u_ext, u_put, u_aug, u_lset, o_obj, o_own, o_ownL, o_ownK, o_lst, b_ok, b_some, b_b, o_some, q_b, q_ok, q_some, s_g0, s_gs, s_pv, s_po, s_vv, v_addI, v_sub, v_mulR, v_mulA, v_divP, v_modP, v_pow, c_eqI, p_seq, p_keys, p_range, p_zip, p_enum, p_items, p_values, c_eqS, c_eqB, c_eqN, c_neI, c_neS, c_lt, c_gt, c_le, c_ge, c_isN, c_isnotN, n_none, n_int, n_bool, n_str, n_tup, n_list, n_dict, Bool.not_true, Bool.not_false, gd_t, f_int, f_abs, f_tupL, f_tupT, f_listL, f_listT, f_listD, f_min, f_max, l_list, l_tup, l_dict, w_list, w_tup, w_keys, t_bool, t_int, s_k0, s_kc, s_tn, Ly.fresh, Ly.freshL, setAll, List.set_cons_zero, List.set_cons_succ, if_true, if_false, Bool.false_eq_true, ite_true, ite_false, List.all_nil, mg_nil, e_comp, e_elt, e_gen, capp_ite, flatP_map, flatP_capp, flatA_cons, flatA_nil, capp_bind, List.cons_append, List.nil_append, fm_one, fm_if, fm_ifs, ap_nil, i_ok, i_some, i_int, i_str, i_bool, i_list, i_tup, i_and, i_or, u_rg, u_rg2, flatQ_map, flatQ_capp, Int.toNat_natCast, List.length_range, capp_rg, capp_frg, g_len, g_lt, Bool.and_true, Bool.true_and, Bool.and_false, Bool.false_and, Bool.or_true, Bool.true_or, Bool.or_false, Bool.false_or, capp_map, capp_fmap, capp_ok,  List.length_map, List.length_append, List.length_cons, List.length_nil]
        refine ok_pick (by simp) (by simp) (vals6 fun v hv => ?_) k
        have nd : ∀ j : Fin 3, (M3.take j ++ [M3.getD j ""]).Nodup ∧ M3.take (j + 1) = M3.take j ++ [M3.getD j ""] ∧ M3.getD j "" ≠ "zone" := by decide +kernel
        obtain ⟨nd, e, hz2⟩ := nd ⟨j, hj⟩
        have hm : M3.getD j "" = m := by rw [List.getD_eq_getElem?_getD, List.getElem?_eq_getElem hj, hm]; rfl
        simp only [hm] at nd e hz2
        rw [List.nodup_append] at nd
        have jl : (M3.take j).length ≤ 100 := by rw [List.length_take]; show min j 3 ≤ 100; omega
        obtain ⟨gr1, gr2⟩ := grow2 (f := f) (v := v) nd.1 (x := m) (fun z => nd.2.2 _ z _ (List.mem_singleton.mpr rfl) rfl) jl
        simp -implicitDefEqProofs (maxSteps := 4000000) (disch := first | assumption | omega | decide | (simp only [List.length_map, List.length_append, List.length_cons, List.length_nil, List.length_range, List.length_drop, List.length_take, List.length_reverse]; omega)) only [e_varT, e_varF, e_con, e_tup, e_lst, e_dct, e_bin, e_cat, e_neg, e_not, e_and, e_or, e_cmp, u_cmp2, e_ite, e_idx, e_cut, u_rev, e_bi, e_me, e_isi, e_call, u_callw, u_next, q_next, e_nil, e_cons, e_o0, e_o1, e_if0, e_if1, evKV, st_nil, st_cons, st_asg, st_asgT, st_par, st_ret, st_brk, st_ite, u_for, u_frz, u_app, u_ext, u_put, u_aug, u_lset, o_obj, o_own, o_ownL, o_ownK, o_lst, b_ok, b_some, b_b, o_some, q_b, q_ok, q_some, s_g0, s_gs, s_pv, s_po, s_vv, v_addI, v_sub, v_mulR, v_mulA, v_divP, v_modP, v_pow, c_eqI, p_seq, p_keys, p_range, p_zip, p_enum, p_items, p_values, c_eqS, c_eqB, c_eqN, c_neI, c_neS, c_lt, c_gt, c_le, c_ge, c_isN, c_isnotN, n_none, n_int, n_bool, n_str, n_tup, n_list, n_dict, Bool.not_true, Bool.not_false, gd_t, f_int, f_abs, f_tupL, f_tupT, f_listL, f_listT, f_listD, f_min, f_max, l_list, l_tup, l_dict, w_list, w_tup, w_keys, t_bool, t_int, s_k0, s_kc, s_tn, Ly.fresh, Ly.freshL, setAll, List.set_cons_zero, List.set_cons_succ, if_true, if_false, Bool.false_eq_true, ite_true, ite_false, List.all_nil, mg_nil, e_comp, e_elt, e_gen, capp_ite, flatP_map, flatP_capp, flatA_cons, flatA_nil, capp_bind, List.cons_append, List.nil_append, fm_one, fm_if, fm_ifs, ap_nil, i_ok, i_some, i_int, i_str, i_bool, i_list, i_tup, i_and, i_or, u_rg, u_rg2, flatQ_map, flatQ_capp, Int.toNat_natCast, List.length_range, capp_rg, capp_frg, g_len, g_lt, Bool.and_true, Bool.true_and, Bool.and_false, Bool.false_and, Bool.or_true, Bool.true_or, Bool.or_false, Bool.false_or, capp_map, capp_fmap, capp_ok,  List.length_map, List.length_append, List.length_cons, List.length_nil, sd_items, gr1, gr2]
        refine g1 _ ⟨upF f m v, hf.up hv, ?_, ?_⟩
        · unfold upF
          rw [if_neg fun z => hz2 z.symm, hz]
        · rw [e]
          rfl
      · rintro Γ ⟨f, hf, hz, rfl⟩
        obtain ⟨s, e1, e2⟩ := name_at (show i < 5 by omega)
        have len : (sd (kvT (NM.take i) th)).length ≤ 5 := by
          unfold sd kvT
          rw [List.length_map, List.length_map, List.length_take]
          show min i 5 ≤ 5
          omega
        have lim_ := lim_v
        have eo : ownK (.own (dT (NM.take i) th)) = some (sd (kvT (NM.take i) th)) := rfl
        have kb : keyB (.str (NM.getD i "")) = true := rfl
        have dl : decide ((sd (kvT (NM.take i) th)).length < lim) = true := decide_eq_true (by omega)
        simp -implicitDefEqProofs (maxSteps := 4000000) (disch := first | assumption | omega | decide | (simp only [List.length_map, List.length_append, List.length_cons, List.length_nil, List.length_range, List.length_drop, List.length_take, List.length_reverse]; omega)) only [e_varT, e_varF, e_con, e_tup, e_lst, e_dct, e_bin, e_cat, e_neg, e_not, e_and, e_or, e_cmp, u_cmp2, e_ite, e_idx, e_cut, u_rev, e_bi, e_me, e_isi, e_call, u_callw, u_next, q_next, e_nil, e_cons, e_o0, e_o1, e_if0, e_if1, evKV, st_nil, st_cons, st_asg, st_asgT, st_par, st_ret, st_brk, st_ite, u_for, u_frz, u_app, u_ext, u_put, u_aug, u_lset, o_obj, o_own, o_ownL, o_ownK, o_lst, b_ok, b_some, b_b, o_some, q_b, q_ok, q_some, s_g0, s_gs, s_pv, s_po, s_vv, v_addI, v_sub, v_mulR, v_mulA, v_divP, v_modP, v_pow, c_eqI, p_seq, p_keys, p_range, p_zip, p_enum, p_items, p_values, c_eqS, c_eqB, c_eqN, c_neI, c_neS, c_lt, c_gt, c_le, c_ge, c_isN, c_isnotN, n_none, n_int, n_bool, n_str, n_tup, n_list, n_dict, Bool.not_true, Bool.not_false, gd_t, f_int, f_abs, f_tupL, f_tupT, f_listL, f_listT, f_listD, f_min, f_max, l_list, l_tup, l_dict, w_list, w_tup, w_keys, t_bool, t_int, s_k0, s_kc, s_tn, Ly.fresh, Ly.freshL, setAll, List.set_cons_zero, List.set_cons_succ, if_true, if_false, Bool.false_eq_true, ite_true, ite_false, List.all_nil, mg_nil, e_comp, e_elt, e_gen, capp_ite, flatP_map, flatP_capp, flatA_cons, flatA_nil, capp_bind, List.cons_append, List.nil_append, fm_one, fm_if, fm_ifs, ap_nil, i_ok, i_some, i_int, i_str, i_bool, i_list, i_tup, i_and, i_or, u_rg, u_rg2, flatQ_map, flatQ_capp, Int.toNat_natCast, List.length_range, capp_rg, capp_frg, g_len, g_lt, Bool.and_true, Bool.true_and, Bool.and_false, Bool.false_and, Bool.or_true, Bool.true_or, Bool.or_false, Bool.false_or, capp_map, capp_fmap, capp_ok,  List.length_map, List.length_append, List.length_cons, List.length_nil, e1, e2, eo, kb, dl, show M3.take M3.length = M3 from rfl, put_T (th := th) (show i < 5 by omega) hz]
        refine h1 _ ⟨_, ⟨fun x => ?_, fun x => ?_⟩, rfl⟩
        · split
          · exact hf
          · exact hg.good x
        · split
          · exact hz
          · exact hg.zone x
    · rintro Γ ⟨th, hg, rfl⟩
      simp -implicitDefEqProofs (maxSteps := 4000000) (disch := first | assumption | omega | decide | (simp only [List.length_map, List.length_append, List.length_cons, List.length_nil, List.length_range, List.length_drop, List.length_take, List.length_reverse]; omega)) only [e_varT, e_varF, e_con, e_tup, e_lst, e_dct, e_bin, e_cat, e_neg, e_not, e_and, e_or, e_cmp, u_cmp2, e_ite, e_idx, e_cut, u_rev, e_bi, e_me, e_isi, e_call, u_callw, u_next, q_next, e_nil, e_cons, e_o0, e_o1, e_if0, e_if1, evKV, st_nil, st_cons, st_asg, st_asgT, st_par, st_ret, st_brk, st_ite, u_for, u_frz, u_app, u_ext, u_put, u_aug, u_lset, o_obj, o_own, o_ownL, o_ownK, o_lst, b_ok, b_some, b_b, o_some, q_b, q_ok, q_some, s_g0, s_gs, s_pv, s_po, s_vv, v_addI, v_sub, v_mulR, v_mulA, v_divP, v_modP, v_pow, c_eqI, p_seq, p_keys, p_range, p_zip, p_enum, p_items, p_values, c_eqS, c_eqB, c_eqN, c_neI, c_neS, c_lt, c_gt, c_le, c_ge, c_isN, c_isnotN, n_none, n_int, n_bool, n_str, n_tup, n_list, n_dict, Bool.not_true, Bool.not_false, gd_t, f_int, f_abs, f_tupL, f_tupT, f_listL, f_listT, f_listD, f_min, f_max, l_list, l_tup, l_dict, w_list, w_tup, w_keys, t_bool, t_int, s_k0, s_kc, s_tn, Ly.fresh, Ly.freshL, setAll, List.set_cons_zero, List.set_cons_succ, if_true, if_false, Bool.false_eq_true, ite_true, ite_false, List.all_nil, mg_nil, e_comp, e_elt, e_gen, capp_ite, flatP_map, flatP_capp, flatA_cons, flatA_nil, capp_bind, List.cons_append, List.nil_append, fm_one, fm_if, fm_ifs, ap_nil, i_ok, i_some, i_int, i_str, i_bool, i_list, i_tup, i_and, i_or, u_rg, u_rg2, flatQ_map, flatQ_capp, Int.toNat_natCast, List.length_range, capp_rg, capp_frg, g_len, g_lt, Bool.and_true, Bool.true_and, Bool.and_false, Bool.false_and, Bool.or_true, Bool.true_or, Bool.or_false, Bool.false_or, capp_map, capp_fmap, capp_ok,  List.length_map, List.length_append, List.length_cons, List.length_nil, hκ, List.length_range]
      exact h n th hn hg
end K02

set_option maxRecDepth 100000
set_option maxHeartbeats 4000000
namespace K02
open PySem Ly
theorem wl_len (f g : Str → Str) : (wrongL f g).length ≤ 4 := Nat.le_trans (List.length_filter_le _ _) (ks_len g)
theorem dl_len (f g : Str → Str) : (differL f g).length ≤ 4 := List.length_filter_le _ _
theorem okA_v {n : Nat} (f : Str → Str) : okA (n + 2) (dV f) := by
  refine ⟨⟨(ksV f).map .str, ?_, ?_⟩, ?_, ?_⟩
  · have := sorted_v f
    have e : sortD (dV f) = biD .sorted [dV f] := rfl
    show sortD (dV f) = _
    rw [e, sorted_v f]
  · exact eq_strs fun x hx => MK_sh x (mem_ks.mp hx).1
  · unfold sd kvV
    rw [List.length_map, List.length_map]
    have := ks_len f
    omega
  · intro p hp
    obtain ⟨q, hq, rfl⟩ := List.mem_map.mp hp
    obtain ⟨m, hm, rfl⟩ := List.mem_map.mp hq
    refine ⟨rfl, sd_get (kv_nd f) hq, trivial⟩
theorem dict_v (f : Str → Str) : biD .dict [dV f] = some (dV f) := rfl
theorem alike {n k : Nat} {d : D} (h : okA n d) : cfN T (k + n) 19 [d, d] = W.ok (.bool true) := alike_ok rfl n k d h
theorem alike6 {k : Nat} {d : D} (h : okA 6 d) : cfN T (k + 6) 19 [d, d] = W.ok (.bool true) := alike_ok rfl 6 k d h
theorem vals4 {Q : D → Prop} (h : ∀ v ∈ VS, Q (.str v)) : ∀ d ∈ [PyData.str "", .str "a", .str "b", .str "c"], Q d := by
  intro d hd
  simp only [List.mem_cons, List.not_mem_nil, or_false] at hd
  rcases hd with rfl | rfl | rfl | rfl
  · exact h _ (by simp [VS])
  · exact h _ (by simp [VS])
  · exact h _ (by simp [VS])
  · exact h _ (by simp [VS])
theorem get2k (g : Str → Str) {f : Str → Str} {m : Str} (h : m ∈ ksV g) : meD .get (dV f) [.str m, .str ""] = some (.str (f m)) := get2 (mem_ks.mp h).1
theorem leastN_fold : ∀ (r : List Int) (x : Int), (r.foldl (fun m y => if y < m then y else m) x = x ∨ r.foldl (fun m y => if y < m then y else m) x ∈ r) ∧ r.foldl (fun m y => if y < m then y else m) x ≤ x ∧ ∀ y ∈ r, r.foldl (fun m y => if y < m then y else m) x ≤ y
  | [], x => ⟨.inl rfl, Int.le_refl x, fun y h => by cases h⟩
  | a :: r, x => by
    rw [List.foldl_cons]
    obtain ⟨h1, h2, h3⟩ := leastN_fold r (if a < x then a else x)
    refine ⟨?_, ?_, fun y hy => ?_⟩
    · rcases h1 with h1 | h1
      · rw [h1]
        split
        · exact .inr (by simp)
        · exact .inl rfl
      · exact .inr (by simp [h1])
    · split at h2 <;> split <;> omega
    · rcases List.mem_cons.mp hy with rfl | hy
      · split at h2 <;> split <;> omega
      · exact h3 y hy
theorem leastN_spec {xs : List Int} (h : xs ≠ []) : leastN xs ∈ xs ∧ ∀ y ∈ xs, leastN xs ≤ y := by
  cases xs with
  | nil => exact absurd rfl h
  | cons x r =>
    obtain ⟨h1, h2, h3⟩ := leastN_fold r x
    refine ⟨?_, fun y hy => ?_⟩
    · rcases h1 with h1 | h1
      · show r.foldl _ x ∈ _
        rw [h1]; simp
      · exact List.mem_cons_of_mem _ h1
    · rcases List.mem_cons.mp hy with rfl | hy
      · exact h2
      · exact h3 y hy
theorem leastN_eq {xs : List Int} {m : Int} (hm : m ∈ xs) (hl : ∀ y ∈ xs, m ≤ y) : leastN xs = m := by
  have h : xs ≠ [] := fun z => by rw [z] at hm; cases hm
  obtain ⟨h1, h2⟩ := leastN_spec h
  have := hl _ h1
  have := h2 _ hm
  omega
def lenW (th : Str → Str → Str) (g : Str → Str) (x : Str) : Int := ((wrongL (th x) g).length : Int)
def leastL9 (srt : List Str) (th : Str → Str → Str) (g : Str → Str) : Int := leastN (srt.map (lenW th g) ++ [9])
def bestL (srt : List Str) (th : Str → Str → Str) (g : Str → Str) : List Str := srt.filter fun x => lenW th g x == leastL9 srt th g
theorem lenW_le (th : Str → Str → Str) (g : Str → Str) (x : Str) : lenW th g x ≤ 4 := by
  have := wl_len (th x) g
  unfold lenW
  omega
section
variable {nm srt : List Str} {th : Str → Str → Str} (t : Th nm srt th)
include t
theorem least_eq (g : Str → Str) (h : nm ≠ []) : leastL9 srt th g = leastW nm th g := by
  have h2 : (nm.map (lenW th g)) ≠ [] := by simpa using h
  obtain ⟨h3, h4⟩ := leastN_spec h2
  refine leastN_eq ?_ fun y hy => ?_
  · show leastN (nm.map (lenW th g)) ∈ _
    obtain ⟨x, hx, e⟩ := List.mem_map.mp h3
    rw [← e]
    exact List.mem_append_left _ (List.mem_map.mpr ⟨x, t.mem.mpr hx, rfl⟩)
  · show leastN (nm.map (lenW th g)) ≤ y
    rcases List.mem_append.mp hy with hy | hy
    · obtain ⟨x, hx, rfl⟩ := List.mem_map.mp hy
      exact h4 _ (List.mem_map.mpr ⟨x, t.mem.mp hx, rfl⟩)
    · obtain ⟨x, hx, e⟩ := List.mem_map.mp h3
      have := lenW_le th g x
      have := List.mem_singleton.mp hy
      omega
theorem best_eq (g : Str → Str) (h : nm ≠ []) : bestL srt th g = nearL srt th g (leastW nm th g) := by
  unfold bestL nearL
  refine List.filter_congr fun x hx => ?_
  rw [least_eq t g h]
  have : leastW nm th g ≤ lenW th g x := (leastN_spec (xs := nm.map (lenW th g)) (by simpa using h)).2 _ (List.mem_map.mpr ⟨x, t.mem.mp hx, rfl⟩)
  show (lenW th g x == _) = decide (lenW th g x ≤ _)
  rw [Bool.eq_iff_iff, beq_iff_eq, decide_eq_true_eq]
  omega
theorem nearest_eq (g : Str → Str) : nearestD nm srt th g = if (!srt.isEmpty) = true then .tuple [.int (leastL9 srt th g), .tuple ((bestL srt th g).map .str)] else .none := by
  unfold nearestD
  have e : srt = [] ↔ nm = [] := ⟨fun z => by have := t.perm.length_eq; rw [z] at this; exact List.length_eq_zero_iff.mp this.symm, fun z => by have := t.perm.length_eq; rw [z] at this; exact List.length_eq_zero_iff.mp this⟩
  by_cases h : nm = []
  · rw [if_pos h, e.mpr h]
    rfl
  · have q : srt.isEmpty = false := by
      rw [Bool.eq_false_iff]
      exact fun z => h (e.mp (List.isEmpty_iff.mp z))
    rw [if_neg h, q, best_eq t g h, least_eq t g h]
    rfl
theorem mended_eq (g : Str → Str) : (if (((bestL srt th g).length : Int) == 1) = true then W.bind (W.opt (idxD (.tuple ((bestL srt th g).map .str)) (.int 0))) (fun y => W.opt (idxD (dT nm th) y)) else W.ok .none) = W.ok (mendedD nm srt th g) := by
  unfold mendedD
  cases hn : nm with
  | nil =>
    have : bestL srt th g = [] := by
      have := t.perm.length_eq
      rw [hn] at this
      have := List.length_eq_zero_iff.mp this
      unfold bestL
      rw [this]
      rfl
    rw [this]
    rfl
  | cons a r =>
    rw [← hn]
    have hne : nm ≠ [] := by rw [hn]; simp
    rw [← best_eq t g hne]
    cases hb : bestL srt th g with
    | nil => rw [hn]; rfl
    | cons x q =>
      cases q with
      | nil =>
        have hx : x ∈ nm := t.mem.mp (List.mem_filter.mp (show x ∈ bestL srt th g by rw [hb]; simp)).1
        have i0 : idxD (.tuple ([x].map .str)) (.int 0) = some (.str x) := rfl
        rw [i0, b_some, t.idx hx, hn]
        simp [o_some]
      | cons y q =>
        rw [if_neg (by simp; omega), hn]
end
/-! ### no row is near two things -/
theorem differ_comm (f g : Str → Str) : (differL f g).length = (differL g f).length := by
  unfold differL
  congr 1
  refine List.filter_congr fun m _ => ?_
  rw [Bool.eq_iff_iff]
  simp only [Bool.not_eq_true', beq_eq_false_iff_ne]
  exact ⟨fun h z => h z.symm, fun h z => h z.symm⟩
theorem differ_tri (f g e : Str → Str) : (differL f e).length ≤ (differL f g).length + (differL g e).length := by
  unfold differL
  induction MK with
  | nil => simp
  | cons m r ih =>
    rw [List.filter_cons, List.filter_cons, List.filter_cons]
    by_cases h1 : f m = e m
    · have b : (!(f m == e m)) = false := by simpa using h1
      rw [b]
      simp only [Bool.false_eq_true, if_false]
      split <;> split <;> (try simp only [List.length_cons]) <;> omega
    · have b : (!(f m == e m)) = true := by simpa using h1
      rw [b, if_pos rfl]
      by_cases h2 : f m = g m
      · have b2 : (!(g m == e m)) = true := by rw [← h2]; exact b
        rw [b2, if_pos rfl]
        split <;> (try simp only [List.length_cons]) <;> omega
      · have b2 : (!(f m == g m)) = true := by simpa using h2
        rw [b2, if_pos rfl]
        split <;> (try simp only [List.length_cons]) <;> omega
theorem differ_zero {f g : Str → Str} (h : (differL f g).length = 0) (e : Str → Str) : (differL e f).length = (differL e g).length := by
  have h := List.length_eq_zero_iff.mp h
  unfold differL at h ⊢
  have : ∀ m ∈ MK, f m = g m := fun m hm => by
    have := List.filter_eq_nil_iff.mp h m hm
    simpa using this
  congr 1
  refine List.filter_congr fun m hm => ?_
  rw [this m hm]
theorem ltB_row {x y : Row} (h : x.1 ≠ y.1) : ltB (rowD x) (rowD y) = decide (x.1 < y.1) := by
  unfold rowD
  rw [lt_tupI, if_neg h]
theorem minR_fold : ∀ (r : List Row) (x : Row), (r.foldl (fun m y => if ltB (rowD y) (rowD m) then y else m) x).1 ≤ x.1 ∧ ∀ y ∈ r, (r.foldl (fun m y => if ltB (rowD y) (rowD m) then y else m) x).1 ≤ y.1
  | [], x => ⟨Int.le_refl _, fun y h => by cases h⟩
  | a :: r, x => by
    rw [List.foldl_cons]
    obtain ⟨h1, h2⟩ := minR_fold r (if ltB (rowD a) (rowD x) then a else x)
    have h3 : (if ltB (rowD a) (rowD x) = true then a else x).1 ≤ x.1 ∧ (if ltB (rowD a) (rowD x) = true then a else x).1 ≤ a.1 := by
      by_cases e : a.1 = x.1
      · split <;> omega
      · rw [ltB_row e]
        by_cases q : a.1 < x.1
        · rw [if_pos (decide_eq_true q)]; omega
        · rw [if_neg (by simpa using q)]; omega
    refine ⟨by omega, fun y hy => ?_⟩
    rcases List.mem_cons.mp hy with rfl | hy
    · omega
    · exact h2 y hy
theorem minR_le {rs : List Row} {r : Row} (h : minR rs = some r) : ∀ y ∈ rs, r.1 ≤ y.1 := by
  cases rs with
  | nil => cases h
  | cons x q =>
    cases h
    obtain ⟨h1, h2⟩ := minR_fold q x
    intro y hy
    rcases List.mem_cons.mp hy with rfl | hy
    · exact h1
    · exact h2 y hy
theorem pairs_all {srt : List Str} {a b : Str} (ha : a ∈ srt) (hb : b ∈ srt) (hn : a ≠ b) : (a, b) ∈ pairsL srt ∨ (b, a) ∈ pairsL srt := by
  have key : ∀ i j : Nat, i < j → j < srt.length → (srt.getD i "", srt.getD j "") ∈ pairsL srt := fun i j h1 h2 => by
    refine List.mem_flatMap.mpr ⟨i, List.mem_range.mpr (by omega), List.mem_map.mpr ⟨srt.getD j "", ?_, rfl⟩⟩
    rw [List.getD_eq_getElem?_getD, List.getElem?_eq_getElem h2]
    show srt[j] ∈ _
    have : srt[j] = (srt.drop (i + 1))[j - (i + 1)]'(by rw [List.length_drop]; omega) := by
      rw [List.getElem_drop]
      congr 1
      omega
    rw [this]
    exact List.getElem_mem _
  obtain ⟨i, hi, rfl⟩ := List.getElem_of_mem ha
  obtain ⟨j, hj, rfl⟩ := List.getElem_of_mem hb
  have gd_ : ∀ k (h : k < srt.length), srt.getD k "" = srt[k] := fun k h => by
    rw [List.getD_eq_getElem?_getD, List.getElem?_eq_getElem h]
    rfl
  rcases Nat.lt_trichotomy i j with h | h | h
  · have := key i j h hj
    rw [gd_ i hi, gd_ j hj] at this
    exact .inl this
  · subst h
    exact absurd rfl hn
  · have := key j i h hi
    rw [gd_ i hi, gd_ j hj] at this
    exact .inr this
theorem gap_le {srt : List Str} {th : Str → Str → Str} {r : Row} (h : minR (rowsL srt th) = some r) {a b : Str} (ha : a ∈ srt) (hb : b ∈ srt) (hn : a ≠ b) : r.1 ≤ ((differL (th a) (th b)).length : Int) := by
  have main : ∀ a b, (a, b) ∈ pairsL srt → r.1 ≤ ((differL (th a) (th b)).length : Int) := fun a b hp => minR_le h _ (List.mem_map.mpr ⟨_, hp, rfl⟩)
  rcases pairs_all ha hb hn with hp | hp
  · exact main a b hp
  · rw [differ_comm]
    exact main b a hp
theorem okA_dummy : True := trivial
theorem ok_safe {th : Str → Str → Str} (hg : Gd th) (n : Nat) (hn : n ≤ 5) (k : Nat) {r : Row} (hr : minR (rowsL (NM.take n).reverse th) = some r) : cfN T (k + 2) 24 [dT (NM.take n) th, .list ((NM.take n).reverse.map .str), .int r.1] = W.ok (.bool true) := by
  refine call_ok (f := g__law_safe) rfl rfl fun κ hκ => ?_
  have t := th_of hg n
  have srl := t.slen
  have lim_ := lim_v
  have ix : ∀ x ∈ (NM.take n).reverse, idxD (dT (NM.take n) th) (.str x) = some (dV (th x)) := fun x hx => t.idx (t.mem.mp hx)
  show evSs _ _ _ [.val (dT (NM.take n) th), .val (.list ((NM.take n).reverse.map .str)), .val (.int r.1), .non, .non, .non, .non, .non, .non, .non, .non, .non, .non]
  simp -implicitDefEqProofs (maxSteps := 4000000) (disch := first | assumption | omega | decide | (simp only [List.length_map, List.length_append, List.length_cons, List.length_nil, List.length_range, List.length_drop, List.length_take, List.length_reverse]; omega)) only [e_varT, e_varF, e_con, e_tup, e_lst, e_dct, e_bin, e_cat, e_neg, e_not, e_and, e_or, e_cmp, u_cmp2, e_ite, e_idx, e_cut, u_rev, e_bi, e_me, e_isi, e_call, u_callw, u_next, q_next, e_nil, e_cons, e_o0, e_o1, e_if0, e_if1, evKV, st_nil, st_cons, st_asg, st_asgT, st_par, st_ret, st_brk, st_ite, u_for, u_frz, u_app, u_ext, u_put, u_aug, u_lset, o_obj, o_own, o_ownL, o_ownK, o_lst, b_ok, b_some, b_b, o_some, q_b, q_ok, q_some, s_g0, s_gs, s_pv, s_po, s_vv, v_addI, v_sub, v_mulR, v_mulA, v_divP, v_modP, v_pow, c_eqI, p_seq, p_keys, p_range, p_zip, p_enum, p_items, p_values, c_eqS, c_eqB, c_eqN, c_neI, c_neS, c_lt, c_gt, c_le, c_ge, c_isN, c_isnotN, n_none, n_int, n_bool, n_str, n_tup, n_list, n_dict, Bool.not_true, Bool.not_false, gd_t, f_int, f_abs, f_tupL, f_tupT, f_listL, f_listT, f_listD, f_min, f_max, l_list, l_tup, l_dict, w_list, w_tup, w_keys, t_bool, t_int, s_k0, s_kc, s_tn, Ly.fresh, Ly.freshL, setAll, List.set_cons_zero, List.set_cons_succ, if_true, if_false, Bool.false_eq_true, ite_true, ite_false, List.all_nil, mg_nil, e_comp, e_elt, e_gen, capp_ite, flatP_map, flatP_capp, flatA_cons, flatA_nil, capp_bind, List.cons_append, List.nil_append, fm_one, fm_if, fm_ifs, ap_nil, i_ok, i_some, i_int, i_str, i_bool, i_list, i_tup, i_and, i_or, u_rg, u_rg2, flatQ_map, flatQ_capp, Int.toNat_natCast, List.length_range, capp_rg, capp_frg, g_len, g_lt, Bool.and_true, Bool.true_and, Bool.and_false, Bool.false_and, Bool.or_true, Bool.true_or, Bool.or_false, Bool.false_or, capp_map, capp_fmap, capp_ok,  List.length_map, List.length_append, List.length_cons, List.length_nil, g__law_safe]
  refine for_I M3 .str (fun j Γ => ∃ fs : List (Str → Str), fs.length ≤ 4 ^ j ∧ (∀ f ∈ fs, f "zone" = "") ∧ Γ = [.val (dT (NM.take n) th), .val (.list ((NM.take n).reverse.map .str)), .val (.int r.1), .val (.list (fs.map fun f => .dict (sd (kvP (M3.take j) f)))), .non, .non, .non, .non, .non, .non, .non, .non, .non]) rfl ⟨[fun _ => ""], Nat.le_refl _, fun f hf => by rw [List.mem_singleton.mp hf], rfl⟩ ?_ ?_
  · intro j m hm Γ hI κ' h1 h2 h3 h4
    obtain ⟨fs, fl, fz, rfl⟩ := hI
    obtain ⟨hj, hm⟩ := List.getElem?_eq_some_iff.mp hm
    have nd : ∀ j : Fin 3, (M3.take j ++ [M3.getD j ""]).Nodup ∧ M3.take (j + 1) = M3.take j ++ [M3.getD j ""] ∧ M3.getD j "" ≠ "zone" := by decide +kernel
    obtain ⟨nd, e, hz2⟩ := nd ⟨j, hj⟩
    have hm : M3.getD j "" = m := by rw [List.getD_eq_getElem?_getD, List.getElem?_eq_getElem hj, hm]; rfl
    simp only [hm] at nd e hz2
    have nm : m ∉ M3.take j := fun z => (List.nodup_append.mp nd).2.2 _ z _ (List.mem_singleton.mpr rfl) rfl
    have nd2 := (List.nodup_append.mp nd).1
    have jl : (M3.take j).length ≤ 100 := by rw [List.length_take]; show min j 3 ≤ 100; omega
    have fl4 : fs.length ≤ 64 := Nat.le_trans fl (by
      have : j < 3 := hj
      match j, this with
      | 0, _ => decide
      | 1, _ => decide
      | 2, _ => decide)
    have lv : [PyData.str (Str.ofString ""), .str (Str.ofString "a"), .str (Str.ofString "b"), .str (Str.ofString "c")] = VS.map .str := rfl
    have vl : VS.length = 4 := rfl
    have g1 : ∀ (f : Str → Str) (v : Str), binD .add (.list ((kvP (M3.take j) f).map fun p => PyData.tuple [.str p.1, p.2])) (.list (if (!(v == Str.ofString "")) = true then [.tuple [.str m, .str v]] else [])) = some (.list ((kvP (M3.take j ++ [m]) (upF f m v)).map fun p => PyData.tuple [.str p.1, p.2])) := fun f v => (grow2 nd2 nm jl).1
    have g2 : ∀ (f : Str → Str) (v : Str), biD .dict [.list ((kvP (M3.take j ++ [m]) (upF f m v)).map fun p => PyData.tuple [.str p.1, p.2])] = some (.dict (sd (kvP (M3.take j ++ [m]) (upF f m v)))) := fun f v => (grow2 nd2 nm jl).2
    simp -implicitDefEqProofs (maxSteps := 4000000) (disch := first | assumption | omega | decide | (simp only [List.length_map, List.length_append, List.length_cons, List.length_nil, List.length_range, List.length_drop, List.length_take, List.length_reverse]; omega)) only [e_varT, e_varF, e_con, e_tup, e_lst, e_dct, e_bin, e_cat, e_neg, e_not, e_and, e_or, e_cmp, u_cmp2, e_ite, e_idx, e_cut, u_rev, e_bi, e_me, e_isi, e_call, u_callw, u_next, q_next, e_nil, e_cons, e_o0, e_o1, e_if0, e_if1, evKV, st_nil, st_cons, st_asg, st_asgT, st_par, st_ret, st_brk, st_ite, u_for, u_frz, u_app, u_ext, u_put, u_aug, u_lset, o_obj, o_own, o_ownL, o_ownK, o_lst, b_ok, b_some, b_b, o_some, q_b, q_ok, q_some, s_g0, s_gs, s_pv, s_po, s_vv, v_addI, v_sub, v_mulR, v_mulA, v_divP, v_modP, v_pow, c_eqI, p_seq, p_keys, p_range, p_zip, p_enum, p_items, p_values, c_eqS, c_eqB, c_eqN, c_neI, c_neS, c_lt, c_gt, c_le, c_ge, c_isN, c_isnotN, n_none, n_int, n_bool, n_str, n_tup, n_list, n_dict, Bool.not_true, Bool.not_false, gd_t, f_int, f_abs, f_tupL, f_tupT, f_listL, f_listT, f_listD, f_min, f_max, l_list, l_tup, l_dict, w_list, w_tup, w_keys, t_bool, t_int, s_k0, s_kc, s_tn, Ly.fresh, Ly.freshL, setAll, List.set_cons_zero, List.set_cons_succ, if_true, if_false, Bool.false_eq_true, ite_true, ite_false, List.all_nil, mg_nil, e_comp, e_elt, e_gen, capp_ite, flatP_map, flatP_capp, flatA_cons, flatA_nil, capp_bind, List.cons_append, List.nil_append, fm_one, fm_if, fm_ifs, ap_nil, i_ok, i_some, i_int, i_str, i_bool, i_list, i_tup, i_and, i_or, u_rg, u_rg2, flatQ_map, flatQ_capp, Int.toNat_natCast, List.length_range, capp_rg, capp_frg, g_len, g_lt, Bool.and_true, Bool.true_and, Bool.and_false, Bool.false_and, Bool.or_true, Bool.true_or, Bool.or_false, Bool.false_or, capp_map, capp_fmap, capp_ok,  List.length_map, List.length_append, List.length_cons, List.length_nil]
    refine for_I fs (fun f => .dict (sd (kvP (M3.take j) f))) (fun i Γ => ∃ gs : List (Str → Str), gs.length ≤ 4 * i ∧ (∀ f ∈ gs, f "zone" = "") ∧ Γ = [.val (dT (NM.take n) th), .val (.list ((NM.take n).reverse.map .str)), .val (.int r.1), .val (.list (fs.map fun f => .dict (sd (kvP (M3.take j) f)))), .val (.str m), .non, .val (.list (gs.map fun f => .dict (sd (kvP (M3.take (j + 1)) f)))), .non, .non, .non, .non, .non, .non]) rfl ⟨[], Nat.le_refl _, fun f hf => (by cases hf), rfl⟩ ?_ ?_
    · intro i f hf Γ hI κ2 h1 h2 h3 h4
      obtain ⟨gs, gl, gz, rfl⟩ := hI
      have fz := fz f (List.mem_of_getElem? hf)
      have il : i < fs.length := (List.getElem?_eq_some_iff.mp hf).1
      have ad : binD .add (.list (gs.map fun f => .dict (sd (kvP (M3.take (j + 1)) f)))) (.list (VS.map fun v => .dict (sd (kvP (M3.take j ++ [m]) (upF f m v))))) = some (.list ((gs ++ VS.map fun v => upF f m v).map fun f => .dict (sd (kvP (M3.take (j + 1)) f)))) := by
        rw [v_addL, g_le (by rw [List.length_map, List.length_map]; omega), List.map_append, List.map_map, e]
        rfl
      simp -implicitDefEqProofs (maxSteps := 4000000) (disch := first | assumption | omega | decide | (simp only [List.length_map, List.length_append, List.length_cons, List.length_nil, List.length_range, List.length_drop, List.length_take, List.length_reverse]; omega)) only [e_varT, e_varF, e_con, e_tup, e_lst, e_dct, e_bin, e_cat, e_neg, e_not, e_and, e_or, e_cmp, u_cmp2, e_ite, e_idx, e_cut, u_rev, e_bi, e_me, e_isi, e_call, u_callw, u_next, q_next, e_nil, e_cons, e_o0, e_o1, e_if0, e_if1, evKV, st_nil, st_cons, st_asg, st_asgT, st_par, st_ret, st_brk, st_ite, u_for, u_frz, u_app, u_ext, u_put, u_aug, u_lset, o_obj, o_own, o_ownL, o_ownK, o_lst, b_ok, b_some, b_b, o_some, q_b, q_ok, q_some, s_g0, s_gs, s_pv, s_po, s_vv, v_addI, v_sub, v_mulR, v_mulA, v_divP, v_modP, v_pow, c_eqI, p_seq, p_keys, p_range, p_zip, p_enum, p_items, p_values, c_eqS, c_eqB, c_eqN, c_neI, c_neS, c_lt, c_gt, c_le, c_ge, c_isN, c_isnotN, n_none, n_int, n_bool, n_str, n_tup, n_list, n_dict, Bool.not_true, Bool.not_false, gd_t, f_int, f_abs, f_tupL, f_tupT, f_listL, f_listT, f_listD, f_min, f_max, l_list, l_tup, l_dict, w_list, w_tup, w_keys, t_bool, t_int, s_k0, s_kc, s_tn, Ly.fresh, Ly.freshL, setAll, List.set_cons_zero, List.set_cons_succ, if_true, if_false, Bool.false_eq_true, ite_true, ite_false, List.all_nil, mg_nil, e_comp, e_elt, e_gen, capp_ite, flatP_map, flatP_capp, flatA_cons, flatA_nil, capp_bind, List.cons_append, List.nil_append, fm_one, fm_if, fm_ifs, ap_nil, i_ok, i_some, i_int, i_str, i_bool, i_list, i_tup, i_and, i_or, u_rg, u_rg2, flatQ_map, flatQ_capp, Int.toNat_natCast, List.length_range, capp_rg, capp_frg, g_len, g_lt, Bool.and_true, Bool.true_and, Bool.and_false, Bool.false_and, Bool.or_true, Bool.true_or, Bool.or_false, Bool.false_or, capp_map, capp_fmap, capp_ok,  List.length_map, List.length_append, List.length_cons, List.length_nil, lv, sd_items, g1, g2, ad]
      refine h1 _ ⟨gs ++ VS.map fun v => upF f m v, ?_, fun g hg => ?_, rfl⟩
      · rw [List.length_append, List.length_map]; omega
      · rcases List.mem_append.mp hg with hg | hg
        · exact gz g hg
        · obtain ⟨v, _, rfl⟩ := List.mem_map.mp hg
          unfold upF
          rw [if_neg fun z => hz2 z.symm, fz]
    · rintro Γ ⟨gs, gl, gz, rfl⟩
      simp -implicitDefEqProofs (maxSteps := 4000000) (disch := first | assumption | omega | decide | (simp only [List.length_map, List.length_append, List.length_cons, List.length_nil, List.length_range, List.length_drop, List.length_take, List.length_reverse]; omega)) only [e_varT, e_varF, e_con, e_tup, e_lst, e_dct, e_bin, e_cat, e_neg, e_not, e_and, e_or, e_cmp, u_cmp2, e_ite, e_idx, e_cut, u_rev, e_bi, e_me, e_isi, e_call, u_callw, u_next, q_next, e_nil, e_cons, e_o0, e_o1, e_if0, e_if1, evKV, st_nil, st_cons, st_asg, st_asgT, st_par, st_ret, st_brk, st_ite, u_for, u_frz, u_app, u_ext, u_put, u_aug, u_lset, o_obj, o_own, o_ownL, o_ownK, o_lst, b_ok, b_some, b_b, o_some, q_b, q_ok, q_some, s_g0, s_gs, s_pv, s_po, s_vv, v_addI, v_sub, v_mulR, v_mulA, v_divP, v_modP, v_pow, c_eqI, p_seq, p_keys, p_range, p_zip, p_enum, p_items, p_values, c_eqS, c_eqB, c_eqN, c_neI, c_neS, c_lt, c_gt, c_le, c_ge, c_isN, c_isnotN, n_none, n_int, n_bool, n_str, n_tup, n_list, n_dict, Bool.not_true, Bool.not_false, gd_t, f_int, f_abs, f_tupL, f_tupT, f_listL, f_listT, f_listD, f_min, f_max, l_list, l_tup, l_dict, w_list, w_tup, w_keys, t_bool, t_int, s_k0, s_kc, s_tn, Ly.fresh, Ly.freshL, setAll, List.set_cons_zero, List.set_cons_succ, if_true, if_false, Bool.false_eq_true, ite_true, ite_false, List.all_nil, mg_nil, e_comp, e_elt, e_gen, capp_ite, flatP_map, flatP_capp, flatA_cons, flatA_nil, capp_bind, List.cons_append, List.nil_append, fm_one, fm_if, fm_ifs, ap_nil, i_ok, i_some, i_int, i_str, i_bool, i_list, i_tup, i_and, i_or, u_rg, u_rg2, flatQ_map, flatQ_capp, Int.toNat_natCast, List.length_range, capp_rg, capp_frg, g_len, g_lt, Bool.and_true, Bool.true_and, Bool.and_false, Bool.false_and, Bool.or_true, Bool.true_or, Bool.or_false, Bool.false_or, capp_map, capp_fmap, capp_ok,  List.length_map, List.length_append, List.length_cons, List.length_nil]
      refine h1 _ ⟨gs, ?_, gz, rfl⟩
      have : 4 ^ (j + 1) = 4 * 4 ^ j := by rw [Nat.pow_succ, Nat.mul_comm]
      omega
  · rintro Γ ⟨fs, fl, fz, rfl⟩
    simp -implicitDefEqProofs (maxSteps := 4000000) (disch := first | assumption | omega | decide | (simp only [List.length_map, List.length_append, List.length_cons, List.length_nil, List.length_range, List.length_drop, List.length_take, List.length_reverse]; omega)) only [e_varT, e_varF, e_con, e_tup, e_lst, e_dct, e_bin, e_cat, e_neg, e_not, e_and, e_or, e_cmp, u_cmp2, e_ite, e_idx, e_cut, u_rev, e_bi, e_me, e_isi, e_call, u_callw, u_next, q_next, e_nil, e_cons, e_o0, e_o1, e_if0, e_if1, evKV, st_nil, st_cons, st_asg, st_asgT, st_par, st_ret, st_brk, st_ite, u_for, u_frz, u_app, u_ext, u_put, u_aug, u_lset, o_obj, o_own, o_ownL, o_ownK, o_lst, b_ok, b_some, b_b, o_some, q_b, q_ok, q_some, s_g0, s_gs, s_pv, s_po, s_vv, v_addI, v_sub, v_mulR, v_mulA, v_divP, v_modP, v_pow, c_eqI, p_seq, p_keys, p_range, p_zip, p_enum, p_items, p_values, c_eqS, c_eqB, c_eqN, c_neI, c_neS, c_lt, c_gt, c_le, c_ge, c_isN, c_isnotN, n_none, n_int, n_bool, n_str, n_tup, n_list, n_dict, Bool.not_true, Bool.not_false, gd_t, f_int, f_abs, f_tupL, f_tupT, f_listL, f_listT, f_listD, f_min, f_max, l_list, l_tup, l_dict, w_list, w_tup, w_keys, t_bool, t_int, s_k0, s_kc, s_tn, Ly.fresh, Ly.freshL, setAll, List.set_cons_zero, List.set_cons_succ, if_true, if_false, Bool.false_eq_true, ite_true, ite_false, List.all_nil, mg_nil, e_comp, e_elt, e_gen, capp_ite, flatP_map, flatP_capp, flatA_cons, flatA_nil, capp_bind, List.cons_append, List.nil_append, fm_one, fm_if, fm_ifs, ap_nil, i_ok, i_some, i_int, i_str, i_bool, i_list, i_tup, i_and, i_or, u_rg, u_rg2, flatQ_map, flatQ_capp, Int.toNat_natCast, List.length_range, capp_rg, capp_frg, g_len, g_lt, Bool.and_true, Bool.true_and, Bool.and_false, Bool.false_and, Bool.or_true, Bool.true_or, Bool.or_false, Bool.false_or, capp_map, capp_fmap, capp_ok,  List.length_map, List.length_append, List.length_cons, List.length_nil]
    refine for_K fs (fun f => .dict (sd (kvP (M3.take M3.length) f))) rfl (fun f hf κ' h1 h2 h3 => ?_) ?_
    · have ef : PyData.dict (sd (kvP (M3.take M3.length) f)) = dV f := by
        show PyData.dict (sd (kvP M3 f)) = _
        rw [kv3 (fz f hf)]
        rfl
      simp -implicitDefEqProofs (maxSteps := 4000000) (disch := first | assumption | omega | decide | (simp only [List.length_map, List.length_append, List.length_cons, List.length_nil, List.length_range, List.length_drop, List.length_take, List.length_reverse]; omega)) only [e_varT, e_varF, e_con, e_tup, e_lst, e_dct, e_bin, e_cat, e_neg, e_not, e_and, e_or, e_cmp, u_cmp2, e_ite, e_idx, e_cut, u_rev, e_bi, e_me, e_isi, e_call, u_callw, u_next, q_next, e_nil, e_cons, e_o0, e_o1, e_if0, e_if1, evKV, st_nil, st_cons, st_asg, st_asgT, st_par, st_ret, st_brk, st_ite, u_for, u_frz, u_app, u_ext, u_put, u_aug, u_lset, o_obj, o_own, o_ownL, o_ownK, o_lst, b_ok, b_some, b_b, o_some, q_b, q_ok, q_some, s_g0, s_gs, s_pv, s_po, s_vv, v_addI, v_sub, v_mulR, v_mulA, v_divP, v_modP, v_pow, c_eqI, p_seq, p_keys, p_range, p_zip, p_enum, p_items, p_values, c_eqS, c_eqB, c_eqN, c_neI, c_neS, c_lt, c_gt, c_le, c_ge, c_isN, c_isnotN, n_none, n_int, n_bool, n_str, n_tup, n_list, n_dict, Bool.not_true, Bool.not_false, gd_t, f_int, f_abs, f_tupL, f_tupT, f_listL, f_listT, f_listD, f_min, f_max, l_list, l_tup, l_dict, w_list, w_tup, w_keys, t_bool, t_int, s_k0, s_kc, s_tn, Ly.fresh, Ly.freshL, setAll, List.set_cons_zero, List.set_cons_succ, if_true, if_false, Bool.false_eq_true, ite_true, ite_false, List.all_nil, mg_nil, e_comp, e_elt, e_gen, capp_ite, flatP_map, flatP_capp, flatA_cons, flatA_nil, capp_bind, List.cons_append, List.nil_append, fm_one, fm_if, fm_ifs, ap_nil, i_ok, i_some, i_int, i_str, i_bool, i_list, i_tup, i_and, i_or, u_rg, u_rg2, flatQ_map, flatQ_capp, Int.toNat_natCast, List.length_range, capp_rg, capp_frg, g_len, g_lt, Bool.and_true, Bool.true_and, Bool.and_false, Bool.false_and, Bool.or_true, Bool.true_or, Bool.or_false, Bool.false_or, capp_map, capp_fmap, capp_ok,  List.length_map, List.length_append, List.length_cons, List.length_nil, ef]
      refine for_K (NM.take n).reverse .str rfl (fun x hx κ2 g1 g2 g3 => ?_) ?_
      · have far : ∀ own ∈ (NM.take n).reverse, own ≠ x → r.1 ≤ ((differL (th x) f).length : Int) + ((differL (th own) f).length : Int) := fun own ho hne => by
          have h1 := gap_le hr hx ho fun z => hne z.symm
          have h2 := differ_tri (th x) f (th own)
          rw [differ_comm f (th own)] at h2
          omega
        have hA : (decide (((differL (th x) f).length : Int) ≤ r.1 - 1) && (decide (0 < ((differL (th x) f).length : Int)) && ((NM.take n).reverse.filter fun own => !own == x).any fun own => ((differL (th own) f).length : Int) == 0)) = false := by
          rw [Bool.eq_false_iff]
          intro z
          simp only [Bool.and_eq_true, decide_eq_true_eq, List.any_eq_true, List.mem_filter, Bool.not_eq_true', beq_eq_false_iff_ne, beq_iff_eq] at z
          obtain ⟨z1, z2, own, ⟨ho, hne⟩, z3⟩ := z
          have := far own ho hne
          omega
        have sl : (((NM.take n).reverse.filter fun own => !own == x).filter fun own => decide (((differL (th own) f).length : Int) ≤ ((differL (th x) f).length : Int))).length ≤ 6 := Nat.le_trans (List.length_filter_le _ _) (Nat.le_trans (List.length_filter_le _ _) srl)
        have cp := capp_map (e := fun own => PyData.int ((differL (th own) f).length : Int)) (xs := ((NM.take n).reverse.filter fun own => !own == x).filter fun own => decide (((differL (th own) f).length : Int) ≤ ((differL (th x) f).length : Int))) (by omega)
        by_cases q : ((differL (th x) f).length : Int) ≤ (r.1 - 1) / 2
        · have hE : ((NM.take n).reverse.filter fun own => !own == x).filter (fun own => decide (((differL (th own) f).length : Int) ≤ ((differL (th x) f).length : Int))) = [] := by
            rw [List.filter_eq_nil_iff]
            intro own ho z
            simp only [List.mem_filter, Bool.not_eq_true', beq_eq_false_iff_ne] at ho
            simp only [decide_eq_true_eq] at z
            have := far own ho.1 ho.2
            omega
          simp -implicitDefEqProofs (maxSteps := 4000000) (disch := first | assumption | omega | decide | (simp only [List.length_map, List.length_append, List.length_cons, List.length_nil, List.length_range, List.length_drop, List.length_take, List.length_reverse]; omega)) only [e_varT, e_varF, e_con, e_tup, e_lst, e_dct, e_bin, e_cat, e_neg, e_not, e_and, e_or, e_cmp, u_cmp2, e_ite, e_idx, e_cut, u_rev, e_bi, e_me, e_isi, e_call, u_callw, u_next, q_next, e_nil, e_cons, e_o0, e_o1, e_if0, e_if1, evKV, st_nil, st_cons, st_asg, st_asgT, st_par, st_ret, st_brk, st_ite, u_for, u_frz, u_app, u_ext, u_put, u_aug, u_lset, o_obj, o_own, o_ownL, o_ownK, o_lst, b_ok, b_some, b_b, o_some, q_b, q_ok, q_some, s_g0, s_gs, s_pv, s_po, s_vv, v_addI, v_sub, v_mulR, v_mulA, v_divP, v_modP, v_pow, c_eqI, p_seq, p_keys, p_range, p_zip, p_enum, p_items, p_values, c_eqS, c_eqB, c_eqN, c_neI, c_neS, c_lt, c_gt, c_le, c_ge, c_isN, c_isnotN, n_none, n_int, n_bool, n_str, n_tup, n_list, n_dict, Bool.not_true, Bool.not_false, gd_t, f_int, f_abs, f_tupL, f_tupT, f_listL, f_listT, f_listD, f_min, f_max, l_list, l_tup, l_dict, w_list, w_tup, w_keys, t_bool, t_int, s_k0, s_kc, s_tn, Ly.fresh, Ly.freshL, setAll, List.set_cons_zero, List.set_cons_succ, if_true, if_false, Bool.false_eq_true, ite_true, ite_false, List.all_nil, mg_nil, e_comp, e_elt, e_gen, capp_ite, flatP_map, flatP_capp, flatA_cons, flatA_nil, capp_bind, List.cons_append, List.nil_append, fm_one, fm_if, fm_ifs, ap_nil, i_ok, i_some, i_int, i_str, i_bool, i_list, i_tup, i_and, i_or, u_rg, u_rg2, flatQ_map, flatQ_capp, Int.toNat_natCast, List.length_range, capp_rg, capp_frg, g_len, g_lt, Bool.and_true, Bool.true_and, Bool.and_false, Bool.false_and, Bool.or_true, Bool.true_or, Bool.or_false, Bool.false_or, capp_map, capp_fmap, capp_ok,  List.length_map, List.length_append, List.length_cons, List.length_nil, ix, ok_ldiffer, c_inIM, hA, cp, ne_nilI, decide_eq_true q, hE, List.isEmpty_nil]
          exact g1 _ rfl
        · simp -implicitDefEqProofs (maxSteps := 4000000) (disch := first | assumption | omega | decide | (simp only [List.length_map, List.length_append, List.length_cons, List.length_nil, List.length_range, List.length_drop, List.length_take, List.length_reverse]; omega)) only [e_varT, e_varF, e_con, e_tup, e_lst, e_dct, e_bin, e_cat, e_neg, e_not, e_and, e_or, e_cmp, u_cmp2, e_ite, e_idx, e_cut, u_rev, e_bi, e_me, e_isi, e_call, u_callw, u_next, q_next, e_nil, e_cons, e_o0, e_o1, e_if0, e_if1, evKV, st_nil, st_cons, st_asg, st_asgT, st_par, st_ret, st_brk, st_ite, u_for, u_frz, u_app, u_ext, u_put, u_aug, u_lset, o_obj, o_own, o_ownL, o_ownK, o_lst, b_ok, b_some, b_b, o_some, q_b, q_ok, q_some, s_g0, s_gs, s_pv, s_po, s_vv, v_addI, v_sub, v_mulR, v_mulA, v_divP, v_modP, v_pow, c_eqI, p_seq, p_keys, p_range, p_zip, p_enum, p_items, p_values, c_eqS, c_eqB, c_eqN, c_neI, c_neS, c_lt, c_gt, c_le, c_ge, c_isN, c_isnotN, n_none, n_int, n_bool, n_str, n_tup, n_list, n_dict, Bool.not_true, Bool.not_false, gd_t, f_int, f_abs, f_tupL, f_tupT, f_listL, f_listT, f_listD, f_min, f_max, l_list, l_tup, l_dict, w_list, w_tup, w_keys, t_bool, t_int, s_k0, s_kc, s_tn, Ly.fresh, Ly.freshL, setAll, List.set_cons_zero, List.set_cons_succ, if_true, if_false, Bool.false_eq_true, ite_true, ite_false, List.all_nil, mg_nil, e_comp, e_elt, e_gen, capp_ite, flatP_map, flatP_capp, flatA_cons, flatA_nil, capp_bind, List.cons_append, List.nil_append, fm_one, fm_if, fm_ifs, ap_nil, i_ok, i_some, i_int, i_str, i_bool, i_list, i_tup, i_and, i_or, u_rg, u_rg2, flatQ_map, flatQ_capp, Int.toNat_natCast, List.length_range, capp_rg, capp_frg, g_len, g_lt, Bool.and_true, Bool.true_and, Bool.and_false, Bool.false_and, Bool.or_true, Bool.true_or, Bool.or_false, Bool.false_or, capp_map, capp_fmap, capp_ok,  List.length_map, List.length_append, List.length_cons, List.length_nil, ix, ok_ldiffer, c_inIM, hA, decide_eq_false q]
          exact g1 _ rfl
      · exact h1 _ rfl
    · simp -implicitDefEqProofs (maxSteps := 4000000) (disch := first | assumption | omega | decide | (simp only [List.length_map, List.length_append, List.length_cons, List.length_nil, List.length_range, List.length_drop, List.length_take, List.length_reverse]; omega)) only [e_varT, e_varF, e_con, e_tup, e_lst, e_dct, e_bin, e_cat, e_neg, e_not, e_and, e_or, e_cmp, u_cmp2, e_ite, e_idx, e_cut, u_rev, e_bi, e_me, e_isi, e_call, u_callw, u_next, q_next, e_nil, e_cons, e_o0, e_o1, e_if0, e_if1, evKV, st_nil, st_cons, st_asg, st_asgT, st_par, st_ret, st_brk, st_ite, u_for, u_frz, u_app, u_ext, u_put, u_aug, u_lset, o_obj, o_own, o_ownL, o_ownK, o_lst, b_ok, b_some, b_b, o_some, q_b, q_ok, q_some, s_g0, s_gs, s_pv, s_po, s_vv, v_addI, v_sub, v_mulR, v_mulA, v_divP, v_modP, v_pow, c_eqI, p_seq, p_keys, p_range, p_zip, p_enum, p_items, p_values, c_eqS, c_eqB, c_eqN, c_neI, c_neS, c_lt, c_gt, c_le, c_ge, c_isN, c_isnotN, n_none, n_int, n_bool, n_str, n_tup, n_list, n_dict, Bool.not_true, Bool.not_false, gd_t, f_int, f_abs, f_tupL, f_tupT, f_listL, f_listT, f_listD, f_min, f_max, l_list, l_tup, l_dict, w_list, w_tup, w_keys, t_bool, t_int, s_k0, s_kc, s_tn, Ly.fresh, Ly.freshL, setAll, List.set_cons_zero, List.set_cons_succ, if_true, if_false, Bool.false_eq_true, ite_true, ite_false, List.all_nil, mg_nil, e_comp, e_elt, e_gen, capp_ite, flatP_map, flatP_capp, flatA_cons, flatA_nil, capp_bind, List.cons_append, List.nil_append, fm_one, fm_if, fm_ifs, ap_nil, i_ok, i_some, i_int, i_str, i_bool, i_list, i_tup, i_and, i_or, u_rg, u_rg2, flatQ_map, flatQ_capp, Int.toNat_natCast, List.length_range, capp_rg, capp_frg, g_len, g_lt, Bool.and_true, Bool.true_and, Bool.and_false, Bool.false_and, Bool.or_true, Bool.true_or, Bool.or_false, Bool.false_or, capp_map, capp_fmap, capp_ok,  List.length_map, List.length_append, List.length_cons, List.length_nil]
      exact hκ
theorem ok_lnear {Q : D → Prop} {th : Str → Str → Str} (hg : Gd th) (n : Nat) (hn : n ≤ 5) (k : Nat) (h : Q (.bool true)) : cfN T (k + 12) 23 [dT (NM.take n) th] Q := by
  refine call_to (f := g__law_near) rfl rfl fun κ hκ => ?_
  have t := th_of hg n
  show evSs _ _ _ [.obj, .val (dT (NM.take n) th), .non, .non, .non, .non, .non, .non, .non, .non, .non, .non, .non, .non, .non, .non, .non, .non]
  simp -implicitDefEqProofs (maxSteps := 4000000) (disch := first | assumption | omega | decide | (simp only [List.length_map, List.length_append, List.length_cons, List.length_nil, List.length_range, List.length_drop, List.length_take, List.length_reverse]; omega)) only [e_varT, e_varF, e_con, e_tup, e_lst, e_dct, e_bin, e_cat, e_neg, e_not, e_and, e_or, e_cmp, u_cmp2, e_ite, e_idx, e_cut, u_rev, e_bi, e_me, e_isi, e_call, u_callw, u_next, q_next, e_nil, e_cons, e_o0, e_o1, e_if0, e_if1, evKV, st_nil, st_cons, st_asg, st_asgT, st_par, st_ret, st_brk, st_ite, u_for, u_frz, u_app, u_ext, u_put, u_aug, u_lset, o_obj, o_own, o_ownL, o_ownK, o_lst, b_ok, b_some, b_b, o_some, q_b, q_ok, q_some, s_g0, s_gs, s_pv, s_po, s_vv, v_addI, v_sub, v_mulR, v_mulA, v_divP, v_modP, v_pow, c_eqI, p_seq, p_keys, p_range, p_zip, p_enum, p_items, p_values, c_eqS, c_eqB, c_eqN, c_neI, c_neS, c_lt, c_gt, c_le, c_ge, c_isN, c_isnotN, n_none, n_int, n_bool, n_str, n_tup, n_list, n_dict, Bool.not_true, Bool.not_false, gd_t, f_int, f_abs, f_tupL, f_tupT, f_listL, f_listT, f_listD, f_min, f_max, l_list, l_tup, l_dict, w_list, w_tup, w_keys, t_bool, t_int, s_k0, s_kc, s_tn, Ly.fresh, Ly.freshL, setAll, List.set_cons_zero, List.set_cons_succ, if_true, if_false, Bool.false_eq_true, ite_true, ite_false, List.all_nil, mg_nil, e_comp, e_elt, e_gen, capp_ite, flatP_map, flatP_capp, flatA_cons, flatA_nil, capp_bind, List.cons_append, List.nil_append, fm_one, fm_if, fm_ifs, ap_nil, i_ok, i_some, i_int, i_str, i_bool, i_list, i_tup, i_and, i_or, u_rg, u_rg2, flatQ_map, flatQ_capp, Int.toNat_natCast, List.length_range, capp_rg, capp_frg, g_len, g_lt, Bool.and_true, Bool.true_and, Bool.and_false, Bool.false_and, Bool.or_true, Bool.true_or, Bool.or_false, Bool.false_or, capp_map, capp_fmap, capp_ok,  List.length_map, List.length_append, List.length_cons, List.length_nil, g__law_near, t.sorted]
  refine for_I MK .str (fun j Γ => ∃ g, Good g ∧ Γ = [.obj, .val (dT (NM.take n) th), .non, .non, .non, .non, .non, .non, .non, .non, .non, .non, .non, .val (.list ((NM.take n).reverse.map .str)), .val (.dict (sd (kvP (MK.take j) g))), .non, .non, .non]) rfl ⟨fun _ => "", fun _ => by simp [VS], rfl⟩ ?_ ?_
  · intro j m hm Γ hI κ2 g1 g2 g3 g4
    obtain ⟨f, hf, rfl⟩ := hI
    obtain ⟨hj, hm⟩ := List.getElem?_eq_some_iff.mp hm
    simp -implicitDefEqProofs (maxSteps := 4000000) (disch := first | assumption | omega | decide | (simp only [List.length_map, List.length_append, List.length_cons, List.length_nil, List.length_range, List.length_drop, List.length_take, List.length_reverse]; omega)) only [e_varT, e_varF, e_con, e_tup, e_lst, e_dct, e_bin, e_cat, e_neg, e_not, e_and, e_or, e_cmp, u_cmp2, e_ite, e_idx, e_cut, u_rev, e_bi, e_me, e_isi, e_call, u_callw, u_next, q_next, e_nil, e_cons, e_o0, e_o1, e_if0, e_if1, evKV, st_nil, st_cons, st_asg, st_asgT, st_par, st_ret, st_brk, st_ite, u_for, u_frz, u_app, u_ext, u_put, u_aug, u_lset, o_obj, o_own, o_ownL, o_ownK, o_lst, b_ok, b_some, b_b, o_some, q_b, q_ok, q_some, s_g0, s_gs, s_pv, s_po, s_vv, v_addI, v_sub, v_mulR, v_mulA, v_divP, v_modP, v_pow, c_eqI, p_seq, p_keys, p_range, p_zip, p_enum, p_items, p_values, c_eqS, c_eqB, c_eqN, c_neI, c_neS, c_lt, c_gt, c_le, c_ge, c_isN, c_isnotN, n_none, n_int, n_bool, n_str, n_tup, n_list, n_dict, Bool.not_true, Bool.not_false, gd_t, f_int, f_abs, f_tupL, f_tupT, f_listL, f_listT, f_listD, f_min, f_max, l_list, l_tup, l_dict, w_list, w_tup, w_keys, t_bool, t_int, s_k0, s_kc, s_tn, Ly.fresh, Ly.freshL, setAll, List.set_cons_zero, List.set_cons_succ, if_true, if_false, Bool.false_eq_true, ite_true, ite_false, List.all_nil, mg_nil, e_comp, e_elt, e_gen, capp_ite, flatP_map, flatP_capp, flatA_cons, flatA_nil, capp_bind, List.cons_append, List.nil_append, fm_one, fm_if, fm_ifs, ap_nil, i_ok, i_some, i_int, i_str, i_bool, i_list, i_tup, i_and, i_or, u_rg, u_rg2, flatQ_map, flatQ_capp, Int.toNat_natCast, List.length_range, capp_rg, capp_frg, g_len, g_lt, Bool.and_true, Bool.true_and, Bool.and_false, Bool.false_and, Bool.or_true, Bool.true_or, Bool.or_false, Bool.false_or, capp_map, capp_fmap, capp_ok,  List.length_map, List.length_append, List.length_cons, List.length_nil]
    refine ok_pick (by simp) (by simp) (vals4 fun v hv => ?_) (k + 10)
    have nd : ∀ j : Fin 4, (MK.take j ++ [MK.getD j ""]).Nodup ∧ MK.take (j + 1) = MK.take j ++ [MK.getD j ""] := by decide +kernel
    obtain ⟨nd, e⟩ := nd ⟨j, hj⟩
    have hm : MK.getD j "" = m := by rw [List.getD_eq_getElem?_getD, List.getElem?_eq_getElem hj, hm]; rfl
    simp only [hm] at nd e
    rw [List.nodup_append] at nd
    have jl : (MK.take j).length ≤ 100 := by rw [List.length_take]; show min j 4 ≤ 100; omega
    obtain ⟨gr1, gr2⟩ := grow2 (f := f) (v := v) nd.1 (x := m) (fun z => nd.2.2 _ z _ (List.mem_singleton.mpr rfl) rfl) jl
    simp -implicitDefEqProofs (maxSteps := 4000000) (disch := first | assumption | omega | decide | (simp only [List.length_map, List.length_append, List.length_cons, List.length_nil, List.length_range, List.length_drop, List.length_take, List.length_reverse]; omega)) only [e_varT, e_varF, e_con, e_tup, e_lst, e_dct, e_bin, e_cat, e_neg, e_not, e_and, e_or, e_cmp, u_cmp2, e_ite, e_idx, e_cut, u_rev, e_bi, e_me, e_isi, e_call, u_callw, u_next, q_next, e_nil, e_cons, e_o0, e_o1, e_if0, e_if1, evKV, st_nil, st_cons, st_asg, st_asgT, st_par, st_ret, st_brk, st_ite, u_for, u_frz, u_app, u_ext, u_put, u_aug, u_lset, o_obj, o_own, o_ownL, o_ownK, o_lst, b_ok, b_some, b_b, o_some, q_b, q_ok, q_some, s_g0, s_gs, s_pv, s_po, s_vv, v_addI, v_sub, v_mulR, v_mulA, v_divP, v_modP, v_pow, c_eqI, p_seq, p_keys, p_range, p_zip, p_enum, p_items, p_values, c_eqS, c_eqB, c_eqN, c_neI, c_neS, c_lt, c_gt, c_le, c_ge, c_isN, c_isnotN, n_none, n_int, n_bool, n_str, n_tup, n_list, n_dict, Bool.not_true, Bool.not_false, gd_t, f_int, f_abs, f_tupL, f_tupT, f_listL, f_listT, f_listD, f_min, f_max, l_list, l_tup, l_dict, w_list, w_tup, w_keys, t_bool, t_int, s_k0, s_kc, s_tn, Ly.fresh, Ly.freshL, setAll, List.set_cons_zero, List.set_cons_succ, if_true, if_false, Bool.false_eq_true, ite_true, ite_false, List.all_nil, mg_nil, e_comp, e_elt, e_gen, capp_ite, flatP_map, flatP_capp, flatA_cons, flatA_nil, capp_bind, List.cons_append, List.nil_append, fm_one, fm_if, fm_ifs, ap_nil, i_ok, i_some, i_int, i_str, i_bool, i_list, i_tup, i_and, i_or, u_rg, u_rg2, flatQ_map, flatQ_capp, Int.toNat_natCast, List.length_range, capp_rg, capp_frg, g_len, g_lt, Bool.and_true, Bool.true_and, Bool.and_false, Bool.false_and, Bool.or_true, Bool.true_or, Bool.or_false, Bool.false_or, capp_map, capp_fmap, capp_ok,  List.length_map, List.length_append, List.length_cons, List.length_nil, sd_items, gr1, gr2]
    refine g1 _ ⟨upF f m v, hf.up hv, ?_⟩
    rw [e]
    rfl
  rintro Γ ⟨g, hgd, rfl⟩
  have hv := hgd.val
  have eg : PyData.dict (sd (kvP (MK.take MK.length) g)) = dV g := rfl
  rw [eg]
  have srl := t.slen
  have lim_ := lim_v
  have ix : ∀ x ∈ (NM.take n).reverse, idxD (dT (NM.take n) th) (.str x) = some (dV (th x)) := fun x hx => t.idx (t.mem.mp hx)
  have nd : (NM.take n).reverse.Nodup := t.snd
  have kl := ks_len g
  simp -implicitDefEqProofs (maxSteps := 4000000) (disch := first | assumption | omega | decide | (simp only [List.length_map, List.length_append, List.length_cons, List.length_nil, List.length_range, List.length_drop, List.length_take, List.length_reverse]; omega)) only [e_varT, e_varF, e_con, e_tup, e_lst, e_dct, e_bin, e_cat, e_neg, e_not, e_and, e_or, e_cmp, u_cmp2, e_ite, e_idx, e_cut, u_rev, e_bi, e_me, e_isi, e_call, u_callw, u_next, q_next, e_nil, e_cons, e_o0, e_o1, e_if0, e_if1, evKV, st_nil, st_cons, st_asg, st_asgT, st_par, st_ret, st_brk, st_ite, u_for, u_frz, u_app, u_ext, u_put, u_aug, u_lset, o_obj, o_own, o_ownL, o_ownK, o_lst, b_ok, b_some, b_b, o_some, q_b, q_ok, q_some, s_g0, s_gs, s_pv, s_po, s_vv, v_addI, v_sub, v_mulR, v_mulA, v_divP, v_modP, v_pow, c_eqI, p_seq, p_keys, p_range, p_zip, p_enum, p_items, p_values, c_eqS, c_eqB, c_eqN, c_neI, c_neS, c_lt, c_gt, c_le, c_ge, c_isN, c_isnotN, n_none, n_int, n_bool, n_str, n_tup, n_list, n_dict, Bool.not_true, Bool.not_false, gd_t, f_int, f_abs, f_tupL, f_tupT, f_listL, f_listT, f_listD, f_min, f_max, l_list, l_tup, l_dict, w_list, w_tup, w_keys, t_bool, t_int, s_k0, s_kc, s_tn, Ly.fresh, Ly.freshL, setAll, List.set_cons_zero, List.set_cons_succ, if_true, if_false, Bool.false_eq_true, ite_true, ite_false, List.all_nil, mg_nil, e_comp, e_elt, e_gen, capp_ite, flatP_map, flatP_capp, flatA_cons, flatA_nil, capp_bind, List.cons_append, List.nil_append, fm_one, fm_if, fm_ifs, ap_nil, i_ok, i_some, i_int, i_str, i_bool, i_list, i_tup, i_and, i_or, u_rg, u_rg2, flatQ_map, flatQ_capp, Int.toNat_natCast, List.length_range, capp_rg, capp_frg, g_len, g_lt, Bool.and_true, Bool.true_and, Bool.and_false, Bool.false_and, Bool.or_true, Bool.true_or, Bool.or_false, Bool.false_or, capp_map, capp_fmap, capp_ok,  List.length_map, List.length_append, List.length_cons, List.length_nil, sorted_v, ix, get_ok, get2k g, idx_v, sd_dict_map]
  have wl : ∀ f : Str → Str, (ksV g).filter (fun m => !f m == g m) = wrongL f g := fun _ => rfl
  simp -implicitDefEqProofs (maxSteps := 4000000) (disch := first | assumption | omega | decide | (simp only [List.length_map, List.length_append, List.length_cons, List.length_nil, List.length_range, List.length_drop, List.length_take, List.length_reverse]; omega)) only [e_varT, e_varF, e_con, e_tup, e_lst, e_dct, e_bin, e_cat, e_neg, e_not, e_and, e_or, e_cmp, u_cmp2, e_ite, e_idx, e_cut, u_rev, e_bi, e_me, e_isi, e_call, u_callw, u_next, q_next, e_nil, e_cons, e_o0, e_o1, e_if0, e_if1, evKV, st_nil, st_cons, st_asg, st_asgT, st_par, st_ret, st_brk, st_ite, u_for, u_frz, u_app, u_ext, u_put, u_aug, u_lset, o_obj, o_own, o_ownL, o_ownK, o_lst, b_ok, b_some, b_b, o_some, q_b, q_ok, q_some, s_g0, s_gs, s_pv, s_po, s_vv, v_addI, v_sub, v_mulR, v_mulA, v_divP, v_modP, v_pow, c_eqI, p_seq, p_keys, p_range, p_zip, p_enum, p_items, p_values, c_eqS, c_eqB, c_eqN, c_neI, c_neS, c_lt, c_gt, c_le, c_ge, c_isN, c_isnotN, n_none, n_int, n_bool, n_str, n_tup, n_list, n_dict, Bool.not_true, Bool.not_false, gd_t, f_int, f_abs, f_tupL, f_tupT, f_listL, f_listT, f_listD, f_min, f_max, l_list, l_tup, l_dict, w_list, w_tup, w_keys, t_bool, t_int, s_k0, s_kc, s_tn, Ly.fresh, Ly.freshL, setAll, List.set_cons_zero, List.set_cons_succ, if_true, if_false, Bool.false_eq_true, ite_true, ite_false, List.all_nil, mg_nil, e_comp, e_elt, e_gen, capp_ite, flatP_map, flatP_capp, flatA_cons, flatA_nil, capp_bind, List.cons_append, List.nil_append, fm_one, fm_if, fm_ifs, ap_nil, i_ok, i_some, i_int, i_str, i_bool, i_list, i_tup, i_and, i_or, u_rg, u_rg2, flatQ_map, flatQ_capp, Int.toNat_natCast, List.length_range, capp_rg, capp_frg, g_len, g_lt, Bool.and_true, Bool.true_and, Bool.and_false, Bool.false_and, Bool.or_true, Bool.true_or, Bool.or_false, Bool.false_or, capp_map, capp_fmap, capp_ok,  List.length_map, List.length_append, List.length_cons, List.length_nil, wl]
  refine for_K (NM.take n).reverse .str rfl (fun x hx κ' h1 h2 h3 => ?_) ?_
  · have xm := ix x hx
    simp -implicitDefEqProofs (maxSteps := 4000000) (disch := first | assumption | omega | decide | (simp only [List.length_map, List.length_append, List.length_cons, List.length_nil, List.length_range, List.length_drop, List.length_take, List.length_reverse]; omega)) only [e_varT, e_varF, e_con, e_tup, e_lst, e_dct, e_bin, e_cat, e_neg, e_not, e_and, e_or, e_cmp, u_cmp2, e_ite, e_idx, e_cut, u_rev, e_bi, e_me, e_isi, e_call, u_callw, u_next, q_next, e_nil, e_cons, e_o0, e_o1, e_if0, e_if1, evKV, st_nil, st_cons, st_asg, st_asgT, st_par, st_ret, st_brk, st_ite, u_for, u_frz, u_app, u_ext, u_put, u_aug, u_lset, o_obj, o_own, o_ownL, o_ownK, o_lst, b_ok, b_some, b_b, o_some, q_b, q_ok, q_some, s_g0, s_gs, s_pv, s_po, s_vv, v_addI, v_sub, v_mulR, v_mulA, v_divP, v_modP, v_pow, c_eqI, p_seq, p_keys, p_range, p_zip, p_enum, p_items, p_values, c_eqS, c_eqB, c_eqN, c_neI, c_neS, c_lt, c_gt, c_le, c_ge, c_isN, c_isnotN, n_none, n_int, n_bool, n_str, n_tup, n_list, n_dict, Bool.not_true, Bool.not_false, gd_t, f_int, f_abs, f_tupL, f_tupT, f_listL, f_listT, f_listD, f_min, f_max, l_list, l_tup, l_dict, w_list, w_tup, w_keys, t_bool, t_int, s_k0, s_kc, s_tn, Ly.fresh, Ly.freshL, setAll, List.set_cons_zero, List.set_cons_succ, if_true, if_false, Bool.false_eq_true, ite_true, ite_false, List.all_nil, mg_nil, e_comp, e_elt, e_gen, capp_ite, flatP_map, flatP_capp, flatA_cons, flatA_nil, capp_bind, List.cons_append, List.nil_append, fm_one, fm_if, fm_ifs, ap_nil, i_ok, i_some, i_int, i_str, i_bool, i_list, i_tup, i_and, i_or, u_rg, u_rg2, flatQ_map, flatQ_capp, Int.toNat_natCast, List.length_range, capp_rg, capp_frg, g_len, g_lt, Bool.and_true, Bool.true_and, Bool.and_false, Bool.false_and, Bool.or_true, Bool.true_or, Bool.or_false, Bool.false_or, capp_map, capp_fmap, capp_ok,  List.length_map, List.length_append, List.length_cons, List.length_nil, xm, dict_v, ok_wrong hv, ok_differ (t.val x) hv, ok_ldiffer, sd_idx_map, alike6 (okA_two (okA_strs (Nat.le_trans (wl_len (th x) g) (by omega))) (okA_strs (Nat.le_trans (dl_len (th x) g) (by omega))))]
    exact h1 _ rfl
  have shs : sh (.list ((NM.take n).reverse.map .str)) = true := lay_sh (n := 1) (lay_list fun x hx => by
    obtain ⟨y, hy, rfl⟩ := List.mem_map.mp hx
    exact lay_str (t.shn y (t.mem.mp hy))) (by decide)
  have ad : binD .add (.list ((NM.take n).reverse.map fun x => .int ↑(wrongL (th x) g).length)) (.list [.int 9]) = some (.list (((NM.take n).reverse.map (lenW th g) ++ [9]).map .int)) := by
    rw [v_addL, g_le (by rw [List.length_map]; show _ + 1 ≤ _; omega), List.map_append, List.map_map]
    rfl
  have mn : biD .min [.list (((NM.take n).reverse.map (lenW th g) ++ [9]).map .int)] = some (.int (leastL9 (NM.take n).reverse th g)) := min_ints (by simp)
  have be : (NM.take n).reverse.filter (fun x => ((wrongL (th x) g).length : Int) == leastL9 (NM.take n).reverse th g) = bestL (NM.take n).reverse th g := rfl
  have bl : (bestL (NM.take n).reverse th g).length ≤ 6 := Nat.le_trans (List.length_filter_le _ _) srl
  have ie : ((NM.take n).reverse.map PyData.str).isEmpty = (NM.take n).reverse.isEmpty := by cases (NM.take n).reverse <;> rfl
  have mo : okA 5 (mendedD (NM.take n) (NM.take n).reverse th g) := by
    unfold mendedD
    split
    · trivial
    · exact okA_v _
    · trivial
  have al := alike6 (k := k + 5) (okA_two (a := if (!(NM.take n).reverse.isEmpty) = true then .tuple [.int (leastL9 (NM.take n).reverse th g), .tuple ((bestL (NM.take n).reverse th g).map .str)] else .none) (by
    split
    · exact okA_two trivial (okA_strs (by omega))
    · trivial) mo)
  simp -implicitDefEqProofs (maxSteps := 4000000) (disch := first | assumption | omega | decide | (simp only [List.length_map, List.length_append, List.length_cons, List.length_nil, List.length_range, List.length_drop, List.length_take, List.length_reverse]; omega)) only [e_varT, e_varF, e_con, e_tup, e_lst, e_dct, e_bin, e_cat, e_neg, e_not, e_and, e_or, e_cmp, u_cmp2, e_ite, e_idx, e_cut, u_rev, e_bi, e_me, e_isi, e_call, u_callw, u_next, q_next, e_nil, e_cons, e_o0, e_o1, e_if0, e_if1, evKV, st_nil, st_cons, st_asg, st_asgT, st_par, st_ret, st_brk, st_ite, u_for, u_frz, u_app, u_ext, u_put, u_aug, u_lset, o_obj, o_own, o_ownL, o_ownK, o_lst, b_ok, b_some, b_b, o_some, q_b, q_ok, q_some, s_g0, s_gs, s_pv, s_po, s_vv, v_addI, v_sub, v_mulR, v_mulA, v_divP, v_modP, v_pow, c_eqI, p_seq, p_keys, p_range, p_zip, p_enum, p_items, p_values, c_eqS, c_eqB, c_eqN, c_neI, c_neS, c_lt, c_gt, c_le, c_ge, c_isN, c_isnotN, n_none, n_int, n_bool, n_str, n_tup, n_list, n_dict, Bool.not_true, Bool.not_false, gd_t, f_int, f_abs, f_tupL, f_tupT, f_listL, f_listT, f_listD, f_min, f_max, l_list, l_tup, l_dict, w_list, w_tup, w_keys, t_bool, t_int, s_k0, s_kc, s_tn, Ly.fresh, Ly.freshL, setAll, List.set_cons_zero, List.set_cons_succ, if_true, if_false, Bool.false_eq_true, ite_true, ite_false, List.all_nil, mg_nil, e_comp, e_elt, e_gen, capp_ite, flatP_map, flatP_capp, flatA_cons, flatA_nil, capp_bind, List.cons_append, List.nil_append, fm_one, fm_if, fm_ifs, ap_nil, i_ok, i_some, i_int, i_str, i_bool, i_list, i_tup, i_and, i_or, u_rg, u_rg2, flatQ_map, flatQ_capp, Int.toNat_natCast, List.length_range, capp_rg, capp_frg, g_len, g_lt, Bool.and_true, Bool.true_and, Bool.and_false, Bool.false_and, Bool.or_true, Bool.true_or, Bool.or_false, Bool.false_or, capp_map, capp_fmap, capp_ok,  List.length_map, List.length_append, List.length_cons, List.length_nil, ix, dict_v, sd_idx_map, ad, mn, be, ok_own t, ok_nearest t hv, ok_mended t hv, nearest_eq t, mended_eq t, ne_nil shs, ie, al]
  refine for_K (List.range 4) (fun k => .int (k : Nat)) rfl (fun x hx κ' h1 h2 h3 => ?_) ?_
  · have nr : (NM.take n).reverse.filter (fun y => decide (((wrongL (th y) g).length : Int) ≤ (x : Int))) = nearL (NM.take n).reverse th g x := rfl
    have nl : (nearL (NM.take n).reverse th g x).length ≤ 6 := Nat.le_trans (List.length_filter_le _ _) srl
    have ie : (((nearL (NM.take n).reverse th g x).length : Int) == 1) = ((nearL (NM.take n).reverse th g x).length == 1) := by
      rw [Bool.eq_iff_iff]
      simp
      omega
    have al := alike6 (k := k + 5) (okA_two (okA_strs (xs := nearL (NM.take n).reverse th g x) (by omega)) (okA_bool ((nearL (NM.take n).reverse th g x).length == 1)))
    simp -implicitDefEqProofs (maxSteps := 4000000) (disch := first | assumption | omega | decide | (simp only [List.length_map, List.length_append, List.length_cons, List.length_nil, List.length_range, List.length_drop, List.length_take, List.length_reverse]; omega)) only [e_varT, e_varF, e_con, e_tup, e_lst, e_dct, e_bin, e_cat, e_neg, e_not, e_and, e_or, e_cmp, u_cmp2, e_ite, e_idx, e_cut, u_rev, e_bi, e_me, e_isi, e_call, u_callw, u_next, q_next, e_nil, e_cons, e_o0, e_o1, e_if0, e_if1, evKV, st_nil, st_cons, st_asg, st_asgT, st_par, st_ret, st_brk, st_ite, u_for, u_frz, u_app, u_ext, u_put, u_aug, u_lset, o_obj, o_own, o_ownL, o_ownK, o_lst, b_ok, b_some, b_b, o_some, q_b, q_ok, q_some, s_g0, s_gs, s_pv, s_po, s_vv, v_addI, v_sub, v_mulR, v_mulA, v_divP, v_modP, v_pow, c_eqI, p_seq, p_keys, p_range, p_zip, p_enum, p_items, p_values, c_eqS, c_eqB, c_eqN, c_neI, c_neS, c_lt, c_gt, c_le, c_ge, c_isN, c_isnotN, n_none, n_int, n_bool, n_str, n_tup, n_list, n_dict, Bool.not_true, Bool.not_false, gd_t, f_int, f_abs, f_tupL, f_tupT, f_listL, f_listT, f_listD, f_min, f_max, l_list, l_tup, l_dict, w_list, w_tup, w_keys, t_bool, t_int, s_k0, s_kc, s_tn, Ly.fresh, Ly.freshL, setAll, List.set_cons_zero, List.set_cons_succ, if_true, if_false, Bool.false_eq_true, ite_true, ite_false, List.all_nil, mg_nil, e_comp, e_elt, e_gen, capp_ite, flatP_map, flatP_capp, flatA_cons, flatA_nil, capp_bind, List.cons_append, List.nil_append, fm_one, fm_if, fm_ifs, ap_nil, i_ok, i_some, i_int, i_str, i_bool, i_list, i_tup, i_and, i_or, u_rg, u_rg2, flatQ_map, flatQ_capp, Int.toNat_natCast, List.length_range, capp_rg, capp_frg, g_len, g_lt, Bool.and_true, Bool.true_and, Bool.and_false, Bool.false_and, Bool.or_true, Bool.true_or, Bool.or_false, Bool.false_or, capp_map, capp_fmap, capp_ok,  List.length_map, List.length_append, List.length_cons, List.length_nil, ix, dict_v, sd_idx_map, ok_own t, ok_near t hv, ok_sure t hv, nr, ie, al]
    exact h1 _ rfl
  simp -implicitDefEqProofs (maxSteps := 4000000) (disch := first | assumption | omega | decide | (simp only [List.length_map, List.length_append, List.length_cons, List.length_nil, List.length_range, List.length_drop, List.length_take, List.length_reverse]; omega)) only [e_varT, e_varF, e_con, e_tup, e_lst, e_dct, e_bin, e_cat, e_neg, e_not, e_and, e_or, e_cmp, u_cmp2, e_ite, e_idx, e_cut, u_rev, e_bi, e_me, e_isi, e_call, u_callw, u_next, q_next, e_nil, e_cons, e_o0, e_o1, e_if0, e_if1, evKV, st_nil, st_cons, st_asg, st_asgT, st_par, st_ret, st_brk, st_ite, u_for, u_frz, u_app, u_ext, u_put, u_aug, u_lset, o_obj, o_own, o_ownL, o_ownK, o_lst, b_ok, b_some, b_b, o_some, q_b, q_ok, q_some, s_g0, s_gs, s_pv, s_po, s_vv, v_addI, v_sub, v_mulR, v_mulA, v_divP, v_modP, v_pow, c_eqI, p_seq, p_keys, p_range, p_zip, p_enum, p_items, p_values, c_eqS, c_eqB, c_eqN, c_neI, c_neS, c_lt, c_gt, c_le, c_ge, c_isN, c_isnotN, n_none, n_int, n_bool, n_str, n_tup, n_list, n_dict, Bool.not_true, Bool.not_false, gd_t, f_int, f_abs, f_tupL, f_tupT, f_listL, f_listT, f_listD, f_min, f_max, l_list, l_tup, l_dict, w_list, w_tup, w_keys, t_bool, t_int, s_k0, s_kc, s_tn, Ly.fresh, Ly.freshL, setAll, List.set_cons_zero, List.set_cons_succ, if_true, if_false, Bool.false_eq_true, ite_true, ite_false, List.all_nil, mg_nil, e_comp, e_elt, e_gen, capp_ite, flatP_map, flatP_capp, flatA_cons, flatA_nil, capp_bind, List.cons_append, List.nil_append, fm_one, fm_if, fm_ifs, ap_nil, i_ok, i_some, i_int, i_str, i_bool, i_list, i_tup, i_and, i_or, u_rg, u_rg2, flatQ_map, flatQ_capp, Int.toNat_natCast, List.length_range, capp_rg, capp_frg, g_len, g_lt, Bool.and_true, Bool.true_and, Bool.and_false, Bool.false_and, Bool.or_true, Bool.true_or, Bool.or_false, Bool.false_or, capp_map, capp_fmap, capp_ok,  List.length_map, List.length_append, List.length_cons, List.length_nil]
  let rw_ : Nat → List Row := fun i => (List.range i).flatMap fun i => ((NM.take n).reverse.drop (i + 1)).map fun y => (((differL (th ((NM.take n).reverse.getD i "")) (th y)).length : Int), (NM.take n).reverse.getD i "", y)
  refine for_I (List.range (NM.take n).reverse.length) (fun k => .int (k : Nat)) (fun i Γ => Γ = [.obj, .val (dT (NM.take n) th), .non, .val (.dict (sd ((NM.take n).reverse.map fun x => (x, .list ((wrongL (th x) g).map .str))))), .non, .val (.int (leastL9 (NM.take n).reverse th g)), .val (.tuple ((bestL (NM.take n).reverse th g).map .str)), .val (.tuple [if (!(NM.take n).reverse.isEmpty) = true then .tuple [.int (leastL9 (NM.take n).reverse th g), .tuple ((bestL (NM.take n).reverse th g).map .str)] else .none, mendedD (NM.take n) (NM.take n).reverse th g]), .non, .val (.list ((rw_ i).map rowD)), .non, .non, .non, .val (.list ((NM.take n).reverse.map .str)), .val (dV g), .non, .non, .non]) rfl rfl ?_ ?_
  · intro i x hi Γ hΓ κ' h1 h2 h3 h4
    subst hΓ
    obtain ⟨hl, hx⟩ := List.getElem?_eq_some_iff.mp hi
    rw [List.length_range] at hl
    rw [List.getElem_range] at hx
    subst hx
    have m1 : (NM.take n).reverse.getD i "" ∈ (NM.take n).reverse := getD_mem hl
    have m2 : ∀ j, j < (NM.take n).reverse.length - (i + 1) → (NM.take n).reverse.getD ((i : Int) + 1 + (j : Nat)).toNat "" ∈ (NM.take n).reverse := fun j hj => getD_mem (by omega)
    have ij : ∀ j, j < (((NM.take n).reverse.length : Int) - ((i : Int) + 1)).toNat → idxD (dT (NM.take n) th) (.str ((NM.take n).reverse.getD ((i : Int) + 1 + (j : Nat)).toNat "")) = some (dV (th ((NM.take n).reverse.getD ((i : Int) + 1 + (j : Nat)).toNat ""))) := fun j hj => ix _ (m2 j (by omega))
    have dr : (List.range ((((NM.take n).reverse.length : Int) - ((i : Int) + 1)).toNat)).map (fun j => PyData.tuple [.int ((differL (th ((NM.take n).reverse.getD i "")) (th ((NM.take n).reverse.getD ((i : Int) + 1 + (j : Nat)).toNat ""))).length : Int), .str ((NM.take n).reverse.getD i ""), .str ((NM.take n).reverse.getD ((i : Int) + 1 + (j : Nat)).toNat "")]) = (((NM.take n).reverse.drop (i + 1)).map fun y => (((differL (th ((NM.take n).reverse.getD i "")) (th y)).length : Int), (NM.take n).reverse.getD i "", y)).map rowD := by
      rw [drop_rg ("" : Str), List.map_map, List.map_map, show (((NM.take n).reverse.length : Int) - ((i : Int) + 1)).toNat = (NM.take n).reverse.length - (i + 1) by omega]
      refine List.map_congr_left fun j _ => ?_
      rw [show ((i : Int) + 1 + (j : Nat)).toNat = i + 1 + j by omega]
      rfl
    have rl : (rw_ i).length ≤ 36 := by
      show ((List.range i).flatMap _).length ≤ _
      rw [List.length_flatMap]
      have : ∀ l : List Nat, (l.map fun i => (((NM.take n).reverse.drop (i + 1)).map fun y => (((differL (th ((NM.take n).reverse.getD i "")) (th y)).length : Int), (NM.take n).reverse.getD i "", y)).length).sum ≤ l.length * 6 := fun l => by
        induction l with
        | nil => simp
        | cons a r ih =>
          rw [List.map_cons, List.sum_cons, List.length_cons, List.length_map, List.length_drop]
          omega
      have := this (List.range i)
      rw [List.length_range] at this
      omega
    have ad : binD .add (.list ((rw_ i).map rowD)) (.list ((((NM.take n).reverse.drop (i + 1)).map fun y => (((differL (th ((NM.take n).reverse.getD i "")) (th y)).length : Int), (NM.take n).reverse.getD i "", y)).map rowD)) = some (.list ((rw_ (i + 1)).map rowD)) := by
      rw [v_addL, g_le (by rw [List.length_map, List.length_map, List.length_map, List.length_drop]; omega), ← List.map_append]
      show _ = some (PyData.list (List.map rowD ((List.range (i + 1)).flatMap _)))
      rw [List.range_succ, List.flatMap_append, List.flatMap_cons, List.flatMap_nil, List.append_nil]
    simp -implicitDefEqProofs (maxSteps := 4000000) (disch := first | assumption | omega | decide | (simp only [List.length_map, List.length_append, List.length_cons, List.length_nil, List.length_range, List.length_drop, List.length_take, List.length_reverse]; omega)) only [e_varT, e_varF, e_con, e_tup, e_lst, e_dct, e_bin, e_cat, e_neg, e_not, e_and, e_or, e_cmp, u_cmp2, e_ite, e_idx, e_cut, u_rev, e_bi, e_me, e_isi, e_call, u_callw, u_next, q_next, e_nil, e_cons, e_o0, e_o1, e_if0, e_if1, evKV, st_nil, st_cons, st_asg, st_asgT, st_par, st_ret, st_brk, st_ite, u_for, u_frz, u_app, u_ext, u_put, u_aug, u_lset, o_obj, o_own, o_ownL, o_ownK, o_lst, b_ok, b_some, b_b, o_some, q_b, q_ok, q_some, s_g0, s_gs, s_pv, s_po, s_vv, v_addI, v_sub, v_mulR, v_mulA, v_divP, v_modP, v_pow, c_eqI, p_seq, p_keys, p_range, p_zip, p_enum, p_items, p_values, c_eqS, c_eqB, c_eqN, c_neI, c_neS, c_lt, c_gt, c_le, c_ge, c_isN, c_isnotN, n_none, n_int, n_bool, n_str, n_tup, n_list, n_dict, Bool.not_true, Bool.not_false, gd_t, f_int, f_abs, f_tupL, f_tupT, f_listL, f_listT, f_listD, f_min, f_max, l_list, l_tup, l_dict, w_list, w_tup, w_keys, t_bool, t_int, s_k0, s_kc, s_tn, Ly.fresh, Ly.freshL, setAll, List.set_cons_zero, List.set_cons_succ, if_true, if_false, Bool.false_eq_true, ite_true, ite_false, List.all_nil, mg_nil, e_comp, e_elt, e_gen, capp_ite, flatP_map, flatP_capp, flatA_cons, flatA_nil, capp_bind, List.cons_append, List.nil_append, fm_one, fm_if, fm_ifs, ap_nil, i_ok, i_some, i_int, i_str, i_bool, i_list, i_tup, i_and, i_or, u_rg, u_rg2, flatQ_map, flatQ_capp, Int.toNat_natCast, List.length_range, capp_rg, capp_frg, g_len, g_lt, Bool.and_true, Bool.true_and, Bool.and_false, Bool.false_and, Bool.or_true, Bool.true_or, Bool.or_false, Bool.false_or, capp_map, capp_fmap, capp_ok,  List.length_map, List.length_append, List.length_cons, List.length_nil, x_getL (α := Str) "", ix _ m1, Int.toNat_natCast, ij, ok_ldiffer, dr, ad]
    refine h1 _ ?_
    rfl
  · intro Γ hΓ
    subst hΓ
    have er : rw_ (List.range (NM.take n).reverse.length).length = rowsL (NM.take n).reverse th := by
      show (List.range _).flatMap _ = _
      rw [List.length_range]
      unfold rowsL pairsL
      rw [List.map_flatMap]
      rw [List.flatMap_def, List.flatMap_def]
      congr 1
      refine List.map_congr_left fun i _ => ?_
      rw [List.map_map]
      rfl
    have ll : lay 2 (.list ((rowsL (NM.take n).reverse th).map rowD)) := lay_list fun x hx => by
      obtain ⟨r, hr, rfl⟩ := List.mem_map.mp hx
      exact row_lay (t.rows_sh r hr)
    have sl := lay_sh ll (by decide)
    rw [er]
    have ie : ((rowsL (NM.take n).reverse th).map rowD).isEmpty = (rowsL (NM.take n).reverse th).isEmpty := by cases rowsL (NM.take n).reverse th <;> rfl
    cases hr : rowsL (NM.take n).reverse th with
    | nil =>
      have g1 := ok_gap t (k + 7)
      have g2 := ok_sees t (k + 6)
      have g3 := ok_mends t (k + 6)
      unfold gapD at g1
      unfold seesD at g2
      unfold mendsD at g3
      rw [hr] at g1 g2 g3
      have al := alike6 (k := k + 5) (d := .tuple [.none, .none, .none]) (okA_three trivial trivial trivial)
      have c1 : cmpD .ne (.list (([] : List Row).map rowD)) (.list []) = some false := rfl
      have c2 : cmpD .eq (.list (([] : List Row).map rowD)) (.list []) = some true := rfl
      simp -implicitDefEqProofs (maxSteps := 4000000) (disch := first | assumption | omega | decide | (simp only [List.length_map, List.length_append, List.length_cons, List.length_nil, List.length_range, List.length_drop, List.length_take, List.length_reverse]; omega)) only [e_varT, e_varF, e_con, e_tup, e_lst, e_dct, e_bin, e_cat, e_neg, e_not, e_and, e_or, e_cmp, u_cmp2, e_ite, e_idx, e_cut, u_rev, e_bi, e_me, e_isi, e_call, u_callw, u_next, q_next, e_nil, e_cons, e_o0, e_o1, e_if0, e_if1, evKV, st_nil, st_cons, st_asg, st_asgT, st_par, st_ret, st_brk, st_ite, u_for, u_frz, u_app, u_ext, u_put, u_aug, u_lset, o_obj, o_own, o_ownL, o_ownK, o_lst, b_ok, b_some, b_b, o_some, q_b, q_ok, q_some, s_g0, s_gs, s_pv, s_po, s_vv, v_addI, v_sub, v_mulR, v_mulA, v_divP, v_modP, v_pow, c_eqI, p_seq, p_keys, p_range, p_zip, p_enum, p_items, p_values, c_eqS, c_eqB, c_eqN, c_neI, c_neS, c_lt, c_gt, c_le, c_ge, c_isN, c_isnotN, n_none, n_int, n_bool, n_str, n_tup, n_list, n_dict, Bool.not_true, Bool.not_false, gd_t, f_int, f_abs, f_tupL, f_tupT, f_listL, f_listT, f_listD, f_min, f_max, l_list, l_tup, l_dict, w_list, w_tup, w_keys, t_bool, t_int, s_k0, s_kc, s_tn, Ly.fresh, Ly.freshL, setAll, List.set_cons_zero, List.set_cons_succ, if_true, if_false, Bool.false_eq_true, ite_true, ite_false, List.all_nil, mg_nil, e_comp, e_elt, e_gen, capp_ite, flatP_map, flatP_capp, flatA_cons, flatA_nil, capp_bind, List.cons_append, List.nil_append, fm_one, fm_if, fm_ifs, ap_nil, i_ok, i_some, i_int, i_str, i_bool, i_list, i_tup, i_and, i_or, u_rg, u_rg2, flatQ_map, flatQ_capp, Int.toNat_natCast, List.length_range, capp_rg, capp_frg, g_len, g_lt, Bool.and_true, Bool.true_and, Bool.and_false, Bool.false_and, Bool.or_true, Bool.true_or, Bool.or_false, Bool.false_or, capp_map, capp_fmap, capp_ok,  List.length_map, List.length_append, List.length_cons, List.length_nil, c1, c2, ok_own t, g1, g2, g3, minR, optD, al]
      rw [hκ]
      exact h
    | cons r0 rs =>
      have ne : rowsL (NM.take n).reverse th ≠ [] := by rw [hr]; simp
      obtain ⟨r, hr2⟩ : ∃ r, minR (rowsL (NM.take n).reverse th) = some r := by rw [hr]; exact ⟨_, rfl⟩
      have g1 := ok_gap t (k + 7)
      have g2 := ok_sees t (k + 6)
      have g3 := ok_mends t (k + 6)
      unfold gapD at g1
      unfold seesD at g2
      unfold mendsD at g3
      rw [hr2] at g1 g2 g3
      have c1 : cmpD .ne (.list ((rowsL (NM.take n).reverse th).map rowD)) (.list []) = some true := by rw [ne_nil sl, ie, hr]; rfl
      have c2 : cmpD .eq (.list ((rowsL (NM.take n).reverse th).map rowD)) (.list []) = some false := by rw [eq_nil' sl, ie, hr]; rfl
      have mr := min_rows t.rows_sh ne
      rw [hr2] at mr
      have al := alike6 (k := k + 5) (d := .tuple [rowD r, .int (seesN r), .int (seesN r / 2)]) (okA_three (okA_three trivial trivial trivial) trivial trivial)
      have sn : (if decide (0 < r.1) = true then r.1 - 1 else 0) = seesN r := by
        unfold seesN
        by_cases p : 0 < r.1
        · by_cases q : 0 < r.1 - 1
          · rw [if_pos (decide_eq_true p), if_pos q]
          · rw [if_pos (decide_eq_true p), if_neg q]; omega
        · rw [if_neg (by simpa using p), if_neg (by omega)]
      rw [← hr]
      simp -implicitDefEqProofs (maxSteps := 4000000) (disch := first | assumption | omega | decide | (simp only [List.length_map, List.length_append, List.length_cons, List.length_nil, List.length_range, List.length_drop, List.length_take, List.length_reverse]; omega)) only [e_varT, e_varF, e_con, e_tup, e_lst, e_dct, e_bin, e_cat, e_neg, e_not, e_and, e_or, e_cmp, u_cmp2, e_ite, e_idx, e_cut, u_rev, e_bi, e_me, e_isi, e_call, u_callw, u_next, q_next, e_nil, e_cons, e_o0, e_o1, e_if0, e_if1, evKV, st_nil, st_cons, st_asg, st_asgT, st_par, st_ret, st_brk, st_ite, u_for, u_frz, u_app, u_ext, u_put, u_aug, u_lset, o_obj, o_own, o_ownL, o_ownK, o_lst, b_ok, b_some, b_b, o_some, q_b, q_ok, q_some, s_g0, s_gs, s_pv, s_po, s_vv, v_addI, v_sub, v_mulR, v_mulA, v_divP, v_modP, v_pow, c_eqI, p_seq, p_keys, p_range, p_zip, p_enum, p_items, p_values, c_eqS, c_eqB, c_eqN, c_neI, c_neS, c_lt, c_gt, c_le, c_ge, c_isN, c_isnotN, n_none, n_int, n_bool, n_str, n_tup, n_list, n_dict, Bool.not_true, Bool.not_false, gd_t, f_int, f_abs, f_tupL, f_tupT, f_listL, f_listT, f_listD, f_min, f_max, l_list, l_tup, l_dict, w_list, w_tup, w_keys, t_bool, t_int, s_k0, s_kc, s_tn, Ly.fresh, Ly.freshL, setAll, List.set_cons_zero, List.set_cons_succ, if_true, if_false, Bool.false_eq_true, ite_true, ite_false, List.all_nil, mg_nil, e_comp, e_elt, e_gen, capp_ite, flatP_map, flatP_capp, flatA_cons, flatA_nil, capp_bind, List.cons_append, List.nil_append, fm_one, fm_if, fm_ifs, ap_nil, i_ok, i_some, i_int, i_str, i_bool, i_list, i_tup, i_and, i_or, u_rg, u_rg2, flatQ_map, flatQ_capp, Int.toNat_natCast, List.length_range, capp_rg, capp_frg, g_len, g_lt, Bool.and_true, Bool.true_and, Bool.and_false, Bool.false_and, Bool.or_true, Bool.true_or, Bool.or_false, Bool.false_or, capp_map, capp_fmap, capp_ok,  List.length_map, List.length_append, List.length_cons, List.length_nil, c1, c2, ok_own t, g1, g2, g3, mr, optD, row_0, sn, al]
      rw [hκ]
      by_cases q : (r.1 == 0) = true
      · rw [if_pos q]
        exact h
      · rw [if_neg q, ok_safe hg n hn (k + 9) hr2]
        exact h
end K02

set_option maxRecDepth 100000
set_option maxHeartbeats 4000000
namespace K02
open PySem Ly
/-! ### when a thing was lost -/
structure Ride where
  l : Str
  b : Int
  e : Int
  deriving Inhabited
def rD (r : Ride) : D := .tuple [.str r.l, .int r.b, .int r.e]
def rsD (rs : List Ride) : D := .tuple (rs.map rD)
def iT (xs : List Int) : D := .tuple (xs.map .int)
def optI : Option Int → D
  | some i => .int i
  | none => .none
def mxO : List Int → Option Int
  | [] => none
  | x :: r => some (r.foldl (fun m y => if m < y then y else m) x)
def mnO : List Int → Option Int
  | [] => none
  | x :: r => some (r.foldl (fun m y => if y < m then y else m) x)
theorem mx_of {xs : List Int} {m : Int} (hm : m ∈ xs) (h : ∀ y ∈ xs, y ≤ m) : mxO xs = some m := by
  have key : ∀ (r : List Int) (x : Int), (r.foldl (fun m y => if m < y then y else m) x = x ∨ r.foldl (fun m y => if m < y then y else m) x ∈ r) ∧ x ≤ r.foldl (fun m y => if m < y then y else m) x ∧ ∀ y ∈ r, y ≤ r.foldl (fun m y => if m < y then y else m) x := by
    intro r
    induction r with
    | nil => exact fun x => ⟨.inl rfl, Int.le_refl x, fun y h => by cases h⟩
    | cons a r ih =>
      intro x
      rw [List.foldl_cons]
      obtain ⟨h1, h2, h3⟩ := ih (if x < a then a else x)
      refine ⟨?_, ?_, fun y hy => ?_⟩
      · rcases h1 with h1 | h1
        · rw [h1]
          split
          · exact .inr (by simp)
          · exact .inl rfl
        · exact .inr (by simp [h1])
      · split at h2 <;> split <;> omega
      · rcases List.mem_cons.mp hy with rfl | hy
        · split at h2 <;> split <;> omega
        · exact h3 y hy
  cases xs with
  | nil => cases hm
  | cons x r =>
    obtain ⟨h1, h2, h3⟩ := key r x
    have hi : r.foldl (fun m y => if m < y then y else m) x ∈ x :: r := by
      rcases h1 with h1 | h1
      · rw [h1]; simp
      · simp [h1]
    have a := h _ hi
    have b : m ≤ r.foldl (fun m y => if m < y then y else m) x := by
      rcases List.mem_cons.mp hm with rfl | hm
      · exact h2
      · exact h3 m hm
    show some _ = some m
    congr 1
    omega
theorem mn_of {xs : List Int} {m : Int} (hm : m ∈ xs) (h : ∀ y ∈ xs, m ≤ y) : mnO xs = some m := by
  cases xs with
  | nil => cases hm
  | cons x r =>
    have e : mnO (x :: r) = some (leastN (x :: r)) := rfl
    rw [e, leastN_eq hm h]
theorem mx_get {xs : List Int} (h : xs ≠ []) : ∃ m ∈ xs, mxO xs = some m ∧ biD .max [iT xs] = some (.int m) ∧ ∀ y ∈ xs, y ≤ m := by
  obtain ⟨m, hm, _, e, h⟩ := max_I (fun x : Int => x) h
  exact ⟨m, hm, mx_of hm h, e, h⟩
theorem mn_get {xs : List Int} (h : xs ≠ []) : ∃ m ∈ xs, mnO xs = some m ∧ biD .min [iT xs] = some (.int m) ∧ ∀ y ∈ xs, m ≤ y := by
  obtain ⟨m, hm, _, e, h⟩ := min_I (fun x : Int => x) h
  exact ⟨m, hm, mn_of hm h, e, h⟩
/-- nothing missed before it was had -/
def okB (had missed : List Int) : Bool := (had.filter fun a => !(missed.filter fun m => decide (m ≤ a)).isEmpty).isEmpty
theorem okB_iff {had missed : List Int} : okB had missed = true ↔ ∀ a ∈ had, ∀ m ∈ missed, a < m := by
  unfold okB
  rw [List.isEmpty_iff, List.filter_eq_nil_iff]
  constructor
  · intro h a ha m hm
    have := h a ha
    simp only [Bool.not_eq_true, Bool.not_eq_false', List.isEmpty_iff, List.filter_eq_nil_iff, decide_eq_true_eq] at this
    have := this m hm
    omega
  · intro h a ha
    simp only [Bool.not_eq_true, Bool.not_eq_false', List.isEmpty_iff, List.filter_eq_nil_iff, decide_eq_true_eq]
    intro m hm
    have := h a ha m hm
    omega
def spanT (had missed : List Int) : D := .tuple [optI (mxO had), optI (mnO missed)]
def spanD (had missed : List Int) : D := if okB had missed = true then spanT had missed else .none
theorem ne_nilT (xs : List Int) : cmpD .ne (iT xs) (.tuple []) = some (!xs.isEmpty) := by
  show (gd (sh (iT xs) && sh (.tuple [])) (PyData.eqv (iT xs) (.tuple []))).map (!·) = _
  have : sh (iT xs) = true := lay_sh (n := 1) (lay_tup fun d hd => by
    obtain ⟨x, _, rfl⟩ := List.mem_map.mp hd
    exact lay_int _) (by decide)
  rw [this]
  cases xs with
  | nil => rfl
  | cons a r => rfl
theorem ok_span (had missed : List Int) (k : Nat) : cfN T (k + 1) 10 [iT had, iT missed] = W.ok (spanD had missed) := by
  refine call_ok (f := g_lost_span) rfl rfl fun κ hκ => ?_
  show evSs _ _ _ [.val (iT had), .val (iT missed), .non, .non]
  unfold spanD spanT at hκ
  by_cases h1 : had = []
  · have o : okB had missed = true := by rw [okB_iff, h1]; intro a ha; cases ha
    rw [if_pos o] at hκ
    subst h1
    by_cases h2 : missed = []
    · subst h2
      simp -implicitDefEqProofs (maxSteps := 4000000) (disch := first | assumption | omega | decide | (simp only [List.length_map, List.length_append, List.length_cons, List.length_nil, List.length_range, List.length_drop, List.length_take, List.length_reverse]; omega)) only [e_varT, e_varF, e_con, e_tup, e_lst, e_dct, e_bin, e_cat, e_neg, e_not, e_and, e_or, e_cmp, u_cmp2, e_ite, e_idx, e_cut, u_rev, e_bi, e_me, e_isi, e_call, u_callw, u_next, q_next, e_nil, e_cons, e_o0, e_o1, e_if0, e_if1, evKV, st_nil, st_cons, st_asg, st_asgT, st_par, st_ret, st_brk, st_ite, u_for, u_frz, u_app, u_ext, u_put, u_aug, u_lset, o_obj, o_own, o_ownL, o_ownK, o_lst, b_ok, b_some, b_b, o_some, q_b, q_ok, q_some, s_g0, s_gs, s_pv, s_po, s_vv, v_addI, v_sub, v_mulR, v_mulA, v_divP, v_modP, v_pow, c_eqI, p_seq, p_keys, p_range, p_zip, p_enum, p_items, p_values, c_eqS, c_eqB, c_eqN, c_neI, c_neS, c_lt, c_gt, c_le, c_ge, c_isN, c_isnotN, n_none, n_int, n_bool, n_str, n_tup, n_list, n_dict, Bool.not_true, Bool.not_false, gd_t, f_int, f_abs, f_tupL, f_tupT, f_listL, f_listT, f_listD, f_min, f_max, l_list, l_tup, l_dict, w_list, w_tup, w_keys, t_bool, t_int, s_k0, s_kc, s_tn, Ly.fresh, Ly.freshL, setAll, List.set_cons_zero, List.set_cons_succ, if_true, if_false, Bool.false_eq_true, ite_true, ite_false, List.all_nil, mg_nil, e_comp, e_elt, e_gen, capp_ite, flatP_map, flatP_capp, flatA_cons, flatA_nil, capp_bind, List.cons_append, List.nil_append, fm_one, fm_if, fm_ifs, ap_nil, i_ok, i_some, i_int, i_str, i_bool, i_list, i_tup, i_and, i_or, u_rg, u_rg2, flatQ_map, flatQ_capp, Int.toNat_natCast, List.length_range, capp_rg, capp_frg, g_len, g_lt, Bool.and_true, Bool.true_and, Bool.and_false, Bool.false_and, Bool.or_true, Bool.true_or, Bool.or_false, Bool.false_or, capp_map, capp_fmap, capp_ok,  List.length_map, List.length_append, List.length_cons, List.length_nil, g_lost_span, ne_nilT, List.isEmpty_nil]
      exact hκ
    · obtain ⟨m, hm, e1, e2, e3⟩ := mn_get h2
      have em : missed.isEmpty = false := by simpa using h2
      rw [e1] at hκ
      simp -implicitDefEqProofs (maxSteps := 4000000) (disch := first | assumption | omega | decide | (simp only [List.length_map, List.length_append, List.length_cons, List.length_nil, List.length_range, List.length_drop, List.length_take, List.length_reverse]; omega)) only [e_varT, e_varF, e_con, e_tup, e_lst, e_dct, e_bin, e_cat, e_neg, e_not, e_and, e_or, e_cmp, u_cmp2, e_ite, e_idx, e_cut, u_rev, e_bi, e_me, e_isi, e_call, u_callw, u_next, q_next, e_nil, e_cons, e_o0, e_o1, e_if0, e_if1, evKV, st_nil, st_cons, st_asg, st_asgT, st_par, st_ret, st_brk, st_ite, u_for, u_frz, u_app, u_ext, u_put, u_aug, u_lset, o_obj, o_own, o_ownL, o_ownK, o_lst, b_ok, b_some, b_b, o_some, q_b, q_ok, q_some, s_g0, s_gs, s_pv, s_po, s_vv, v_addI, v_sub, v_mulR, v_mulA, v_divP, v_modP, v_pow, c_eqI, p_seq, p_keys, p_range, p_zip, p_enum, p_items, p_values, c_eqS, c_eqB, c_eqN, c_neI, c_neS, c_lt, c_gt, c_le, c_ge, c_isN, c_isnotN, n_none, n_int, n_bool, n_str, n_tup, n_list, n_dict, Bool.not_true, Bool.not_false, gd_t, f_int, f_abs, f_tupL, f_tupT, f_listL, f_listT, f_listD, f_min, f_max, l_list, l_tup, l_dict, w_list, w_tup, w_keys, t_bool, t_int, s_k0, s_kc, s_tn, Ly.fresh, Ly.freshL, setAll, List.set_cons_zero, List.set_cons_succ, if_true, if_false, Bool.false_eq_true, ite_true, ite_false, List.all_nil, mg_nil, e_comp, e_elt, e_gen, capp_ite, flatP_map, flatP_capp, flatA_cons, flatA_nil, capp_bind, List.cons_append, List.nil_append, fm_one, fm_if, fm_ifs, ap_nil, i_ok, i_some, i_int, i_str, i_bool, i_list, i_tup, i_and, i_or, u_rg, u_rg2, flatQ_map, flatQ_capp, Int.toNat_natCast, List.length_range, capp_rg, capp_frg, g_len, g_lt, Bool.and_true, Bool.true_and, Bool.and_false, Bool.false_and, Bool.or_true, Bool.true_or, Bool.or_false, Bool.false_or, capp_map, capp_fmap, capp_ok,  List.length_map, List.length_append, List.length_cons, List.length_nil, g_lost_span, ne_nilT, List.isEmpty_nil, em, e2]
      exact hκ
  · obtain ⟨m, hm, e1, e2, e3⟩ := mx_get h1
    have em : had.isEmpty = false := by simpa using h1
    by_cases h2 : missed = []
    · have o : okB had missed = true := by rw [okB_iff, h2]; intro a ha b hb; cases hb
      rw [if_pos o, e1] at hκ
      subst h2
      simp -implicitDefEqProofs (maxSteps := 4000000) (disch := first | assumption | omega | decide | (simp only [List.length_map, List.length_append, List.length_cons, List.length_nil, List.length_range, List.length_drop, List.length_take, List.length_reverse]; omega)) only [e_varT, e_varF, e_con, e_tup, e_lst, e_dct, e_bin, e_cat, e_neg, e_not, e_and, e_or, e_cmp, u_cmp2, e_ite, e_idx, e_cut, u_rev, e_bi, e_me, e_isi, e_call, u_callw, u_next, q_next, e_nil, e_cons, e_o0, e_o1, e_if0, e_if1, evKV, st_nil, st_cons, st_asg, st_asgT, st_par, st_ret, st_brk, st_ite, u_for, u_frz, u_app, u_ext, u_put, u_aug, u_lset, o_obj, o_own, o_ownL, o_ownK, o_lst, b_ok, b_some, b_b, o_some, q_b, q_ok, q_some, s_g0, s_gs, s_pv, s_po, s_vv, v_addI, v_sub, v_mulR, v_mulA, v_divP, v_modP, v_pow, c_eqI, p_seq, p_keys, p_range, p_zip, p_enum, p_items, p_values, c_eqS, c_eqB, c_eqN, c_neI, c_neS, c_lt, c_gt, c_le, c_ge, c_isN, c_isnotN, n_none, n_int, n_bool, n_str, n_tup, n_list, n_dict, Bool.not_true, Bool.not_false, gd_t, f_int, f_abs, f_tupL, f_tupT, f_listL, f_listT, f_listD, f_min, f_max, l_list, l_tup, l_dict, w_list, w_tup, w_keys, t_bool, t_int, s_k0, s_kc, s_tn, Ly.fresh, Ly.freshL, setAll, List.set_cons_zero, List.set_cons_succ, if_true, if_false, Bool.false_eq_true, ite_true, ite_false, List.all_nil, mg_nil, e_comp, e_elt, e_gen, capp_ite, flatP_map, flatP_capp, flatA_cons, flatA_nil, capp_bind, List.cons_append, List.nil_append, fm_one, fm_if, fm_ifs, ap_nil, i_ok, i_some, i_int, i_str, i_bool, i_list, i_tup, i_and, i_or, u_rg, u_rg2, flatQ_map, flatQ_capp, Int.toNat_natCast, List.length_range, capp_rg, capp_frg, g_len, g_lt, Bool.and_true, Bool.true_and, Bool.and_false, Bool.false_and, Bool.or_true, Bool.true_or, Bool.or_false, Bool.false_or, capp_map, capp_fmap, capp_ok,  List.length_map, List.length_append, List.length_cons, List.length_nil, g_lost_span, ne_nilT, List.isEmpty_nil, em, e2]
      exact hκ
    · obtain ⟨m2, hm2, f1, f2, f3⟩ := mn_get h2
      have em2 : missed.isEmpty = false := by simpa using h2
      rw [e1, f1] at hκ
      by_cases q : m2 ≤ m
      · have o : okB had missed = false := by
          rw [Bool.eq_false_iff]
          intro z
          have := okB_iff.mp z m hm m2 hm2
          omega
        rw [o] at hκ
        simp -implicitDefEqProofs (maxSteps := 4000000) (disch := first | assumption | omega | decide | (simp only [List.length_map, List.length_append, List.length_cons, List.length_nil, List.length_range, List.length_drop, List.length_take, List.length_reverse]; omega)) only [e_varT, e_varF, e_con, e_tup, e_lst, e_dct, e_bin, e_cat, e_neg, e_not, e_and, e_or, e_cmp, u_cmp2, e_ite, e_idx, e_cut, u_rev, e_bi, e_me, e_isi, e_call, u_callw, u_next, q_next, e_nil, e_cons, e_o0, e_o1, e_if0, e_if1, evKV, st_nil, st_cons, st_asg, st_asgT, st_par, st_ret, st_brk, st_ite, u_for, u_frz, u_app, u_ext, u_put, u_aug, u_lset, o_obj, o_own, o_ownL, o_ownK, o_lst, b_ok, b_some, b_b, o_some, q_b, q_ok, q_some, s_g0, s_gs, s_pv, s_po, s_vv, v_addI, v_sub, v_mulR, v_mulA, v_divP, v_modP, v_pow, c_eqI, p_seq, p_keys, p_range, p_zip, p_enum, p_items, p_values, c_eqS, c_eqB, c_eqN, c_neI, c_neS, c_lt, c_gt, c_le, c_ge, c_isN, c_isnotN, n_none, n_int, n_bool, n_str, n_tup, n_list, n_dict, Bool.not_true, Bool.not_false, gd_t, f_int, f_abs, f_tupL, f_tupT, f_listL, f_listT, f_listD, f_min, f_max, l_list, l_tup, l_dict, w_list, w_tup, w_keys, t_bool, t_int, s_k0, s_kc, s_tn, Ly.fresh, Ly.freshL, setAll, List.set_cons_zero, List.set_cons_succ, if_true, if_false, Bool.false_eq_true, ite_true, ite_false, List.all_nil, mg_nil, e_comp, e_elt, e_gen, capp_ite, flatP_map, flatP_capp, flatA_cons, flatA_nil, capp_bind, List.cons_append, List.nil_append, fm_one, fm_if, fm_ifs, ap_nil, i_ok, i_some, i_int, i_str, i_bool, i_list, i_tup, i_and, i_or, u_rg, u_rg2, flatQ_map, flatQ_capp, Int.toNat_natCast, List.length_range, capp_rg, capp_frg, g_len, g_lt, Bool.and_true, Bool.true_and, Bool.and_false, Bool.false_and, Bool.or_true, Bool.true_or, Bool.or_false, Bool.false_or, capp_map, capp_fmap, capp_ok,  List.length_map, List.length_append, List.length_cons, List.length_nil, g_lost_span, ne_nilT, em, em2, e2, f2, decide_eq_true q]
        exact hκ
      · have o : okB had missed = true := okB_iff.mpr fun a ha b hb => by
          have := e3 a ha
          have := f3 b hb
          omega
        rw [if_pos o] at hκ
        simp -implicitDefEqProofs (maxSteps := 4000000) (disch := first | assumption | omega | decide | (simp only [List.length_map, List.length_append, List.length_cons, List.length_nil, List.length_range, List.length_drop, List.length_take, List.length_reverse]; omega)) only [e_varT, e_varF, e_con, e_tup, e_lst, e_dct, e_bin, e_cat, e_neg, e_not, e_and, e_or, e_cmp, u_cmp2, e_ite, e_idx, e_cut, u_rev, e_bi, e_me, e_isi, e_call, u_callw, u_next, q_next, e_nil, e_cons, e_o0, e_o1, e_if0, e_if1, evKV, st_nil, st_cons, st_asg, st_asgT, st_par, st_ret, st_brk, st_ite, u_for, u_frz, u_app, u_ext, u_put, u_aug, u_lset, o_obj, o_own, o_ownL, o_ownK, o_lst, b_ok, b_some, b_b, o_some, q_b, q_ok, q_some, s_g0, s_gs, s_pv, s_po, s_vv, v_addI, v_sub, v_mulR, v_mulA, v_divP, v_modP, v_pow, c_eqI, p_seq, p_keys, p_range, p_zip, p_enum, p_items, p_values, c_eqS, c_eqB, c_eqN, c_neI, c_neS, c_lt, c_gt, c_le, c_ge, c_isN, c_isnotN, n_none, n_int, n_bool, n_str, n_tup, n_list, n_dict, Bool.not_true, Bool.not_false, gd_t, f_int, f_abs, f_tupL, f_tupT, f_listL, f_listT, f_listD, f_min, f_max, l_list, l_tup, l_dict, w_list, w_tup, w_keys, t_bool, t_int, s_k0, s_kc, s_tn, Ly.fresh, Ly.freshL, setAll, List.set_cons_zero, List.set_cons_succ, if_true, if_false, Bool.false_eq_true, ite_true, ite_false, List.all_nil, mg_nil, e_comp, e_elt, e_gen, capp_ite, flatP_map, flatP_capp, flatA_cons, flatA_nil, capp_bind, List.cons_append, List.nil_append, fm_one, fm_if, fm_ifs, ap_nil, i_ok, i_some, i_int, i_str, i_bool, i_list, i_tup, i_and, i_or, u_rg, u_rg2, flatQ_map, flatQ_capp, Int.toNat_natCast, List.length_range, capp_rg, capp_frg, g_len, g_lt, Bool.and_true, Bool.true_and, Bool.and_false, Bool.false_and, Bool.or_true, Bool.true_or, Bool.or_false, Bool.false_or, capp_map, capp_fmap, capp_ok,  List.length_map, List.length_append, List.length_cons, List.length_nil, g_lost_span, ne_nilT, em, em2, e2, f2, decide_eq_false q]
        exact hκ
/-! minutes of a ride -/
def inR (had missed : List Int) (m : Int) : Bool := (had.filter fun one => decide (m < one)).isEmpty && (missed.filter fun one => decide (one ≤ m)).isEmpty
def mns (had missed : List Int) (r : Ride) : List Int := (rgI r.b r.e).filter (inR had missed)
theorem inR_iff {had missed : List Int} {m : Int} : inR had missed m = true ↔ (∀ a ∈ had, a ≤ m) ∧ ∀ a ∈ missed, m < a := by
  unfold inR
  rw [Bool.and_eq_true, List.isEmpty_iff, List.isEmpty_iff, List.filter_eq_nil_iff, List.filter_eq_nil_iff]
  simp only [decide_eq_true_eq]
  constructor
  · rintro ⟨h1, h2⟩
    exact ⟨fun a ha => by have := h1 a ha; omega, fun a ha => by have := h2 a ha; omega⟩
  · rintro ⟨h1, h2⟩
    exact ⟨fun a ha => by have := h1 a ha; omega, fun a ha => by have := h2 a ha; omega⟩
structure ROk (r : Ride) : Prop where
  b0 : 0 ≤ r.b
  b1 : r.b ≤ 1000
  e0 : 0 ≤ r.e
  e1 : r.e ≤ 1000
structure HOk (xs : List Int) : Prop where
  rng : ∀ x ∈ xs, 0 ≤ x ∧ x ≤ 1000
  len : xs.length ≤ 100
theorem f_rg {a b : Int} (h1 : -100000 ≤ a) (h2 : a ≤ 100000) (h3 : -100000 ≤ b) (h4 : b ≤ 100000) : biD .listRange [.int a, .int b] = some (.list ((rgI a b).map .int)) := by
  show gd (smallI a && smallI b && decide ((b - a).toNat ≤ lim)) (PyData.list (rangeL a b)) = _
  have lim_ := lim_v
  unfold smallI
  rw [decide_eq_true (p := -4611686018427387904 ≤ a) (by omega), decide_eq_true (p := a < 4611686018427387904) (by omega), decide_eq_true (p := -4611686018427387904 ≤ b) (by omega), decide_eq_true (p := b < 4611686018427387904) (by omega), decide_eq_true (p := (b - a).toNat ≤ lim) (by omega), rgI_D]
  rfl
theorem ok_mins {had missed : List Int} {r : Ride} (hr : ROk r) (h1 : HOk had) (h2 : HOk missed) (k : Nat) : cfN T (k + 1) 11 [rD r, spanT had missed] = W.ok (.list ((mns had missed r).map .int)) := by
  refine call_ok (f := g_minutes_in) rfl rfl fun κ hκ => ?_
  show evSs _ _ _ [.val (rD r), .val (spanT had missed), .non, .non, .non, .non, .non, .non, .non]
  have tg : ∀ Γ : Ly.Env, tgB (.tup [4, 5, 6]) (rD r) Γ = some (((Γ.set 4 (.val (.str r.l))).set 5 (.val (.int r.b))).set 6 (.val (.int r.e))) := fun _ => rfl
  have tg2 : ∀ (Γ : Ly.Env), tgB (.tup [7, 8]) (spanT had missed) Γ = some ((Γ.set 7 (.val (optI (mxO had)))).set 8 (.val (optI (mnO missed)))) := fun _ => rfl
  obtain ⟨b0, b1, e0, e1⟩ := hr
  have main : ∀ f l : Int, (∀ x, (f ≤ x ∧ x < l) ↔ (r.b ≤ x ∧ x < r.e) ∧ inR had missed x = true) → rgI f l = mns had missed r := fun f l h => by
    refine up_int (rgI_up _ _) ((rgI_up _ _).filter _) fun x => ?_
    unfold mns
    rw [List.mem_filter, rgI_mem, rgI_mem, h]
  have fin : ∀ f l : Int, -100000 ≤ f → f ≤ 100000 → -100000 ≤ l → l ≤ 100000 → (∀ x, (f ≤ x ∧ x < l) ↔ (r.b ≤ x ∧ x < r.e) ∧ inR had missed x = true) → biD .listRange [.int f, .int l] = some (.list ((mns had missed r).map .int)) := fun f l q1 q2 q3 q4 h => by
    rw [f_rg q1 q2 q3 q4, main f l h]
  by_cases n1 : had = []
  · subst n1
    have o1 : optI (mxO []) = .none := rfl
    by_cases n2 : missed = []
    · subst n2
      have o2 : optI (mnO []) = .none := rfl
      simp -implicitDefEqProofs (maxSteps := 4000000) (disch := first | assumption | omega | decide | (simp only [List.length_map, List.length_append, List.length_cons, List.length_nil, List.length_range, List.length_drop, List.length_take, List.length_reverse]; omega)) only [e_varT, e_varF, e_con, e_tup, e_lst, e_dct, e_bin, e_cat, e_neg, e_not, e_and, e_or, e_cmp, u_cmp2, e_ite, e_idx, e_cut, u_rev, e_bi, e_me, e_isi, e_call, u_callw, u_next, q_next, e_nil, e_cons, e_o0, e_o1, e_if0, e_if1, evKV, st_nil, st_cons, st_asg, st_asgT, st_par, st_ret, st_brk, st_ite, u_for, u_frz, u_app, u_ext, u_put, u_aug, u_lset, o_obj, o_own, o_ownL, o_ownK, o_lst, b_ok, b_some, b_b, o_some, q_b, q_ok, q_some, s_g0, s_gs, s_pv, s_po, s_vv, v_addI, v_sub, v_mulR, v_mulA, v_divP, v_modP, v_pow, c_eqI, p_seq, p_keys, p_range, p_zip, p_enum, p_items, p_values, c_eqS, c_eqB, c_eqN, c_neI, c_neS, c_lt, c_gt, c_le, c_ge, c_isN, c_isnotN, n_none, n_int, n_bool, n_str, n_tup, n_list, n_dict, Bool.not_true, Bool.not_false, gd_t, f_int, f_abs, f_tupL, f_tupT, f_listL, f_listT, f_listD, f_min, f_max, l_list, l_tup, l_dict, w_list, w_tup, w_keys, t_bool, t_int, s_k0, s_kc, s_tn, Ly.fresh, Ly.freshL, setAll, List.set_cons_zero, List.set_cons_succ, if_true, if_false, Bool.false_eq_true, ite_true, ite_false, List.all_nil, mg_nil, e_comp, e_elt, e_gen, capp_ite, flatP_map, flatP_capp, flatA_cons, flatA_nil, capp_bind, List.cons_append, List.nil_append, fm_one, fm_if, fm_ifs, ap_nil, i_ok, i_some, i_int, i_str, i_bool, i_list, i_tup, i_and, i_or, u_rg, u_rg2, flatQ_map, flatQ_capp, Int.toNat_natCast, List.length_range, capp_rg, capp_frg, g_len, g_lt, Bool.and_true, Bool.true_and, Bool.and_false, Bool.false_and, Bool.or_true, Bool.true_or, Bool.or_false, Bool.false_or, capp_map, capp_fmap, capp_ok,  List.length_map, List.length_append, List.length_cons, List.length_nil, g_minutes_in, tg, tg2, o1, o2]
      rw [fin r.b r.e (by omega) (by omega) (by omega) (by omega) fun x => by rw [inR_iff]; simp]
      simp -implicitDefEqProofs (maxSteps := 4000000) (disch := first | assumption | omega | decide | (simp only [List.length_map, List.length_append, List.length_cons, List.length_nil, List.length_range, List.length_drop, List.length_take, List.length_reverse]; omega)) only [e_varT, e_varF, e_con, e_tup, e_lst, e_dct, e_bin, e_cat, e_neg, e_not, e_and, e_or, e_cmp, u_cmp2, e_ite, e_idx, e_cut, u_rev, e_bi, e_me, e_isi, e_call, u_callw, u_next, q_next, e_nil, e_cons, e_o0, e_o1, e_if0, e_if1, evKV, st_nil, st_cons, st_asg, st_asgT, st_par, st_ret, st_brk, st_ite, u_for, u_frz, u_app, u_ext, u_put, u_aug, u_lset, o_obj, o_own, o_ownL, o_ownK, o_lst, b_ok, b_some, b_b, o_some, q_b, q_ok, q_some, s_g0, s_gs, s_pv, s_po, s_vv, v_addI, v_sub, v_mulR, v_mulA, v_divP, v_modP, v_pow, c_eqI, p_seq, p_keys, p_range, p_zip, p_enum, p_items, p_values, c_eqS, c_eqB, c_eqN, c_neI, c_neS, c_lt, c_gt, c_le, c_ge, c_isN, c_isnotN, n_none, n_int, n_bool, n_str, n_tup, n_list, n_dict, Bool.not_true, Bool.not_false, gd_t, f_int, f_abs, f_tupL, f_tupT, f_listL, f_listT, f_listD, f_min, f_max, l_list, l_tup, l_dict, w_list, w_tup, w_keys, t_bool, t_int, s_k0, s_kc, s_tn, Ly.fresh, Ly.freshL, setAll, List.set_cons_zero, List.set_cons_succ, if_true, if_false, Bool.false_eq_true, ite_true, ite_false, List.all_nil, mg_nil, e_comp, e_elt, e_gen, capp_ite, flatP_map, flatP_capp, flatA_cons, flatA_nil, capp_bind, List.cons_append, List.nil_append, fm_one, fm_if, fm_ifs, ap_nil, i_ok, i_some, i_int, i_str, i_bool, i_list, i_tup, i_and, i_or, u_rg, u_rg2, flatQ_map, flatQ_capp, Int.toNat_natCast, List.length_range, capp_rg, capp_frg, g_len, g_lt, Bool.and_true, Bool.true_and, Bool.and_false, Bool.false_and, Bool.or_true, Bool.true_or, Bool.or_false, Bool.false_or, capp_map, capp_fmap, capp_ok,  List.length_map, List.length_append, List.length_cons, List.length_nil]
      exact hκ
    · obtain ⟨m, hm, f1, f2, f3⟩ := mn_get n2
      have o2 : optI (mnO missed) = .int m := by rw [f1]; rfl
      have rm := h2.rng m hm
      simp -implicitDefEqProofs (maxSteps := 4000000) (disch := first | assumption | omega | decide | (simp only [List.length_map, List.length_append, List.length_cons, List.length_nil, List.length_range, List.length_drop, List.length_take, List.length_reverse]; omega)) only [e_varT, e_varF, e_con, e_tup, e_lst, e_dct, e_bin, e_cat, e_neg, e_not, e_and, e_or, e_cmp, u_cmp2, e_ite, e_idx, e_cut, u_rev, e_bi, e_me, e_isi, e_call, u_callw, u_next, q_next, e_nil, e_cons, e_o0, e_o1, e_if0, e_if1, evKV, st_nil, st_cons, st_asg, st_asgT, st_par, st_ret, st_brk, st_ite, u_for, u_frz, u_app, u_ext, u_put, u_aug, u_lset, o_obj, o_own, o_ownL, o_ownK, o_lst, b_ok, b_some, b_b, o_some, q_b, q_ok, q_some, s_g0, s_gs, s_pv, s_po, s_vv, v_addI, v_sub, v_mulR, v_mulA, v_divP, v_modP, v_pow, c_eqI, p_seq, p_keys, p_range, p_zip, p_enum, p_items, p_values, c_eqS, c_eqB, c_eqN, c_neI, c_neS, c_lt, c_gt, c_le, c_ge, c_isN, c_isnotN, n_none, n_int, n_bool, n_str, n_tup, n_list, n_dict, Bool.not_true, Bool.not_false, gd_t, f_int, f_abs, f_tupL, f_tupT, f_listL, f_listT, f_listD, f_min, f_max, l_list, l_tup, l_dict, w_list, w_tup, w_keys, t_bool, t_int, s_k0, s_kc, s_tn, Ly.fresh, Ly.freshL, setAll, List.set_cons_zero, List.set_cons_succ, if_true, if_false, Bool.false_eq_true, ite_true, ite_false, List.all_nil, mg_nil, e_comp, e_elt, e_gen, capp_ite, flatP_map, flatP_capp, flatA_cons, flatA_nil, capp_bind, List.cons_append, List.nil_append, fm_one, fm_if, fm_ifs, ap_nil, i_ok, i_some, i_int, i_str, i_bool, i_list, i_tup, i_and, i_or, u_rg, u_rg2, flatQ_map, flatQ_capp, Int.toNat_natCast, List.length_range, capp_rg, capp_frg, g_len, g_lt, Bool.and_true, Bool.true_and, Bool.and_false, Bool.false_and, Bool.or_true, Bool.true_or, Bool.or_false, Bool.false_or, capp_map, capp_fmap, capp_ok,  List.length_map, List.length_append, List.length_cons, List.length_nil, g_minutes_in, tg, tg2, o1, o2]
      rw [fin r.b (if m < r.e then m else r.e) (by omega) (by omega) (by split <;> omega) (by split <;> omega) fun x => by
        rw [inR_iff]
        constructor
        · rintro ⟨a, b⟩
          refine ⟨⟨a, by split at b <;> omega⟩, by simp, fun y hy => ?_⟩
          have := f3 y hy
          split at b <;> omega
        · rintro ⟨⟨a, b⟩, _, c⟩
          have := c m hm
          exact ⟨a, by split <;> omega⟩]
      simp -implicitDefEqProofs (maxSteps := 4000000) (disch := first | assumption | omega | decide | (simp only [List.length_map, List.length_append, List.length_cons, List.length_nil, List.length_range, List.length_drop, List.length_take, List.length_reverse]; omega)) only [e_varT, e_varF, e_con, e_tup, e_lst, e_dct, e_bin, e_cat, e_neg, e_not, e_and, e_or, e_cmp, u_cmp2, e_ite, e_idx, e_cut, u_rev, e_bi, e_me, e_isi, e_call, u_callw, u_next, q_next, e_nil, e_cons, e_o0, e_o1, e_if0, e_if1, evKV, st_nil, st_cons, st_asg, st_asgT, st_par, st_ret, st_brk, st_ite, u_for, u_frz, u_app, u_ext, u_put, u_aug, u_lset, o_obj, o_own, o_ownL, o_ownK, o_lst, b_ok, b_some, b_b, o_some, q_b, q_ok, q_some, s_g0, s_gs, s_pv, s_po, s_vv, v_addI, v_sub, v_mulR, v_mulA, v_divP, v_modP, v_pow, c_eqI, p_seq, p_keys, p_range, p_zip, p_enum, p_items, p_values, c_eqS, c_eqB, c_eqN, c_neI, c_neS, c_lt, c_gt, c_le, c_ge, c_isN, c_isnotN, n_none, n_int, n_bool, n_str, n_tup, n_list, n_dict, Bool.not_true, Bool.not_false, gd_t, f_int, f_abs, f_tupL, f_tupT, f_listL, f_listT, f_listD, f_min, f_max, l_list, l_tup, l_dict, w_list, w_tup, w_keys, t_bool, t_int, s_k0, s_kc, s_tn, Ly.fresh, Ly.freshL, setAll, List.set_cons_zero, List.set_cons_succ, if_true, if_false, Bool.false_eq_true, ite_true, ite_false, List.all_nil, mg_nil, e_comp, e_elt, e_gen, capp_ite, flatP_map, flatP_capp, flatA_cons, flatA_nil, capp_bind, List.cons_append, List.nil_append, fm_one, fm_if, fm_ifs, ap_nil, i_ok, i_some, i_int, i_str, i_bool, i_list, i_tup, i_and, i_or, u_rg, u_rg2, flatQ_map, flatQ_capp, Int.toNat_natCast, List.length_range, capp_rg, capp_frg, g_len, g_lt, Bool.and_true, Bool.true_and, Bool.and_false, Bool.false_and, Bool.or_true, Bool.true_or, Bool.or_false, Bool.false_or, capp_map, capp_fmap, capp_ok,  List.length_map, List.length_append, List.length_cons, List.length_nil]
      exact hκ
  · obtain ⟨p, hp, g1, g2, g3⟩ := mx_get n1
    have o1 : optI (mxO had) = .int p := by rw [g1]; rfl
    have rp := h1.rng p hp
    by_cases n2 : missed = []
    · subst n2
      have o2 : optI (mnO []) = .none := rfl
      simp -implicitDefEqProofs (maxSteps := 4000000) (disch := first | assumption | omega | decide | (simp only [List.length_map, List.length_append, List.length_cons, List.length_nil, List.length_range, List.length_drop, List.length_take, List.length_reverse]; omega)) only [e_varT, e_varF, e_con, e_tup, e_lst, e_dct, e_bin, e_cat, e_neg, e_not, e_and, e_or, e_cmp, u_cmp2, e_ite, e_idx, e_cut, u_rev, e_bi, e_me, e_isi, e_call, u_callw, u_next, q_next, e_nil, e_cons, e_o0, e_o1, e_if0, e_if1, evKV, st_nil, st_cons, st_asg, st_asgT, st_par, st_ret, st_brk, st_ite, u_for, u_frz, u_app, u_ext, u_put, u_aug, u_lset, o_obj, o_own, o_ownL, o_ownK, o_lst, b_ok, b_some, b_b, o_some, q_b, q_ok, q_some, s_g0, s_gs, s_pv, s_po, s_vv, v_addI, v_sub, v_mulR, v_mulA, v_divP, v_modP, v_pow, c_eqI, p_seq, p_keys, p_range, p_zip, p_enum, p_items, p_values, c_eqS, c_eqB, c_eqN, c_neI, c_neS, c_lt, c_gt, c_le, c_ge, c_isN, c_isnotN, n_none, n_int, n_bool, n_str, n_tup, n_list, n_dict, Bool.not_true, Bool.not_false, gd_t, f_int, f_abs, f_tupL, f_tupT, f_listL, f_listT, f_listD, f_min, f_max, l_list, l_tup, l_dict, w_list, w_tup, w_keys, t_bool, t_int, s_k0, s_kc, s_tn, Ly.fresh, Ly.freshL, setAll, List.set_cons_zero, List.set_cons_succ, if_true, if_false, Bool.false_eq_true, ite_true, ite_false, List.all_nil, mg_nil, e_comp, e_elt, e_gen, capp_ite, flatP_map, flatP_capp, flatA_cons, flatA_nil, capp_bind, List.cons_append, List.nil_append, fm_one, fm_if, fm_ifs, ap_nil, i_ok, i_some, i_int, i_str, i_bool, i_list, i_tup, i_and, i_or, u_rg, u_rg2, flatQ_map, flatQ_capp, Int.toNat_natCast, List.length_range, capp_rg, capp_frg, g_len, g_lt, Bool.and_true, Bool.true_and, Bool.and_false, Bool.false_and, Bool.or_true, Bool.true_or, Bool.or_false, Bool.false_or, capp_map, capp_fmap, capp_ok,  List.length_map, List.length_append, List.length_cons, List.length_nil, g_minutes_in, tg, tg2, o1, o2]
      rw [fin (if r.b < p then p else r.b) r.e (by split <;> omega) (by split <;> omega) (by omega) (by omega) fun x => by
        rw [inR_iff]
        constructor
        · rintro ⟨a, b⟩
          refine ⟨⟨by split at a <;> omega, b⟩, fun y hy => ?_, by simp⟩
          have := g3 y hy
          split at a <;> omega
        · rintro ⟨⟨a, b⟩, c, _⟩
          have := c p hp
          exact ⟨by split <;> omega, b⟩]
      simp -implicitDefEqProofs (maxSteps := 4000000) (disch := first | assumption | omega | decide | (simp only [List.length_map, List.length_append, List.length_cons, List.length_nil, List.length_range, List.length_drop, List.length_take, List.length_reverse]; omega)) only [e_varT, e_varF, e_con, e_tup, e_lst, e_dct, e_bin, e_cat, e_neg, e_not, e_and, e_or, e_cmp, u_cmp2, e_ite, e_idx, e_cut, u_rev, e_bi, e_me, e_isi, e_call, u_callw, u_next, q_next, e_nil, e_cons, e_o0, e_o1, e_if0, e_if1, evKV, st_nil, st_cons, st_asg, st_asgT, st_par, st_ret, st_brk, st_ite, u_for, u_frz, u_app, u_ext, u_put, u_aug, u_lset, o_obj, o_own, o_ownL, o_ownK, o_lst, b_ok, b_some, b_b, o_some, q_b, q_ok, q_some, s_g0, s_gs, s_pv, s_po, s_vv, v_addI, v_sub, v_mulR, v_mulA, v_divP, v_modP, v_pow, c_eqI, p_seq, p_keys, p_range, p_zip, p_enum, p_items, p_values, c_eqS, c_eqB, c_eqN, c_neI, c_neS, c_lt, c_gt, c_le, c_ge, c_isN, c_isnotN, n_none, n_int, n_bool, n_str, n_tup, n_list, n_dict, Bool.not_true, Bool.not_false, gd_t, f_int, f_abs, f_tupL, f_tupT, f_listL, f_listT, f_listD, f_min, f_max, l_list, l_tup, l_dict, w_list, w_tup, w_keys, t_bool, t_int, s_k0, s_kc, s_tn, Ly.fresh, Ly.freshL, setAll, List.set_cons_zero, List.set_cons_succ, if_true, if_false, Bool.false_eq_true, ite_true, ite_false, List.all_nil, mg_nil, e_comp, e_elt, e_gen, capp_ite, flatP_map, flatP_capp, flatA_cons, flatA_nil, capp_bind, List.cons_append, List.nil_append, fm_one, fm_if, fm_ifs, ap_nil, i_ok, i_some, i_int, i_str, i_bool, i_list, i_tup, i_and, i_or, u_rg, u_rg2, flatQ_map, flatQ_capp, Int.toNat_natCast, List.length_range, capp_rg, capp_frg, g_len, g_lt, Bool.and_true, Bool.true_and, Bool.and_false, Bool.false_and, Bool.or_true, Bool.true_or, Bool.or_false, Bool.false_or, capp_map, capp_fmap, capp_ok,  List.length_map, List.length_append, List.length_cons, List.length_nil]
      exact hκ
    · obtain ⟨m, hm, f1, f2, f3⟩ := mn_get n2
      have o2 : optI (mnO missed) = .int m := by rw [f1]; rfl
      have rm := h2.rng m hm
      simp -implicitDefEqProofs (maxSteps := 4000000) (disch := first | assumption | omega | decide | (simp only [List.length_map, List.length_append, List.length_cons, List.length_nil, List.length_range, List.length_drop, List.length_take, List.length_reverse]; omega)) only [e_varT, e_varF, e_con, e_tup, e_lst, e_dct, e_bin, e_cat, e_neg, e_not, e_and, e_or, e_cmp, u_cmp2, e_ite, e_idx, e_cut, u_rev, e_bi, e_me, e_isi, e_call, u_callw, u_next, q_next, e_nil, e_cons, e_o0, e_o1, e_if0, e_if1, evKV, st_nil, st_cons, st_asg, st_asgT, st_par, st_ret, st_brk, st_ite, u_for, u_frz, u_app, u_ext, u_put, u_aug, u_lset, o_obj, o_own, o_ownL, o_ownK, o_lst, b_ok, b_some, b_b, o_some, q_b, q_ok, q_some, s_g0, s_gs, s_pv, s_po, s_vv, v_addI, v_sub, v_mulR, v_mulA, v_divP, v_modP, v_pow, c_eqI, p_seq, p_keys, p_range, p_zip, p_enum, p_items, p_values, c_eqS, c_eqB, c_eqN, c_neI, c_neS, c_lt, c_gt, c_le, c_ge, c_isN, c_isnotN, n_none, n_int, n_bool, n_str, n_tup, n_list, n_dict, Bool.not_true, Bool.not_false, gd_t, f_int, f_abs, f_tupL, f_tupT, f_listL, f_listT, f_listD, f_min, f_max, l_list, l_tup, l_dict, w_list, w_tup, w_keys, t_bool, t_int, s_k0, s_kc, s_tn, Ly.fresh, Ly.freshL, setAll, List.set_cons_zero, List.set_cons_succ, if_true, if_false, Bool.false_eq_true, ite_true, ite_false, List.all_nil, mg_nil, e_comp, e_elt, e_gen, capp_ite, flatP_map, flatP_capp, flatA_cons, flatA_nil, capp_bind, List.cons_append, List.nil_append, fm_one, fm_if, fm_ifs, ap_nil, i_ok, i_some, i_int, i_str, i_bool, i_list, i_tup, i_and, i_or, u_rg, u_rg2, flatQ_map, flatQ_capp, Int.toNat_natCast, List.length_range, capp_rg, capp_frg, g_len, g_lt, Bool.and_true, Bool.true_and, Bool.and_false, Bool.false_and, Bool.or_true, Bool.true_or, Bool.or_false, Bool.false_or, capp_map, capp_fmap, capp_ok,  List.length_map, List.length_append, List.length_cons, List.length_nil, g_minutes_in, tg, tg2, o1, o2]
      rw [fin (if r.b < p then p else r.b) (if m < r.e then m else r.e) (by split <;> omega) (by split <;> omega) (by split <;> omega) (by split <;> omega) fun x => by
        rw [inR_iff]
        constructor
        · rintro ⟨a, b⟩
          refine ⟨⟨by split at a <;> omega, by split at b <;> omega⟩, fun y hy => ?_, fun y hy => ?_⟩
          · have := g3 y hy
            split at a <;> omega
          · have := f3 y hy
            split at b <;> omega
        · rintro ⟨⟨a, b⟩, c, d⟩
          have := c p hp
          have := d m hm
          exact ⟨by split <;> omega, by split <;> omega⟩]
      simp -implicitDefEqProofs (maxSteps := 4000000) (disch := first | assumption | omega | decide | (simp only [List.length_map, List.length_append, List.length_cons, List.length_nil, List.length_range, List.length_drop, List.length_take, List.length_reverse]; omega)) only [e_varT, e_varF, e_con, e_tup, e_lst, e_dct, e_bin, e_cat, e_neg, e_not, e_and, e_or, e_cmp, u_cmp2, e_ite, e_idx, e_cut, u_rev, e_bi, e_me, e_isi, e_call, u_callw, u_next, q_next, e_nil, e_cons, e_o0, e_o1, e_if0, e_if1, evKV, st_nil, st_cons, st_asg, st_asgT, st_par, st_ret, st_brk, st_ite, u_for, u_frz, u_app, u_ext, u_put, u_aug, u_lset, o_obj, o_own, o_ownL, o_ownK, o_lst, b_ok, b_some, b_b, o_some, q_b, q_ok, q_some, s_g0, s_gs, s_pv, s_po, s_vv, v_addI, v_sub, v_mulR, v_mulA, v_divP, v_modP, v_pow, c_eqI, p_seq, p_keys, p_range, p_zip, p_enum, p_items, p_values, c_eqS, c_eqB, c_eqN, c_neI, c_neS, c_lt, c_gt, c_le, c_ge, c_isN, c_isnotN, n_none, n_int, n_bool, n_str, n_tup, n_list, n_dict, Bool.not_true, Bool.not_false, gd_t, f_int, f_abs, f_tupL, f_tupT, f_listL, f_listT, f_listD, f_min, f_max, l_list, l_tup, l_dict, w_list, w_tup, w_keys, t_bool, t_int, s_k0, s_kc, s_tn, Ly.fresh, Ly.freshL, setAll, List.set_cons_zero, List.set_cons_succ, if_true, if_false, Bool.false_eq_true, ite_true, ite_false, List.all_nil, mg_nil, e_comp, e_elt, e_gen, capp_ite, flatP_map, flatP_capp, flatA_cons, flatA_nil, capp_bind, List.cons_append, List.nil_append, fm_one, fm_if, fm_ifs, ap_nil, i_ok, i_some, i_int, i_str, i_bool, i_list, i_tup, i_and, i_or, u_rg, u_rg2, flatQ_map, flatQ_capp, Int.toNat_natCast, List.length_range, capp_rg, capp_frg, g_len, g_lt, Bool.and_true, Bool.true_and, Bool.and_false, Bool.false_and, Bool.or_true, Bool.true_or, Bool.or_false, Bool.false_or, capp_map, capp_fmap, capp_ok,  List.length_map, List.length_append, List.length_cons, List.length_nil]
      exact hκ
end K02

set_option maxRecDepth 100000
set_option maxHeartbeats 4000000
namespace K02
open PySem Ly
structure RsOk (rs : List Ride) : Prop where
  len : rs.length ≤ 10
  ok : ∀ r ∈ rs, ROk r
def ab (rs : List Ride) (had missed : List Int) : List Nat := if okB had missed = true then (List.range rs.length).filter fun k => !(mns had missed (rs.getD k default)).isEmpty else []
theorem ab_len (rs : List Ride) (had missed : List Int) : (ab rs had missed).length ≤ rs.length := by
  unfold ab
  split
  · exact Nat.le_trans (List.length_filter_le _ _) (by rw [List.length_range]; exact Nat.le_refl _)
  · exact Nat.zero_le _
theorem ab_lt {rs : List Ride} {had missed : List Int} {k : Nat} (h : k ∈ ab rs had missed) : k < rs.length := by
  unfold ab at h
  split at h
  · exact List.mem_range.mp (List.mem_filter.mp h).1
  · cases h
theorem r_idx {rs : List Ride} {i : Int} (h0 : 0 ≤ i) (h : i < rs.length) : idxD (rsD rs) (.int i) = some (rD (rs.getD i.toNat default)) := x_getT default h0 h
theorem r_0 (r : Ride) : idxD (rD r) (.int 0) = some (.str r.l) := rfl
theorem r_1 (r : Ride) : idxD (rD r) (.int 1) = some (.int r.b) := rfl
theorem r_2 (r : Ride) : idxD (rD r) (.int 2) = some (.int r.e) := rfl
theorem len_rs (rs : List Ride) : biD .len [rsD rs] = some (.int (rs.length : Nat)) := by
  show some (PyData.int ((rs.map rD).length : Nat)) = _
  rw [List.length_map]
theorem sp_ok {had missed : List Int} (h : okB had missed = true) : spanD had missed = spanT had missed := if_pos h
theorem sp_no {had missed : List Int} (h : okB had missed = false) : spanD had missed = .none := by
  unfold spanD
  rw [h]
  rfl
theorem n_span (had missed : List Int) : isNo_ (spanT had missed) = false := rfl
def nT (xs : List Nat) : D := .tuple (xs.map fun k => .int (k : Nat))
section
variable {rs : List Ride} {had missed : List Int} (hr : RsOk rs) (h1 : HOk had) (h2 : HOk missed)
include hr h1 h2
theorem ok_rides (k : Nat) : cfN T (k + 2) 12 [rsD rs, iT had, iT missed] = W.ok (nT (ab rs had missed)) := by
  refine call_ok (f := g_rides_for) rfl rfl fun κ hκ => ?_
  show evSs _ _ _ [.val (rsD rs), .val (iT had), .val (iT missed), .non, .non]
  have lim_ := lim_v
  have rl := hr.len
  unfold ab at hκ
  cases o : okB had missed with
  | false =>
    rw [o] at hκ
    simp -implicitDefEqProofs (maxSteps := 4000000) (disch := first | assumption | omega | decide | (simp only [List.length_map, List.length_append, List.length_cons, List.length_nil, List.length_range, List.length_drop, List.length_take, List.length_reverse]; omega)) only [e_varT, e_varF, e_con, e_tup, e_lst, e_dct, e_bin, e_cat, e_neg, e_not, e_and, e_or, e_cmp, u_cmp2, e_ite, e_idx, e_cut, u_rev, e_bi, e_me, e_isi, e_call, u_callw, u_next, q_next, e_nil, e_cons, e_o0, e_o1, e_if0, e_if1, evKV, st_nil, st_cons, st_asg, st_asgT, st_par, st_ret, st_brk, st_ite, u_for, u_frz, u_app, u_ext, u_put, u_aug, u_lset, o_obj, o_own, o_ownL, o_ownK, o_lst, b_ok, b_some, b_b, o_some, q_b, q_ok, q_some, s_g0, s_gs, s_pv, s_po, s_vv, v_addI, v_sub, v_mulR, v_mulA, v_divP, v_modP, v_pow, c_eqI, p_seq, p_keys, p_range, p_zip, p_enum, p_items, p_values, c_eqS, c_eqB, c_eqN, c_neI, c_neS, c_lt, c_gt, c_le, c_ge, c_isN, c_isnotN, n_none, n_int, n_bool, n_str, n_tup, n_list, n_dict, Bool.not_true, Bool.not_false, gd_t, f_int, f_abs, f_tupL, f_tupT, f_listL, f_listT, f_listD, f_min, f_max, l_list, l_tup, l_dict, w_list, w_tup, w_keys, t_bool, t_int, s_k0, s_kc, s_tn, Ly.fresh, Ly.freshL, setAll, List.set_cons_zero, List.set_cons_succ, if_true, if_false, Bool.false_eq_true, ite_true, ite_false, List.all_nil, mg_nil, e_comp, e_elt, e_gen, capp_ite, flatP_map, flatP_capp, flatA_cons, flatA_nil, capp_bind, List.cons_append, List.nil_append, fm_one, fm_if, fm_ifs, ap_nil, i_ok, i_some, i_int, i_str, i_bool, i_list, i_tup, i_and, i_or, u_rg, u_rg2, flatQ_map, flatQ_capp, Int.toNat_natCast, List.length_range, capp_rg, capp_frg, g_len, g_lt, Bool.and_true, Bool.true_and, Bool.and_false, Bool.false_and, Bool.or_true, Bool.true_or, Bool.or_false, Bool.false_or, capp_map, capp_fmap, capp_ok,  List.length_map, List.length_append, List.length_cons, List.length_nil, g_rides_for, ok_span, sp_no o]
    exact hκ
  | true =>
    rw [if_pos o] at hκ
    have mi : ∀ j, j < rs.length → cfN T (k + 1) 11 [rD (rs.getD j default), spanT had missed] = W.ok (.list ((mns had missed (rs.getD j default)).map .int)) := fun j hj => ok_mins (hr.ok _ (getD_mem hj)) h1 h2 k
    simp -implicitDefEqProofs (maxSteps := 4000000) (disch := first | assumption | omega | decide | (simp only [List.length_map, List.length_append, List.length_cons, List.length_nil, List.length_range, List.length_drop, List.length_take, List.length_reverse]; omega)) only [e_varT, e_varF, e_con, e_tup, e_lst, e_dct, e_bin, e_cat, e_neg, e_not, e_and, e_or, e_cmp, u_cmp2, e_ite, e_idx, e_cut, u_rev, e_bi, e_me, e_isi, e_call, u_callw, u_next, q_next, e_nil, e_cons, e_o0, e_o1, e_if0, e_if1, evKV, st_nil, st_cons, st_asg, st_asgT, st_par, st_ret, st_brk, st_ite, u_for, u_frz, u_app, u_ext, u_put, u_aug, u_lset, o_obj, o_own, o_ownL, o_ownK, o_lst, b_ok, b_some, b_b, o_some, q_b, q_ok, q_some, s_g0, s_gs, s_pv, s_po, s_vv, v_addI, v_sub, v_mulR, v_mulA, v_divP, v_modP, v_pow, c_eqI, p_seq, p_keys, p_range, p_zip, p_enum, p_items, p_values, c_eqS, c_eqB, c_eqN, c_neI, c_neS, c_lt, c_gt, c_le, c_ge, c_isN, c_isnotN, n_none, n_int, n_bool, n_str, n_tup, n_list, n_dict, Bool.not_true, Bool.not_false, gd_t, f_int, f_abs, f_tupL, f_tupT, f_listL, f_listT, f_listD, f_min, f_max, l_list, l_tup, l_dict, w_list, w_tup, w_keys, t_bool, t_int, s_k0, s_kc, s_tn, Ly.fresh, Ly.freshL, setAll, List.set_cons_zero, List.set_cons_succ, if_true, if_false, Bool.false_eq_true, ite_true, ite_false, List.all_nil, mg_nil, e_comp, e_elt, e_gen, capp_ite, flatP_map, flatP_capp, flatA_cons, flatA_nil, capp_bind, List.cons_append, List.nil_append, fm_one, fm_if, fm_ifs, ap_nil, i_ok, i_some, i_int, i_str, i_bool, i_list, i_tup, i_and, i_or, u_rg, u_rg2, flatQ_map, flatQ_capp, Int.toNat_natCast, List.length_range, capp_rg, capp_frg, g_len, g_lt, Bool.and_true, Bool.true_and, Bool.and_false, Bool.false_and, Bool.or_true, Bool.true_or, Bool.or_false, Bool.false_or, capp_map, capp_fmap, capp_ok,  List.length_map, List.length_append, List.length_cons, List.length_nil, g_rides_for, ok_span, sp_ok o, n_span, len_rs, r_idx, mi, ne_nil0]
    exact hκ
theorem ok_sureR (k : Nat) : cfN T (k + 3) 13 [rsD rs, iT had, iT missed] = W.ok (.bool (((ab rs had missed).length : Int) == 1)) := by
  refine call_ok (f := g_is_sure_ride) rfl rfl fun κ hκ => ?_
  show evSs _ _ _ [.val (rsD rs), .val (iT had), .val (iT missed)]
  have e : biD .len [nT (ab rs had missed)] = some (.int ((ab rs had missed).length : Nat)) := by
    show some (PyData.int (List.length _ : Nat)) = _
    rw [List.length_map]
  simp -implicitDefEqProofs (maxSteps := 4000000) (disch := first | assumption | omega | decide | (simp only [List.length_map, List.length_append, List.length_cons, List.length_nil, List.length_range, List.length_drop, List.length_take, List.length_reverse]; omega)) only [e_varT, e_varF, e_con, e_tup, e_lst, e_dct, e_bin, e_cat, e_neg, e_not, e_and, e_or, e_cmp, u_cmp2, e_ite, e_idx, e_cut, u_rev, e_bi, e_me, e_isi, e_call, u_callw, u_next, q_next, e_nil, e_cons, e_o0, e_o1, e_if0, e_if1, evKV, st_nil, st_cons, st_asg, st_asgT, st_par, st_ret, st_brk, st_ite, u_for, u_frz, u_app, u_ext, u_put, u_aug, u_lset, o_obj, o_own, o_ownL, o_ownK, o_lst, b_ok, b_some, b_b, o_some, q_b, q_ok, q_some, s_g0, s_gs, s_pv, s_po, s_vv, v_addI, v_sub, v_mulR, v_mulA, v_divP, v_modP, v_pow, c_eqI, p_seq, p_keys, p_range, p_zip, p_enum, p_items, p_values, c_eqS, c_eqB, c_eqN, c_neI, c_neS, c_lt, c_gt, c_le, c_ge, c_isN, c_isnotN, n_none, n_int, n_bool, n_str, n_tup, n_list, n_dict, Bool.not_true, Bool.not_false, gd_t, f_int, f_abs, f_tupL, f_tupT, f_listL, f_listT, f_listD, f_min, f_max, l_list, l_tup, l_dict, w_list, w_tup, w_keys, t_bool, t_int, s_k0, s_kc, s_tn, Ly.fresh, Ly.freshL, setAll, List.set_cons_zero, List.set_cons_succ, if_true, if_false, Bool.false_eq_true, ite_true, ite_false, List.all_nil, mg_nil, e_comp, e_elt, e_gen, capp_ite, flatP_map, flatP_capp, flatA_cons, flatA_nil, capp_bind, List.cons_append, List.nil_append, fm_one, fm_if, fm_ifs, ap_nil, i_ok, i_some, i_int, i_str, i_bool, i_list, i_tup, i_and, i_or, u_rg, u_rg2, flatQ_map, flatQ_capp, Int.toNat_natCast, List.length_range, capp_rg, capp_frg, g_len, g_lt, Bool.and_true, Bool.true_and, Bool.and_false, Bool.false_and, Bool.or_true, Bool.true_or, Bool.or_false, Bool.false_or, capp_map, capp_fmap, capp_ok,  List.length_map, List.length_append, List.length_cons, List.length_nil, g_is_sure_ride, ok_rides hr h1 h2, e]
  exact hκ
def leftN (rs : List Ride) (had missed : List Int) : Int := if okB had missed = true then (rs.map fun r => ((mns had missed r).length : Int)).sum else 0
theorem ok_left (k : Nat) : cfN T (k + 2) 17 [rsD rs, iT had, iT missed] = W.ok (.int (leftN rs had missed)) := by
  refine call_ok (f := g_minutes_left) rfl rfl fun κ hκ => ?_
  show evSs _ _ _ [.val (rsD rs), .val (iT had), .val (iT missed), .non, .non]
  have lim_ := lim_v
  have rl := hr.len
  unfold leftN at hκ
  cases o : okB had missed with
  | false =>
    rw [o] at hκ
    simp -implicitDefEqProofs (maxSteps := 4000000) (disch := first | assumption | omega | decide | (simp only [List.length_map, List.length_append, List.length_cons, List.length_nil, List.length_range, List.length_drop, List.length_take, List.length_reverse]; omega)) only [e_varT, e_varF, e_con, e_tup, e_lst, e_dct, e_bin, e_cat, e_neg, e_not, e_and, e_or, e_cmp, u_cmp2, e_ite, e_idx, e_cut, u_rev, e_bi, e_me, e_isi, e_call, u_callw, u_next, q_next, e_nil, e_cons, e_o0, e_o1, e_if0, e_if1, evKV, st_nil, st_cons, st_asg, st_asgT, st_par, st_ret, st_brk, st_ite, u_for, u_frz, u_app, u_ext, u_put, u_aug, u_lset, o_obj, o_own, o_ownL, o_ownK, o_lst, b_ok, b_some, b_b, o_some, q_b, q_ok, q_some, s_g0, s_gs, s_pv, s_po, s_vv, v_addI, v_sub, v_mulR, v_mulA, v_divP, v_modP, v_pow, c_eqI, p_seq, p_keys, p_range, p_zip, p_enum, p_items, p_values, c_eqS, c_eqB, c_eqN, c_neI, c_neS, c_lt, c_gt, c_le, c_ge, c_isN, c_isnotN, n_none, n_int, n_bool, n_str, n_tup, n_list, n_dict, Bool.not_true, Bool.not_false, gd_t, f_int, f_abs, f_tupL, f_tupT, f_listL, f_listT, f_listD, f_min, f_max, l_list, l_tup, l_dict, w_list, w_tup, w_keys, t_bool, t_int, s_k0, s_kc, s_tn, Ly.fresh, Ly.freshL, setAll, List.set_cons_zero, List.set_cons_succ, if_true, if_false, Bool.false_eq_true, ite_true, ite_false, List.all_nil, mg_nil, e_comp, e_elt, e_gen, capp_ite, flatP_map, flatP_capp, flatA_cons, flatA_nil, capp_bind, List.cons_append, List.nil_append, fm_one, fm_if, fm_ifs, ap_nil, i_ok, i_some, i_int, i_str, i_bool, i_list, i_tup, i_and, i_or, u_rg, u_rg2, flatQ_map, flatQ_capp, Int.toNat_natCast, List.length_range, capp_rg, capp_frg, g_len, g_lt, Bool.and_true, Bool.true_and, Bool.and_false, Bool.false_and, Bool.or_true, Bool.true_or, Bool.or_false, Bool.false_or, capp_map, capp_fmap, capp_ok,  List.length_map, List.length_append, List.length_cons, List.length_nil, g_minutes_left, ok_span, sp_no o]
    exact hκ
  | true =>
    rw [if_pos o] at hκ
    have mi : ∀ r, r ∈ rs → cfN T (k + 1) 11 [rD r, spanT had missed] = W.ok (.list ((mns had missed r).map .int)) := fun r h => ok_mins (hr.ok _ h) h1 h2 k
    have wk : walkD .seq [rsD rs] = some (rs.map rD) := rfl
    simp -implicitDefEqProofs (maxSteps := 4000000) (disch := first | assumption | omega | decide | (simp only [List.length_map, List.length_append, List.length_cons, List.length_nil, List.length_range, List.length_drop, List.length_take, List.length_reverse]; omega)) only [e_varT, e_varF, e_con, e_tup, e_lst, e_dct, e_bin, e_cat, e_neg, e_not, e_and, e_or, e_cmp, u_cmp2, e_ite, e_idx, e_cut, u_rev, e_bi, e_me, e_isi, e_call, u_callw, u_next, q_next, e_nil, e_cons, e_o0, e_o1, e_if0, e_if1, evKV, st_nil, st_cons, st_asg, st_asgT, st_par, st_ret, st_brk, st_ite, u_for, u_frz, u_app, u_ext, u_put, u_aug, u_lset, o_obj, o_own, o_ownL, o_ownK, o_lst, b_ok, b_some, b_b, o_some, q_b, q_ok, q_some, s_g0, s_gs, s_pv, s_po, s_vv, v_addI, v_sub, v_mulR, v_mulA, v_divP, v_modP, v_pow, c_eqI, p_seq, p_keys, p_range, p_zip, p_enum, p_items, p_values, c_eqS, c_eqB, c_eqN, c_neI, c_neS, c_lt, c_gt, c_le, c_ge, c_isN, c_isnotN, n_none, n_int, n_bool, n_str, n_tup, n_list, n_dict, Bool.not_true, Bool.not_false, gd_t, f_int, f_abs, f_tupL, f_tupT, f_listL, f_listT, f_listD, f_min, f_max, l_list, l_tup, l_dict, w_list, w_tup, w_keys, t_bool, t_int, s_k0, s_kc, s_tn, Ly.fresh, Ly.freshL, setAll, List.set_cons_zero, List.set_cons_succ, if_true, if_false, Bool.false_eq_true, ite_true, ite_false, List.all_nil, mg_nil, e_comp, e_elt, e_gen, capp_ite, flatP_map, flatP_capp, flatA_cons, flatA_nil, capp_bind, List.cons_append, List.nil_append, fm_one, fm_if, fm_ifs, ap_nil, i_ok, i_some, i_int, i_str, i_bool, i_list, i_tup, i_and, i_or, u_rg, u_rg2, flatQ_map, flatQ_capp, Int.toNat_natCast, List.length_range, capp_rg, capp_frg, g_len, g_lt, Bool.and_true, Bool.true_and, Bool.and_false, Bool.false_and, Bool.or_true, Bool.true_or, Bool.or_false, Bool.false_or, capp_map, capp_fmap, capp_ok,  List.length_map, List.length_append, List.length_cons, List.length_nil, g_minutes_left, ok_span, sp_ok o, n_span, wk, mi, sum_M]
    exact hκ
omit h1 h2 in
theorem ok_found (line : Str) (minute : Int) (k : Nat) : cfN T (k + 1) 14 [rsD rs, .str line, .int minute] = W.ok (nT ((List.range rs.length).filter fun k => ((rs.getD k default).l == line && decide ((rs.getD k default).b ≤ minute)))) := by
  refine call_ok (f := g_found_on) rfl rfl fun κ hκ => ?_
  show evSs _ _ _ [.val (rsD rs), .val (.str line), .val (.int minute), .non]
  have lim_ := lim_v
  have rl := hr.len
  simp -implicitDefEqProofs (maxSteps := 4000000) (disch := first | assumption | omega | decide | (simp only [List.length_map, List.length_append, List.length_cons, List.length_nil, List.length_range, List.length_drop, List.length_take, List.length_reverse]; omega)) only [e_varT, e_varF, e_con, e_tup, e_lst, e_dct, e_bin, e_cat, e_neg, e_not, e_and, e_or, e_cmp, u_cmp2, e_ite, e_idx, e_cut, u_rev, e_bi, e_me, e_isi, e_call, u_callw, u_next, q_next, e_nil, e_cons, e_o0, e_o1, e_if0, e_if1, evKV, st_nil, st_cons, st_asg, st_asgT, st_par, st_ret, st_brk, st_ite, u_for, u_frz, u_app, u_ext, u_put, u_aug, u_lset, o_obj, o_own, o_ownL, o_ownK, o_lst, b_ok, b_some, b_b, o_some, q_b, q_ok, q_some, s_g0, s_gs, s_pv, s_po, s_vv, v_addI, v_sub, v_mulR, v_mulA, v_divP, v_modP, v_pow, c_eqI, p_seq, p_keys, p_range, p_zip, p_enum, p_items, p_values, c_eqS, c_eqB, c_eqN, c_neI, c_neS, c_lt, c_gt, c_le, c_ge, c_isN, c_isnotN, n_none, n_int, n_bool, n_str, n_tup, n_list, n_dict, Bool.not_true, Bool.not_false, gd_t, f_int, f_abs, f_tupL, f_tupT, f_listL, f_listT, f_listD, f_min, f_max, l_list, l_tup, l_dict, w_list, w_tup, w_keys, t_bool, t_int, s_k0, s_kc, s_tn, Ly.fresh, Ly.freshL, setAll, List.set_cons_zero, List.set_cons_succ, if_true, if_false, Bool.false_eq_true, ite_true, ite_false, List.all_nil, mg_nil, e_comp, e_elt, e_gen, capp_ite, flatP_map, flatP_capp, flatA_cons, flatA_nil, capp_bind, List.cons_append, List.nil_append, fm_one, fm_if, fm_ifs, ap_nil, i_ok, i_some, i_int, i_str, i_bool, i_list, i_tup, i_and, i_or, u_rg, u_rg2, flatQ_map, flatQ_capp, Int.toNat_natCast, List.length_range, capp_rg, capp_frg, g_len, g_lt, Bool.and_true, Bool.true_and, Bool.and_false, Bool.false_and, Bool.or_true, Bool.true_or, Bool.or_false, Bool.false_or, capp_map, capp_fmap, capp_ok,  List.length_map, List.length_append, List.length_cons, List.length_nil, g_found_on, len_rs, r_idx, r_0, r_1]
  exact hκ
def couldL (rs : List Ride) (had missed : List Int) (line : Str) (minute : Int) (n : Nat) : List Nat := (List.range n).filter fun k => ((rs.getD k default).l == line && (mns had missed (rs.getD k default)).any fun m => decide (m ≤ minute))
theorem ok_could (line : Str) (minute : Int) (k : Nat) : cfN T (k + 2) 15 [rsD rs, iT had, iT missed, .str line, .int minute] = W.ok (nT (if okB had missed = true then couldL rs had missed line minute rs.length else [])) := by
  refine call_ok (f := g_could_be_lost) rfl rfl fun κ hκ => ?_
  show evSs _ _ _ [.val (rsD rs), .val (iT had), .val (iT missed), .val (.str line), .val (.int minute), .non, .non, .non, .non]
  have lim_ := lim_v
  have rl := hr.len
  cases o : okB had missed with
  | false =>
    rw [o] at hκ
    simp -implicitDefEqProofs (maxSteps := 4000000) (disch := first | assumption | omega | decide | (simp only [List.length_map, List.length_append, List.length_cons, List.length_nil, List.length_range, List.length_drop, List.length_take, List.length_reverse]; omega)) only [e_varT, e_varF, e_con, e_tup, e_lst, e_dct, e_bin, e_cat, e_neg, e_not, e_and, e_or, e_cmp, u_cmp2, e_ite, e_idx, e_cut, u_rev, e_bi, e_me, e_isi, e_call, u_callw, u_next, q_next, e_nil, e_cons, e_o0, e_o1, e_if0, e_if1, evKV, st_nil, st_cons, st_asg, st_asgT, st_par, st_ret, st_brk, st_ite, u_for, u_frz, u_app, u_ext, u_put, u_aug, u_lset, o_obj, o_own, o_ownL, o_ownK, o_lst, b_ok, b_some, b_b, o_some, q_b, q_ok, q_some, s_g0, s_gs, s_pv, s_po, s_vv, v_addI, v_sub, v_mulR, v_mulA, v_divP, v_modP, v_pow, c_eqI, p_seq, p_keys, p_range, p_zip, p_enum, p_items, p_values, c_eqS, c_eqB, c_eqN, c_neI, c_neS, c_lt, c_gt, c_le, c_ge, c_isN, c_isnotN, n_none, n_int, n_bool, n_str, n_tup, n_list, n_dict, Bool.not_true, Bool.not_false, gd_t, f_int, f_abs, f_tupL, f_tupT, f_listL, f_listT, f_listD, f_min, f_max, l_list, l_tup, l_dict, w_list, w_tup, w_keys, t_bool, t_int, s_k0, s_kc, s_tn, Ly.fresh, Ly.freshL, setAll, List.set_cons_zero, List.set_cons_succ, if_true, if_false, Bool.false_eq_true, ite_true, ite_false, List.all_nil, mg_nil, e_comp, e_elt, e_gen, capp_ite, flatP_map, flatP_capp, flatA_cons, flatA_nil, capp_bind, List.cons_append, List.nil_append, fm_one, fm_if, fm_ifs, ap_nil, i_ok, i_some, i_int, i_str, i_bool, i_list, i_tup, i_and, i_or, u_rg, u_rg2, flatQ_map, flatQ_capp, Int.toNat_natCast, List.length_range, capp_rg, capp_frg, g_len, g_lt, Bool.and_true, Bool.true_and, Bool.and_false, Bool.false_and, Bool.or_true, Bool.true_or, Bool.or_false, Bool.false_or, capp_map, capp_fmap, capp_ok,  List.length_map, List.length_append, List.length_cons, List.length_nil, g_could_be_lost, ok_span, sp_no o]
    exact hκ
  | true =>
    rw [if_pos o] at hκ
    simp -implicitDefEqProofs (maxSteps := 4000000) (disch := first | assumption | omega | decide | (simp only [List.length_map, List.length_append, List.length_cons, List.length_nil, List.length_range, List.length_drop, List.length_take, List.length_reverse]; omega)) only [e_varT, e_varF, e_con, e_tup, e_lst, e_dct, e_bin, e_cat, e_neg, e_not, e_and, e_or, e_cmp, u_cmp2, e_ite, e_idx, e_cut, u_rev, e_bi, e_me, e_isi, e_call, u_callw, u_next, q_next, e_nil, e_cons, e_o0, e_o1, e_if0, e_if1, evKV, st_nil, st_cons, st_asg, st_asgT, st_par, st_ret, st_brk, st_ite, u_for, u_frz, u_app, u_ext, u_put, u_aug, u_lset, o_obj, o_own, o_ownL, o_ownK, o_lst, b_ok, b_some, b_b, o_some, q_b, q_ok, q_some, s_g0, s_gs, s_pv, s_po, s_vv, v_addI, v_sub, v_mulR, v_mulA, v_divP, v_modP, v_pow, c_eqI, p_seq, p_keys, p_range, p_zip, p_enum, p_items, p_values, c_eqS, c_eqB, c_eqN, c_neI, c_neS, c_lt, c_gt, c_le, c_ge, c_isN, c_isnotN, n_none, n_int, n_bool, n_str, n_tup, n_list, n_dict, Bool.not_true, Bool.not_false, gd_t, f_int, f_abs, f_tupL, f_tupT, f_listL, f_listT, f_listD, f_min, f_max, l_list, l_tup, l_dict, w_list, w_tup, w_keys, t_bool, t_int, s_k0, s_kc, s_tn, Ly.fresh, Ly.freshL, setAll, List.set_cons_zero, List.set_cons_succ, if_true, if_false, Bool.false_eq_true, ite_true, ite_false, List.all_nil, mg_nil, e_comp, e_elt, e_gen, capp_ite, flatP_map, flatP_capp, flatA_cons, flatA_nil, capp_bind, List.cons_append, List.nil_append, fm_one, fm_if, fm_ifs, ap_nil, i_ok, i_some, i_int, i_str, i_bool, i_list, i_tup, i_and, i_or, u_rg, u_rg2, flatQ_map, flatQ_capp, Int.toNat_natCast, List.length_range, capp_rg, capp_frg, g_len, g_lt, Bool.and_true, Bool.true_and, Bool.and_false, Bool.false_and, Bool.or_true, Bool.true_or, Bool.or_false, Bool.false_or, capp_map, capp_fmap, capp_ok,  List.length_map, List.length_append, List.length_cons, List.length_nil, g_could_be_lost, ok_span, sp_ok o, n_span, len_rs]
    refine for_I (List.range rs.length) (fun k => .int (k : Nat)) (fun i Γ => Γ = [.val (rsD rs), .val (iT had), .val (iT missed), .val (.str line), .val (.int minute), .non, .val (spanT had missed), .own (.list ((couldL rs had missed line minute i).map fun k => .int (k : Nat))), .non]) rfl rfl ?_ ?_
    · intro i x hi Γ hΓ κ' g1 g2 g3 g4
      subst hΓ
      obtain ⟨hl, hx⟩ := List.getElem?_eq_some_iff.mp hi
      rw [List.length_range] at hl
      rw [List.getElem_range] at hx
      subst hx
      have mi := ok_mins (hr.ok _ (getD_mem (d := default) hl)) h1 h2 k
      have cl : (couldL rs had missed line minute i).length ≤ 10 := Nat.le_trans (List.length_filter_le _ _) (by rw [List.length_range]; omega)
      have ml : (mns had missed (rs.getD i default)).length ≤ 1000 := by
        refine Nat.le_trans (List.length_filter_le _ _) ?_
        rw [rgI_len]
        have := hr.ok _ (getD_mem (d := default) hl)
        obtain ⟨_, _, _, _⟩ := this
        omega
      have nx : ∀ c : Bool, c = ((rs.getD i default).l == line && (mns had missed (rs.getD i default)).any fun m => decide (m ≤ minute)) → couldL rs had missed line minute (i + 1) = couldL rs had missed line minute i ++ if c = true then [i] else [] := fun c hc => by
        unfold couldL
        rw [List.range_succ, List.filter_append, hc]
        congr 1
        rw [List.filter_cons]
        rfl
      cases q1 : ((rs.getD i default).l == line) with
      | false =>
        simp -implicitDefEqProofs (maxSteps := 4000000) (disch := first | assumption | omega | decide | (simp only [List.length_map, List.length_append, List.length_cons, List.length_nil, List.length_range, List.length_drop, List.length_take, List.length_reverse]; omega)) only [e_varT, e_varF, e_con, e_tup, e_lst, e_dct, e_bin, e_cat, e_neg, e_not, e_and, e_or, e_cmp, u_cmp2, e_ite, e_idx, e_cut, u_rev, e_bi, e_me, e_isi, e_call, u_callw, u_next, q_next, e_nil, e_cons, e_o0, e_o1, e_if0, e_if1, evKV, st_nil, st_cons, st_asg, st_asgT, st_par, st_ret, st_brk, st_ite, u_for, u_frz, u_app, u_ext, u_put, u_aug, u_lset, o_obj, o_own, o_ownL, o_ownK, o_lst, b_ok, b_some, b_b, o_some, q_b, q_ok, q_some, s_g0, s_gs, s_pv, s_po, s_vv, v_addI, v_sub, v_mulR, v_mulA, v_divP, v_modP, v_pow, c_eqI, p_seq, p_keys, p_range, p_zip, p_enum, p_items, p_values, c_eqS, c_eqB, c_eqN, c_neI, c_neS, c_lt, c_gt, c_le, c_ge, c_isN, c_isnotN, n_none, n_int, n_bool, n_str, n_tup, n_list, n_dict, Bool.not_true, Bool.not_false, gd_t, f_int, f_abs, f_tupL, f_tupT, f_listL, f_listT, f_listD, f_min, f_max, l_list, l_tup, l_dict, w_list, w_tup, w_keys, t_bool, t_int, s_k0, s_kc, s_tn, Ly.fresh, Ly.freshL, setAll, List.set_cons_zero, List.set_cons_succ, if_true, if_false, Bool.false_eq_true, ite_true, ite_false, List.all_nil, mg_nil, e_comp, e_elt, e_gen, capp_ite, flatP_map, flatP_capp, flatA_cons, flatA_nil, capp_bind, List.cons_append, List.nil_append, fm_one, fm_if, fm_ifs, ap_nil, i_ok, i_some, i_int, i_str, i_bool, i_list, i_tup, i_and, i_or, u_rg, u_rg2, flatQ_map, flatQ_capp, Int.toNat_natCast, List.length_range, capp_rg, capp_frg, g_len, g_lt, Bool.and_true, Bool.true_and, Bool.and_false, Bool.false_and, Bool.or_true, Bool.true_or, Bool.or_false, Bool.false_or, capp_map, capp_fmap, capp_ok,  List.length_map, List.length_append, List.length_cons, List.length_nil, r_idx, r_0, q1]
        refine g1 _ ?_
        rw [nx false (by rw [q1]; rfl)]
        simp [kill]
      | true =>
        cases q2 : (mns had missed (rs.getD i default)).any fun m => decide (m ≤ minute) with
        | false =>
          simp -implicitDefEqProofs (maxSteps := 4000000) (disch := first | assumption | omega | decide | (simp only [List.length_map, List.length_append, List.length_cons, List.length_nil, List.length_range, List.length_drop, List.length_take, List.length_reverse]; omega)) only [e_varT, e_varF, e_con, e_tup, e_lst, e_dct, e_bin, e_cat, e_neg, e_not, e_and, e_or, e_cmp, u_cmp2, e_ite, e_idx, e_cut, u_rev, e_bi, e_me, e_isi, e_call, u_callw, u_next, q_next, e_nil, e_cons, e_o0, e_o1, e_if0, e_if1, evKV, st_nil, st_cons, st_asg, st_asgT, st_par, st_ret, st_brk, st_ite, u_for, u_frz, u_app, u_ext, u_put, u_aug, u_lset, o_obj, o_own, o_ownL, o_ownK, o_lst, b_ok, b_some, b_b, o_some, q_b, q_ok, q_some, s_g0, s_gs, s_pv, s_po, s_vv, v_addI, v_sub, v_mulR, v_mulA, v_divP, v_modP, v_pow, c_eqI, p_seq, p_keys, p_range, p_zip, p_enum, p_items, p_values, c_eqS, c_eqB, c_eqN, c_neI, c_neS, c_lt, c_gt, c_le, c_ge, c_isN, c_isnotN, n_none, n_int, n_bool, n_str, n_tup, n_list, n_dict, Bool.not_true, Bool.not_false, gd_t, f_int, f_abs, f_tupL, f_tupT, f_listL, f_listT, f_listD, f_min, f_max, l_list, l_tup, l_dict, w_list, w_tup, w_keys, t_bool, t_int, s_k0, s_kc, s_tn, Ly.fresh, Ly.freshL, setAll, List.set_cons_zero, List.set_cons_succ, if_true, if_false, Bool.false_eq_true, ite_true, ite_false, List.all_nil, mg_nil, e_comp, e_elt, e_gen, capp_ite, flatP_map, flatP_capp, flatA_cons, flatA_nil, capp_bind, List.cons_append, List.nil_append, fm_one, fm_if, fm_ifs, ap_nil, i_ok, i_some, i_int, i_str, i_bool, i_list, i_tup, i_and, i_or, u_rg, u_rg2, flatQ_map, flatQ_capp, Int.toNat_natCast, List.length_range, capp_rg, capp_frg, g_len, g_lt, Bool.and_true, Bool.true_and, Bool.and_false, Bool.false_and, Bool.or_true, Bool.true_or, Bool.or_false, Bool.false_or, capp_map, capp_fmap, capp_ok,  List.length_map, List.length_append, List.length_cons, List.length_nil, r_idx, r_0, q1, mi, any_M, q2]
          refine g1 _ ?_
          rw [nx false (by rw [q1, q2]; rfl)]
          simp [kill]
        | true =>
          simp -implicitDefEqProofs (maxSteps := 4000000) (disch := first | assumption | omega | decide | (simp only [List.length_map, List.length_append, List.length_cons, List.length_nil, List.length_range, List.length_drop, List.length_take, List.length_reverse]; omega)) only [e_varT, e_varF, e_con, e_tup, e_lst, e_dct, e_bin, e_cat, e_neg, e_not, e_and, e_or, e_cmp, u_cmp2, e_ite, e_idx, e_cut, u_rev, e_bi, e_me, e_isi, e_call, u_callw, u_next, q_next, e_nil, e_cons, e_o0, e_o1, e_if0, e_if1, evKV, st_nil, st_cons, st_asg, st_asgT, st_par, st_ret, st_brk, st_ite, u_for, u_frz, u_app, u_ext, u_put, u_aug, u_lset, o_obj, o_own, o_ownL, o_ownK, o_lst, b_ok, b_some, b_b, o_some, q_b, q_ok, q_some, s_g0, s_gs, s_pv, s_po, s_vv, v_addI, v_sub, v_mulR, v_mulA, v_divP, v_modP, v_pow, c_eqI, p_seq, p_keys, p_range, p_zip, p_enum, p_items, p_values, c_eqS, c_eqB, c_eqN, c_neI, c_neS, c_lt, c_gt, c_le, c_ge, c_isN, c_isnotN, n_none, n_int, n_bool, n_str, n_tup, n_list, n_dict, Bool.not_true, Bool.not_false, gd_t, f_int, f_abs, f_tupL, f_tupT, f_listL, f_listT, f_listD, f_min, f_max, l_list, l_tup, l_dict, w_list, w_tup, w_keys, t_bool, t_int, s_k0, s_kc, s_tn, Ly.fresh, Ly.freshL, setAll, List.set_cons_zero, List.set_cons_succ, if_true, if_false, Bool.false_eq_true, ite_true, ite_false, List.all_nil, mg_nil, e_comp, e_elt, e_gen, capp_ite, flatP_map, flatP_capp, flatA_cons, flatA_nil, capp_bind, List.cons_append, List.nil_append, fm_one, fm_if, fm_ifs, ap_nil, i_ok, i_some, i_int, i_str, i_bool, i_list, i_tup, i_and, i_or, u_rg, u_rg2, flatQ_map, flatQ_capp, Int.toNat_natCast, List.length_range, capp_rg, capp_frg, g_len, g_lt, Bool.and_true, Bool.true_and, Bool.and_false, Bool.false_and, Bool.or_true, Bool.true_or, Bool.or_false, Bool.false_or, capp_map, capp_fmap, capp_ok,  List.length_map, List.length_append, List.length_cons, List.length_nil, r_idx, r_0, q1, mi, any_M, q2]
          refine g1 _ ?_
          rw [nx true (by rw [q1, q2]; rfl)]
          simp [kill]
    · intro Γ hΓ
      subst hΓ
      simp -implicitDefEqProofs (maxSteps := 4000000) (disch := first | assumption | omega | decide | (simp only [List.length_map, List.length_append, List.length_cons, List.length_nil, List.length_range, List.length_drop, List.length_take, List.length_reverse]; omega)) only [e_varT, e_varF, e_con, e_tup, e_lst, e_dct, e_bin, e_cat, e_neg, e_not, e_and, e_or, e_cmp, u_cmp2, e_ite, e_idx, e_cut, u_rev, e_bi, e_me, e_isi, e_call, u_callw, u_next, q_next, e_nil, e_cons, e_o0, e_o1, e_if0, e_if1, evKV, st_nil, st_cons, st_asg, st_asgT, st_par, st_ret, st_brk, st_ite, u_for, u_frz, u_app, u_ext, u_put, u_aug, u_lset, o_obj, o_own, o_ownL, o_ownK, o_lst, b_ok, b_some, b_b, o_some, q_b, q_ok, q_some, s_g0, s_gs, s_pv, s_po, s_vv, v_addI, v_sub, v_mulR, v_mulA, v_divP, v_modP, v_pow, c_eqI, p_seq, p_keys, p_range, p_zip, p_enum, p_items, p_values, c_eqS, c_eqB, c_eqN, c_neI, c_neS, c_lt, c_gt, c_le, c_ge, c_isN, c_isnotN, n_none, n_int, n_bool, n_str, n_tup, n_list, n_dict, Bool.not_true, Bool.not_false, gd_t, f_int, f_abs, f_tupL, f_tupT, f_listL, f_listT, f_listD, f_min, f_max, l_list, l_tup, l_dict, w_list, w_tup, w_keys, t_bool, t_int, s_k0, s_kc, s_tn, Ly.fresh, Ly.freshL, setAll, List.set_cons_zero, List.set_cons_succ, if_true, if_false, Bool.false_eq_true, ite_true, ite_false, List.all_nil, mg_nil, e_comp, e_elt, e_gen, capp_ite, flatP_map, flatP_capp, flatA_cons, flatA_nil, capp_bind, List.cons_append, List.nil_append, fm_one, fm_if, fm_ifs, ap_nil, i_ok, i_some, i_int, i_str, i_bool, i_list, i_tup, i_and, i_or, u_rg, u_rg2, flatQ_map, flatQ_capp, Int.toNat_natCast, List.length_range, capp_rg, capp_frg, g_len, g_lt, Bool.and_true, Bool.true_and, Bool.and_false, Bool.false_and, Bool.or_true, Bool.true_or, Bool.or_false, Bool.false_or, capp_map, capp_fmap, capp_ok,  List.length_map, List.length_append, List.length_cons, List.length_nil]
      exact hκ
end
end K02

set_option maxRecDepth 100000
set_option maxHeartbeats 4000000
namespace K02
open PySem Ly
theorem okB_congr {had had' missed missed' : List Int} (h1 : ∀ x, x ∈ had' ↔ x ∈ had) (h2 : ∀ x, x ∈ missed' ↔ x ∈ missed) : okB had' missed' = okB had missed := by
  rw [Bool.eq_iff_iff, okB_iff, okB_iff]
  exact ⟨fun h a ha m hm => h a ((h1 a).mpr ha) m ((h2 m).mpr hm), fun h a ha m hm => h a ((h1 a).mp ha) m ((h2 m).mp hm)⟩
theorem mns_congr {had had' missed missed' : List Int} (h1 : ∀ x, x ∈ had' ↔ x ∈ had) (h2 : ∀ x, x ∈ missed' ↔ x ∈ missed) (r : Ride) : mns had' missed' r = mns had missed r := by
  unfold mns
  refine List.filter_congr fun m _ => ?_
  rw [Bool.eq_iff_iff, inR_iff, inR_iff]
  exact ⟨fun h => ⟨fun a ha => h.1 a ((h1 a).mpr ha), fun a ha => h.2 a ((h2 a).mpr ha)⟩, fun h => ⟨fun a ha => h.1 a ((h1 a).mp ha), fun a ha => h.2 a ((h2 a).mp ha)⟩⟩
theorem ab_congr {had had' missed missed' : List Int} (h1 : ∀ x, x ∈ had' ↔ x ∈ had) (h2 : ∀ x, x ∈ missed' ↔ x ∈ missed) (rs : List Ride) : ab rs had' missed' = ab rs had missed := by
  unfold ab
  rw [okB_congr h1 h2]
  split
  · refine List.filter_congr fun k _ => ?_
    rw [mns_congr h1 h2]
  · rfl
/-- the rows that are weighed -/
def askR (rs : List Ride) (had missed : List Int) (a : Int) : Int := if ((ab rs (had ++ [a]) missed).length : Int) < ((ab rs had (missed ++ [a])).length : Int) then ((ab rs had (missed ++ [a])).length : Int) else ((ab rs (had ++ [a]) missed).length : Int)
def bgn (rs : List Ride) (had missed : List Int) : List Int := (ab rs had missed).map fun k => (rs.getD k default).b
def askD (rs : List Ride) (a had : List Int) (missed : List Int) : List D := a.map fun x => .tuple [.int (askR rs had missed x), .int x]
/-- the rides one behind the other -/
def Asc (rs : List Ride) : Prop := (rs.map (·.b)).Pairwise (· < ·)
theorem bgn_up {rs : List Ride} (h : Asc rs) (had missed : List Int) : (bgn rs had missed).Pairwise (· < ·) := by
  unfold bgn ab
  split
  · rw [List.pairwise_map]
    have hl : ∀ i j, i < j → j < rs.length → (rs.getD i default).b < (rs.getD j default).b := fun i j hij hj => by
      have := List.pairwise_iff_getElem.mp h i j (by rw [List.length_map]; omega) (by rw [List.length_map]; omega) hij
      rw [List.getElem_map, List.getElem_map] at this
      rw [List.getD_eq_getElem?_getD, List.getD_eq_getElem?_getD, List.getElem?_eq_getElem (by omega), List.getElem?_eq_getElem hj]
      exact this
    refine (List.pairwise_lt_range.filter _).imp_of_mem fun {a b} ha hb h => hl a b h ?_
    exact List.mem_range.mp (List.mem_filter.mp hb).1
  · exact List.Pairwise.nil
theorem add1 (xs : List Int) (a : Int) (h : xs.length ≤ 100) : binD .add (iT xs) (.tuple [.int a]) = some (iT (xs ++ [a])) := by
  have lim_ := lim_v
  unfold iT
  rw [v_addT, g_le (by rw [List.length_map]; show _ + 1 ≤ _; omega), List.map_append]
  rfl
theorem hok_add {xs : List Int} (h : HOk xs) (h3 : xs.length ≤ 50) {a : Int} (h0 : 0 ≤ a) (h1 : a ≤ 1000) : HOk (xs ++ [a]) := ⟨fun x hx => by
  rcases List.mem_append.mp hx with hx | hx
  · exact h.rng x hx
  · rw [List.mem_singleton.mp hx]; exact ⟨h0, h1⟩, by rw [List.length_append]; show _ + 1 ≤ _; omega⟩
theorem bgn_rng {rs : List Ride} (hr : RsOk rs) {had missed : List Int} {a : Int} (h : a ∈ bgn rs had missed) : 0 ≤ a ∧ a ≤ 1000 := by
  obtain ⟨k, hk, rfl⟩ := List.mem_map.mp h
  have := hr.ok _ (getD_mem (d := default) (ab_lt hk))
  exact ⟨this.b0, this.b1⟩
section
variable {rs : List Ride} {had missed : List Int} (hr : RsOk rs) (asc : Asc rs) (h1 : HOk had) (h2 : HOk missed) (l1 : had.length ≤ 50) (l2 : missed.length ≤ 50)
include hr asc h1 h2 l1 l2
theorem ok_ask (k : Nat) {v : D} (hv : 2 ≤ (ab rs had missed).length → biD .min [.list (askD rs (bgn rs had missed) had missed)] = some v) (hn : (ab rs had missed).length < 2 → v = .none) : cfN T (k + 3) 16 [rsD rs, iT had, iT missed] = W.ok v := by
  refine call_ok (f := g_best_ask) rfl rfl fun κ hκ => ?_
  show evSs _ _ _ [.val (rsD rs), .val (iT had), .val (iT missed), .non, .non, .non, .non, .non, .non]
  have lim_ := lim_v
  have rl := hr.len
  have al := ab_len rs had missed
  have ln : biD .len [nT (ab rs had missed)] = some (.int ((ab rs had missed).length : Nat)) := by
    show some (PyData.int (List.length _ : Nat)) = _
    rw [List.length_map]
  by_cases q : (ab rs had missed).length < 2
  · have q' : ((ab rs had missed).length : Int) < 2 := by omega
    have v0 := hn q
    subst v0
    simp -implicitDefEqProofs (maxSteps := 4000000) (disch := first | assumption | omega | decide | (simp only [List.length_map, List.length_append, List.length_cons, List.length_nil, List.length_range, List.length_drop, List.length_take, List.length_reverse]; omega)) only [e_varT, e_varF, e_con, e_tup, e_lst, e_dct, e_bin, e_cat, e_neg, e_not, e_and, e_or, e_cmp, u_cmp2, e_ite, e_idx, e_cut, u_rev, e_bi, e_me, e_isi, e_call, u_callw, u_next, q_next, e_nil, e_cons, e_o0, e_o1, e_if0, e_if1, evKV, st_nil, st_cons, st_asg, st_asgT, st_par, st_ret, st_brk, st_ite, u_for, u_frz, u_app, u_ext, u_put, u_aug, u_lset, o_obj, o_own, o_ownL, o_ownK, o_lst, b_ok, b_some, b_b, o_some, q_b, q_ok, q_some, s_g0, s_gs, s_pv, s_po, s_vv, v_addI, v_sub, v_mulR, v_mulA, v_divP, v_modP, v_pow, c_eqI, p_seq, p_keys, p_range, p_zip, p_enum, p_items, p_values, c_eqS, c_eqB, c_eqN, c_neI, c_neS, c_lt, c_gt, c_le, c_ge, c_isN, c_isnotN, n_none, n_int, n_bool, n_str, n_tup, n_list, n_dict, Bool.not_true, Bool.not_false, gd_t, f_int, f_abs, f_tupL, f_tupT, f_listL, f_listT, f_listD, f_min, f_max, l_list, l_tup, l_dict, w_list, w_tup, w_keys, t_bool, t_int, s_k0, s_kc, s_tn, Ly.fresh, Ly.freshL, setAll, List.set_cons_zero, List.set_cons_succ, if_true, if_false, Bool.false_eq_true, ite_true, ite_false, List.all_nil, mg_nil, e_comp, e_elt, e_gen, capp_ite, flatP_map, flatP_capp, flatA_cons, flatA_nil, capp_bind, List.cons_append, List.nil_append, fm_one, fm_if, fm_ifs, ap_nil, i_ok, i_some, i_int, i_str, i_bool, i_list, i_tup, i_and, i_or, u_rg, u_rg2, flatQ_map, flatQ_capp, Int.toNat_natCast, List.length_range, capp_rg, capp_frg, g_len, g_lt, Bool.and_true, Bool.true_and, Bool.and_false, Bool.false_and, Bool.or_true, Bool.true_or, Bool.or_false, Bool.false_or, capp_map, capp_fmap, capp_ok,  List.length_map, List.length_append, List.length_cons, List.length_nil, g_best_ask, ok_rides hr h1 h2, ln, decide_eq_true q']
    exact hκ
  · have q' : ¬ ((ab rs had missed).length : Int) < 2 := by omega
    have hv := hv (by omega)
    have wk : walkD .seq [nT (ab rs had missed)] = some ((ab rs had missed).map fun k => .int (k : Nat)) := rfl
    have ix : ∀ j ∈ ab rs had missed, idxD (rsD rs) (.int (j : Nat)) = some (rD (rs.getD j default)) := fun j hj => by
      rw [r_idx (by omega) (by have := ab_lt hj; omega), Int.toNat_natCast]
    have em : (ab rs had missed).map (fun j => PyData.int (rs.getD j default).b) = (bgn rs had missed).map .int := by
      unfold bgn
      rw [List.map_map]
      rfl
    obtain ⟨ys, e1, _, e3, e4, e5⟩ := sset_ints (xs := bgn rs had missed) (by unfold bgn; rw [List.length_map]; omega)
    have ey : ys = bgn rs had missed := up_int e4 (bgn_up asc had missed) e3
    subst ey
    have bl : (bgn rs had missed).length ≤ 10 := by unfold bgn; rw [List.length_map]; omega
    simp -implicitDefEqProofs (maxSteps := 4000000) (disch := first | assumption | omega | decide | (simp only [List.length_map, List.length_append, List.length_cons, List.length_nil, List.length_range, List.length_drop, List.length_take, List.length_reverse]; omega)) only [e_varT, e_varF, e_con, e_tup, e_lst, e_dct, e_bin, e_cat, e_neg, e_not, e_and, e_or, e_cmp, u_cmp2, e_ite, e_idx, e_cut, u_rev, e_bi, e_me, e_isi, e_call, u_callw, u_next, q_next, e_nil, e_cons, e_o0, e_o1, e_if0, e_if1, evKV, st_nil, st_cons, st_asg, st_asgT, st_par, st_ret, st_brk, st_ite, u_for, u_frz, u_app, u_ext, u_put, u_aug, u_lset, o_obj, o_own, o_ownL, o_ownK, o_lst, b_ok, b_some, b_b, o_some, q_b, q_ok, q_some, s_g0, s_gs, s_pv, s_po, s_vv, v_addI, v_sub, v_mulR, v_mulA, v_divP, v_modP, v_pow, c_eqI, p_seq, p_keys, p_range, p_zip, p_enum, p_items, p_values, c_eqS, c_eqB, c_eqN, c_neI, c_neS, c_lt, c_gt, c_le, c_ge, c_isN, c_isnotN, n_none, n_int, n_bool, n_str, n_tup, n_list, n_dict, Bool.not_true, Bool.not_false, gd_t, f_int, f_abs, f_tupL, f_tupT, f_listL, f_listT, f_listD, f_min, f_max, l_list, l_tup, l_dict, w_list, w_tup, w_keys, t_bool, t_int, s_k0, s_kc, s_tn, Ly.fresh, Ly.freshL, setAll, List.set_cons_zero, List.set_cons_succ, if_true, if_false, Bool.false_eq_true, ite_true, ite_false, List.all_nil, mg_nil, e_comp, e_elt, e_gen, capp_ite, flatP_map, flatP_capp, flatA_cons, flatA_nil, capp_bind, List.cons_append, List.nil_append, fm_one, fm_if, fm_ifs, ap_nil, i_ok, i_some, i_int, i_str, i_bool, i_list, i_tup, i_and, i_or, u_rg, u_rg2, flatQ_map, flatQ_capp, Int.toNat_natCast, List.length_range, capp_rg, capp_frg, g_len, g_lt, Bool.and_true, Bool.true_and, Bool.and_false, Bool.false_and, Bool.or_true, Bool.true_or, Bool.or_false, Bool.false_or, capp_map, capp_fmap, capp_ok,  List.length_map, List.length_append, List.length_cons, List.length_nil, g_best_ask, ok_rides hr h1 h2, ln, decide_eq_false q', wk, ix, r_1, em, e1]
    refine for_I (bgn rs had missed) .int (fun i Γ => Γ = [.val (rsD rs), .val (iT had), .val (iT missed), .val (nT (ab rs had missed)), .own (.list (askD rs ((bgn rs had missed).take i) had missed)), .non, .non, .non, .non]) rfl (by rfl) ?_ ?_
    · intro i a hi Γ hΓ κ' g1 g2 g3 g4
      subst hΓ
      have ha : a ∈ bgn rs had missed := List.mem_of_getElem? hi
      obtain ⟨hl, he⟩ := List.getElem?_eq_some_iff.mp hi
      obtain ⟨a0, a1⟩ := bgn_rng hr ha
      obtain ⟨yh, _, y2, y3, _, y5⟩ := sset_ints (xs := had ++ [a]) (by rw [List.length_append]; show _ + 1 < _; omega)
      obtain ⟨zh, _, z2, z3, _, z5⟩ := sset_ints (xs := missed ++ [a]) (by rw [List.length_append]; show _ + 1 < _; omega)
      have ky := hok_add h1 l1 a0 a1
      have kz := hok_add h2 l2 a0 a1
      have hy : HOk yh := ⟨fun x hx => ky.rng x ((y3 x).mp hx), by have := ky.len; omega⟩
      have hz : HOk zh := ⟨fun x hx => kz.rng x ((z3 x).mp hx), by have := kz.len; omega⟩
      have y2 : biD .sortedSet [iT (had ++ [a])] = some (.list (yh.map .int)) := y2
      have z2 : biD .sortedSet [iT (missed ++ [a])] = some (.list (zh.map .int)) := z2
      have c1 : cfN T (k + 2) 12 [rsD rs, .tuple (yh.map .int), iT missed] = W.ok (nT (ab rs (had ++ [a]) missed)) := by
        have := ok_rides hr hy h2 k
        rw [ab_congr y3 (fun _ => Iff.rfl)] at this
        exact this
      have c2 : cfN T (k + 2) 12 [rsD rs, iT had, .tuple (zh.map .int)] = W.ok (nT (ab rs had (missed ++ [a]))) := by
        have := ok_rides hr h1 hz k
        rw [ab_congr (fun _ => Iff.rfl) z3] at this
        exact this
      have ln2 : ∀ xs : List Nat, biD .len [nT xs] = some (.int (xs.length : Nat)) := fun xs => by
        show some (PyData.int (List.length _ : Nat)) = _
        rw [List.length_map]
      have lt : (askD rs ((bgn rs had missed).take i) had missed).length < lim := by
        unfold askD
        rw [List.length_map, List.length_take]
        have : (bgn rs had missed).length ≤ 10 := by unfold bgn; rw [List.length_map]; omega
        omega
      simp -implicitDefEqProofs (maxSteps := 4000000) (disch := first | assumption | omega | decide | (simp only [List.length_map, List.length_append, List.length_cons, List.length_nil, List.length_range, List.length_drop, List.length_take, List.length_reverse]; omega)) only [e_varT, e_varF, e_con, e_tup, e_lst, e_dct, e_bin, e_cat, e_neg, e_not, e_and, e_or, e_cmp, u_cmp2, e_ite, e_idx, e_cut, u_rev, e_bi, e_me, e_isi, e_call, u_callw, u_next, q_next, e_nil, e_cons, e_o0, e_o1, e_if0, e_if1, evKV, st_nil, st_cons, st_asg, st_asgT, st_par, st_ret, st_brk, st_ite, u_for, u_frz, u_app, u_ext, u_put, u_aug, u_lset, o_obj, o_own, o_ownL, o_ownK, o_lst, b_ok, b_some, b_b, o_some, q_b, q_ok, q_some, s_g0, s_gs, s_pv, s_po, s_vv, v_addI, v_sub, v_mulR, v_mulA, v_divP, v_modP, v_pow, c_eqI, p_seq, p_keys, p_range, p_zip, p_enum, p_items, p_values, c_eqS, c_eqB, c_eqN, c_neI, c_neS, c_lt, c_gt, c_le, c_ge, c_isN, c_isnotN, n_none, n_int, n_bool, n_str, n_tup, n_list, n_dict, Bool.not_true, Bool.not_false, gd_t, f_int, f_abs, f_tupL, f_tupT, f_listL, f_listT, f_listD, f_min, f_max, l_list, l_tup, l_dict, w_list, w_tup, w_keys, t_bool, t_int, s_k0, s_kc, s_tn, Ly.fresh, Ly.freshL, setAll, List.set_cons_zero, List.set_cons_succ, if_true, if_false, Bool.false_eq_true, ite_true, ite_false, List.all_nil, mg_nil, e_comp, e_elt, e_gen, capp_ite, flatP_map, flatP_capp, flatA_cons, flatA_nil, capp_bind, List.cons_append, List.nil_append, fm_one, fm_if, fm_ifs, ap_nil, i_ok, i_some, i_int, i_str, i_bool, i_list, i_tup, i_and, i_or, u_rg, u_rg2, flatQ_map, flatQ_capp, Int.toNat_natCast, List.length_range, capp_rg, capp_frg, g_len, g_lt, Bool.and_true, Bool.true_and, Bool.and_false, Bool.false_and, Bool.or_true, Bool.true_or, Bool.or_false, Bool.false_or, capp_map, capp_fmap, capp_ok,  List.length_map, List.length_append, List.length_cons, List.length_nil, add1 _ _ h1.len, add1 _ _ h2.len, y2, z2, c1, c2, ln2]
      refine g1 _ ?_
      have : askD rs ((bgn rs had missed).take (i + 1)) had missed = askD rs ((bgn rs had missed).take i) had missed ++ [.tuple [.int (askR rs had missed a), .int a]] := by
        unfold askD
        rw [List.take_succ_eq_append_getElem hl, List.map_append, he]
        rfl
      rw [this]
      rfl
    · intro Γ hΓ
      subst hΓ
      rw [List.take_length]
      simp -implicitDefEqProofs (maxSteps := 4000000) (disch := first | assumption | omega | decide | (simp only [List.length_map, List.length_append, List.length_cons, List.length_nil, List.length_range, List.length_drop, List.length_take, List.length_reverse]; omega)) only [e_varT, e_varF, e_con, e_tup, e_lst, e_dct, e_bin, e_cat, e_neg, e_not, e_and, e_or, e_cmp, u_cmp2, e_ite, e_idx, e_cut, u_rev, e_bi, e_me, e_isi, e_call, u_callw, u_next, q_next, e_nil, e_cons, e_o0, e_o1, e_if0, e_if1, evKV, st_nil, st_cons, st_asg, st_asgT, st_par, st_ret, st_brk, st_ite, u_for, u_frz, u_app, u_ext, u_put, u_aug, u_lset, o_obj, o_own, o_ownL, o_ownK, o_lst, b_ok, b_some, b_b, o_some, q_b, q_ok, q_some, s_g0, s_gs, s_pv, s_po, s_vv, v_addI, v_sub, v_mulR, v_mulA, v_divP, v_modP, v_pow, c_eqI, p_seq, p_keys, p_range, p_zip, p_enum, p_items, p_values, c_eqS, c_eqB, c_eqN, c_neI, c_neS, c_lt, c_gt, c_le, c_ge, c_isN, c_isnotN, n_none, n_int, n_bool, n_str, n_tup, n_list, n_dict, Bool.not_true, Bool.not_false, gd_t, f_int, f_abs, f_tupL, f_tupT, f_listL, f_listT, f_listD, f_min, f_max, l_list, l_tup, l_dict, w_list, w_tup, w_keys, t_bool, t_int, s_k0, s_kc, s_tn, Ly.fresh, Ly.freshL, setAll, List.set_cons_zero, List.set_cons_succ, if_true, if_false, Bool.false_eq_true, ite_true, ite_false, List.all_nil, mg_nil, e_comp, e_elt, e_gen, capp_ite, flatP_map, flatP_capp, flatA_cons, flatA_nil, capp_bind, List.cons_append, List.nil_append, fm_one, fm_if, fm_ifs, ap_nil, i_ok, i_some, i_int, i_str, i_bool, i_list, i_tup, i_and, i_or, u_rg, u_rg2, flatQ_map, flatQ_capp, Int.toNat_natCast, List.length_range, capp_rg, capp_frg, g_len, g_lt, Bool.and_true, Bool.true_and, Bool.and_false, Bool.false_and, Bool.or_true, Bool.true_or, Bool.or_false, Bool.false_or, capp_map, capp_fmap, capp_ok,  List.length_map, List.length_append, List.length_cons, List.length_nil, hv]
      exact hκ
end
/-! ### the law's own -/
theorem ok_lmin {rs : List Ride} {had missed : List Int} (hr : RsOk rs) (h1 : HOk had) (h2 : HOk missed) (k : Nat) : cfN T (k + 1) 26 [rsD rs, iT had, iT missed] = W.ok (if okB had missed = true then .list (rs.map fun r => .list ((mns had missed r).map .int)) else .none) := by
  refine call_ok (f := g__law_minutes) rfl rfl fun κ hκ => ?_
  show evSs _ _ _ [.val (rsD rs), .val (iT had), .val (iT missed), .non, .non, .non, .non, .non, .non]
  have lim_ := lim_v
  have rl := hr.len
  have l1 := h1.len
  have l2 := h2.len
  have w1 : walkD .seq [iT had] = some (had.map .int) := rfl
  have w2 : walkD .seq [iT missed] = some (missed.map .int) := rfl
  have w3 : walkD .seq [rsD rs] = some (rs.map rD) := rfl
  have tg : ∀ (r : Ride) (Γ : Ly.Env), tgB (.tup [5, 6, 7]) (rD r) Γ = some (((Γ.set 5 (.val (.str r.l))).set 6 (.val (.int r.b))).set 7 (.val (.int r.e))) := fun _ _ => rfl
  have ff : ∀ (p : Int → Bool) (xs : List Int), xs.length ≤ 100 → capp [] ((xs.filter p).map PyData.int) = W.ok ((xs.filter p).map .int) := fun p xs h => capp_fmap (by omega)
  have ob : (had.filter fun a => !(missed.filter fun m => decide (m ≤ a)).isEmpty).isEmpty = okB had missed := rfl
  have fm : ∀ (r : Ride), ((List.range (r.e - r.b).toNat).filter fun x => (had.filter fun one => decide (r.b + (x : Nat) < one)).isEmpty && (missed.filter fun one => decide (one ≤ r.b + (x : Nat))).isEmpty).map (fun x => PyData.int (r.b + (x : Nat))) = (mns had missed r).map .int := fun r => by
    unfold mns rgI
    rw [List.filter_map, List.map_map]
    rfl
  have b0 : ∀ r ∈ rs, -4611686018427387904 ≤ r.b ∧ r.b < 4611686018427387904 ∧ -4611686018427387904 ≤ r.e ∧ r.e < 4611686018427387904 ∧ (r.e - r.b).toNat ≤ 1000 := fun r hr' => by
    obtain ⟨_, _, _, _⟩ := hr.ok r hr'
    omega
  have wr : ∀ r ∈ rs, walkD .range [.int r.b, .int r.e] = some (rgN (r.e - r.b).toNat fun k => .int (r.b + (k : Nat))) := fun r hr' => by
    obtain ⟨a, b, c, d, _⟩ := b0 r hr'
    exact u_rg2 _ _ c d a b
  have cr : ∀ r ∈ rs, ∀ (p : Nat → Bool) (e : Nat → D), capp [] (((List.range (r.e - r.b).toNat).filter p).map e) = W.ok (((List.range (r.e - r.b).toNat).filter p).map e) := fun r hr' p e => by
    obtain ⟨a, b, c, d, e⟩ := b0 r hr'
    exact capp_frg (by omega)
  have cr2 : ∀ r ∈ rs, capp [] ((mns had missed r).map PyData.int) = W.ok ((mns had missed r).map .int) := fun r hr' => by
    obtain ⟨a, b, c, d, e⟩ := b0 r hr'
    refine capp_map (Nat.le_trans (List.length_filter_le _ _) ?_)
    rw [rgI_len]
    omega
  cases o : okB had missed with
  | false =>
    rw [o] at hκ
    simp -implicitDefEqProofs (maxSteps := 4000000) (disch := first | assumption | omega | decide | (simp only [List.length_map, List.length_append, List.length_cons, List.length_nil, List.length_range, List.length_drop, List.length_take, List.length_reverse]; omega)) only [e_varT, e_varF, e_con, e_tup, e_lst, e_dct, e_bin, e_cat, e_neg, e_not, e_and, e_or, e_cmp, u_cmp2, e_ite, e_idx, e_cut, u_rev, e_bi, e_me, e_isi, e_call, u_callw, u_next, q_next, e_nil, e_cons, e_o0, e_o1, e_if0, e_if1, evKV, st_nil, st_cons, st_asg, st_asgT, st_par, st_ret, st_brk, st_ite, u_for, u_frz, u_app, u_ext, u_put, u_aug, u_lset, o_obj, o_own, o_ownL, o_ownK, o_lst, b_ok, b_some, b_b, o_some, q_b, q_ok, q_some, s_g0, s_gs, s_pv, s_po, s_vv, v_addI, v_sub, v_mulR, v_mulA, v_divP, v_modP, v_pow, c_eqI, p_seq, p_keys, p_range, p_zip, p_enum, p_items, p_values, c_eqS, c_eqB, c_eqN, c_neI, c_neS, c_lt, c_gt, c_le, c_ge, c_isN, c_isnotN, n_none, n_int, n_bool, n_str, n_tup, n_list, n_dict, Bool.not_true, Bool.not_false, gd_t, f_int, f_abs, f_tupL, f_tupT, f_listL, f_listT, f_listD, f_min, f_max, l_list, l_tup, l_dict, w_list, w_tup, w_keys, t_bool, t_int, s_k0, s_kc, s_tn, Ly.fresh, Ly.freshL, setAll, List.set_cons_zero, List.set_cons_succ, if_true, if_false, Bool.false_eq_true, ite_true, ite_false, List.all_nil, mg_nil, e_comp, e_elt, e_gen, capp_ite, flatP_map, flatP_capp, flatA_cons, flatA_nil, capp_bind, List.cons_append, List.nil_append, fm_one, fm_if, fm_ifs, ap_nil, i_ok, i_some, i_int, i_str, i_bool, i_list, i_tup, i_and, i_or, u_rg, u_rg2, flatQ_map, flatQ_capp, Int.toNat_natCast, List.length_range, capp_rg, capp_frg, g_len, g_lt, Bool.and_true, Bool.true_and, Bool.and_false, Bool.false_and, Bool.or_true, Bool.true_or, Bool.or_false, Bool.false_or, capp_map, capp_fmap, capp_ok,  List.length_map, List.length_append, List.length_cons, List.length_nil, g__law_minutes, w1, w2, w3, tg, ff, ne_nil0, ob, o]
    exact hκ
  | true =>
    rw [if_pos o] at hκ
    simp -implicitDefEqProofs (maxSteps := 4000000) (disch := first | assumption | omega | decide | (simp only [List.length_map, List.length_append, List.length_cons, List.length_nil, List.length_range, List.length_drop, List.length_take, List.length_reverse]; omega)) only [e_varT, e_varF, e_con, e_tup, e_lst, e_dct, e_bin, e_cat, e_neg, e_not, e_and, e_or, e_cmp, u_cmp2, e_ite, e_idx, e_cut, u_rev, e_bi, e_me, e_isi, e_call, u_callw, u_next, q_next, e_nil, e_cons, e_o0, e_o1, e_if0, e_if1, evKV, st_nil, st_cons, st_asg, st_asgT, st_par, st_ret, st_brk, st_ite, u_for, u_frz, u_app, u_ext, u_put, u_aug, u_lset, o_obj, o_own, o_ownL, o_ownK, o_lst, b_ok, b_some, b_b, o_some, q_b, q_ok, q_some, s_g0, s_gs, s_pv, s_po, s_vv, v_addI, v_sub, v_mulR, v_mulA, v_divP, v_modP, v_pow, c_eqI, p_seq, p_keys, p_range, p_zip, p_enum, p_items, p_values, c_eqS, c_eqB, c_eqN, c_neI, c_neS, c_lt, c_gt, c_le, c_ge, c_isN, c_isnotN, n_none, n_int, n_bool, n_str, n_tup, n_list, n_dict, Bool.not_true, Bool.not_false, gd_t, f_int, f_abs, f_tupL, f_tupT, f_listL, f_listT, f_listD, f_min, f_max, l_list, l_tup, l_dict, w_list, w_tup, w_keys, t_bool, t_int, s_k0, s_kc, s_tn, Ly.fresh, Ly.freshL, setAll, List.set_cons_zero, List.set_cons_succ, if_true, if_false, Bool.false_eq_true, ite_true, ite_false, List.all_nil, mg_nil, e_comp, e_elt, e_gen, capp_ite, flatP_map, flatP_capp, flatA_cons, flatA_nil, capp_bind, List.cons_append, List.nil_append, fm_one, fm_if, fm_ifs, ap_nil, i_ok, i_some, i_int, i_str, i_bool, i_list, i_tup, i_and, i_or, u_rg, u_rg2, flatQ_map, flatQ_capp, Int.toNat_natCast, List.length_range, capp_rg, capp_frg, g_len, g_lt, Bool.and_true, Bool.true_and, Bool.and_false, Bool.false_and, Bool.or_true, Bool.true_or, Bool.or_false, Bool.false_or, capp_map, capp_fmap, capp_ok,  List.length_map, List.length_append, List.length_cons, List.length_nil, g__law_minutes, w1, w2, w3, tg, ff, ne_nil0, ob, o, wr, eq_nil0, cr2, fm]
    exact hκ
end K02

set_option maxRecDepth 100000
set_option maxHeartbeats 4000000
namespace K02
open PySem Ly
theorem vals2 {a b : D} {Q : D → Prop} (h1 : Q a) (h2 : Q b) : ∀ d ∈ [a, b], Q d := by
  intro d hd
  simp only [List.mem_cons, List.not_mem_nil, or_false] at hd
  rcases hd with rfl | rfl
  · exact h1
  · exact h2
/-- numbers of draws, in order -/
theorem ok_set {Q : D → Prop} {many : Nat} (hm : many ≤ 20) {most : Int} (h0 : 0 < most) (h9 : most ≤ 1000) (k : Nat) (h : ∀ ys : List Int, ys.Pairwise (· < ·) → (∀ y ∈ ys, 0 ≤ y ∧ y < most) → ys.length ≤ many → Q (iT ys)) : cfN T (k + 1) 27 [.int many, .int most] Q := by
  refine call_to (f := g__law_set) rfl rfl fun κ hκ => ?_
  show evSs _ _ _ [.obj, .val (.int many), .val (.int most), .non]
  have lim_ := lim_v
  simp -implicitDefEqProofs (maxSteps := 4000000) (disch := first | assumption | omega | decide | (simp only [List.length_map, List.length_append, List.length_cons, List.length_nil, List.length_range, List.length_drop, List.length_take, List.length_reverse]; omega)) only [e_varT, e_varF, e_con, e_tup, e_lst, e_dct, e_bin, e_cat, e_neg, e_not, e_and, e_or, e_cmp, u_cmp2, e_ite, e_idx, e_cut, u_rev, e_bi, e_me, e_isi, e_call, u_callw, u_next, q_next, e_nil, e_cons, e_o0, e_o1, e_if0, e_if1, evKV, st_nil, st_cons, st_asg, st_asgT, st_par, st_ret, st_brk, st_ite, u_for, u_frz, u_app, u_ext, u_put, u_aug, u_lset, o_obj, o_own, o_ownL, o_ownK, o_lst, b_ok, b_some, b_b, o_some, q_b, q_ok, q_some, s_g0, s_gs, s_pv, s_po, s_vv, v_addI, v_sub, v_mulR, v_mulA, v_divP, v_modP, v_pow, c_eqI, p_seq, p_keys, p_range, p_zip, p_enum, p_items, p_values, c_eqS, c_eqB, c_eqN, c_neI, c_neS, c_lt, c_gt, c_le, c_ge, c_isN, c_isnotN, n_none, n_int, n_bool, n_str, n_tup, n_list, n_dict, Bool.not_true, Bool.not_false, gd_t, f_int, f_abs, f_tupL, f_tupT, f_listL, f_listT, f_listD, f_min, f_max, l_list, l_tup, l_dict, w_list, w_tup, w_keys, t_bool, t_int, s_k0, s_kc, s_tn, Ly.fresh, Ly.freshL, setAll, List.set_cons_zero, List.set_cons_succ, if_true, if_false, Bool.false_eq_true, ite_true, ite_false, List.all_nil, mg_nil, e_comp, e_elt, e_gen, capp_ite, flatP_map, flatP_capp, flatA_cons, flatA_nil, capp_bind, List.cons_append, List.nil_append, fm_one, fm_if, fm_ifs, ap_nil, i_ok, i_some, i_int, i_str, i_bool, i_list, i_tup, i_and, i_or, u_rg, u_rg2, flatQ_map, flatQ_capp, Int.toNat_natCast, List.length_range, capp_rg, capp_frg, g_len, g_lt, Bool.and_true, Bool.true_and, Bool.and_false, Bool.false_and, Bool.or_true, Bool.true_or, Bool.or_false, Bool.false_or, capp_map, capp_fmap, capp_ok,  List.length_map, List.length_append, List.length_cons, List.length_nil, g__law_set]
  refine flatQ_T (enc := fun x : Int => .tuple [.int x, .bool true]) (fun x => 0 ≤ x ∧ x < most) many (fun x hx acc Q hQ => ?_) (by omega) fun ys hl hy => ?_
  · simp -implicitDefEqProofs (maxSteps := 4000000) (disch := first | assumption | omega | decide | (simp only [List.length_map, List.length_append, List.length_cons, List.length_nil, List.length_range, List.length_drop, List.length_take, List.length_reverse]; omega)) only [e_varT, e_varF, e_con, e_tup, e_lst, e_dct, e_bin, e_cat, e_neg, e_not, e_and, e_or, e_cmp, u_cmp2, e_ite, e_idx, e_cut, u_rev, e_bi, e_me, e_isi, e_call, u_callw, u_next, q_next, e_nil, e_cons, e_o0, e_o1, e_if0, e_if1, evKV, st_nil, st_cons, st_asg, st_asgT, st_par, st_ret, st_brk, st_ite, u_for, u_frz, u_app, u_ext, u_put, u_aug, u_lset, o_obj, o_own, o_ownL, o_ownK, o_lst, b_ok, b_some, b_b, o_some, q_b, q_ok, q_some, s_g0, s_gs, s_pv, s_po, s_vv, v_addI, v_sub, v_mulR, v_mulA, v_divP, v_modP, v_pow, c_eqI, p_seq, p_keys, p_range, p_zip, p_enum, p_items, p_values, c_eqS, c_eqB, c_eqN, c_neI, c_neS, c_lt, c_gt, c_le, c_ge, c_isN, c_isnotN, n_none, n_int, n_bool, n_str, n_tup, n_list, n_dict, Bool.not_true, Bool.not_false, gd_t, f_int, f_abs, f_tupL, f_tupT, f_listL, f_listT, f_listD, f_min, f_max, l_list, l_tup, l_dict, w_list, w_tup, w_keys, t_bool, t_int, s_k0, s_kc, s_tn, Ly.fresh, Ly.freshL, setAll, List.set_cons_zero, List.set_cons_succ, if_true, if_false, Bool.false_eq_true, ite_true, ite_false, List.all_nil, mg_nil, e_comp, e_elt, e_gen, capp_ite, flatP_map, flatP_capp, flatA_cons, flatA_nil, capp_bind, List.cons_append, List.nil_append, fm_one, fm_if, fm_ifs, ap_nil, i_ok, i_some, i_int, i_str, i_bool, i_list, i_tup, i_and, i_or, u_rg, u_rg2, flatQ_map, flatQ_capp, Int.toNat_natCast, List.length_range, capp_rg, capp_frg, g_len, g_lt, Bool.and_true, Bool.true_and, Bool.and_false, Bool.false_and, Bool.or_true, Bool.true_or, Bool.or_false, Bool.false_or, capp_map, capp_fmap, capp_ok,  List.length_map, List.length_append, List.length_cons, List.length_nil]
    refine ⟨by omega, by omega, fun r hr => ?_⟩
    exact hQ (r : Int) ⟨by omega, hr⟩
  · obtain ⟨kvs, e1, zs, e2, e3, e4, e5⟩ := sdict_ints (xs := ys) (fun _ => .bool true) (by omega)
    simp -implicitDefEqProofs (maxSteps := 4000000) (disch := first | assumption | omega | decide | (simp only [List.length_map, List.length_append, List.length_cons, List.length_nil, List.length_range, List.length_drop, List.length_take, List.length_reverse]; omega)) only [e_varT, e_varF, e_con, e_tup, e_lst, e_dct, e_bin, e_cat, e_neg, e_not, e_and, e_or, e_cmp, u_cmp2, e_ite, e_idx, e_cut, u_rev, e_bi, e_me, e_isi, e_call, u_callw, u_next, q_next, e_nil, e_cons, e_o0, e_o1, e_if0, e_if1, evKV, st_nil, st_cons, st_asg, st_asgT, st_par, st_ret, st_brk, st_ite, u_for, u_frz, u_app, u_ext, u_put, u_aug, u_lset, o_obj, o_own, o_ownL, o_ownK, o_lst, b_ok, b_some, b_b, o_some, q_b, q_ok, q_some, s_g0, s_gs, s_pv, s_po, s_vv, v_addI, v_sub, v_mulR, v_mulA, v_divP, v_modP, v_pow, c_eqI, p_seq, p_keys, p_range, p_zip, p_enum, p_items, p_values, c_eqS, c_eqB, c_eqN, c_neI, c_neS, c_lt, c_gt, c_le, c_ge, c_isN, c_isnotN, n_none, n_int, n_bool, n_str, n_tup, n_list, n_dict, Bool.not_true, Bool.not_false, gd_t, f_int, f_abs, f_tupL, f_tupT, f_listL, f_listT, f_listD, f_min, f_max, l_list, l_tup, l_dict, w_list, w_tup, w_keys, t_bool, t_int, s_k0, s_kc, s_tn, Ly.fresh, Ly.freshL, setAll, List.set_cons_zero, List.set_cons_succ, if_true, if_false, Bool.false_eq_true, ite_true, ite_false, List.all_nil, mg_nil, e_comp, e_elt, e_gen, capp_ite, flatP_map, flatP_capp, flatA_cons, flatA_nil, capp_bind, List.cons_append, List.nil_append, fm_one, fm_if, fm_ifs, ap_nil, i_ok, i_some, i_int, i_str, i_bool, i_list, i_tup, i_and, i_or, u_rg, u_rg2, flatQ_map, flatQ_capp, Int.toNat_natCast, List.length_range, capp_rg, capp_frg, g_len, g_lt, Bool.and_true, Bool.true_and, Bool.and_false, Bool.false_and, Bool.or_true, Bool.true_or, Bool.or_false, Bool.false_or, capp_map, capp_fmap, capp_ok,  List.length_map, List.length_append, List.length_cons, List.length_nil, e1, e2, hκ]
    exact h zs e4 (fun y hy' => hy y ((e3 y).mp hy')) (by omega)
/-- the rides of the law -/
theorem ok_lrides {Q : D → Prop} (k : Nat) (h : ∀ rs : List Ride, RsOk rs → Asc rs → Q (rsD rs)) : cfN T (k + 2) 25 [] Q := by
  refine call_to (f := g__law_rides) rfl rfl fun κ hκ => ?_
  show evSs _ _ _ [.obj, .non, .non, .non, .non]
  have lim_ := lim_v
  simp -implicitDefEqProofs (maxSteps := 4000000) (disch := first | assumption | omega | decide | (simp only [List.length_map, List.length_append, List.length_cons, List.length_nil, List.length_range, List.length_drop, List.length_take, List.length_reverse]; omega)) only [e_varT, e_varF, e_con, e_tup, e_lst, e_dct, e_bin, e_cat, e_neg, e_not, e_and, e_or, e_cmp, u_cmp2, e_ite, e_idx, e_cut, u_rev, e_bi, e_me, e_isi, e_call, u_callw, u_next, q_next, e_nil, e_cons, e_o0, e_o1, e_if0, e_if1, evKV, st_nil, st_cons, st_asg, st_asgT, st_par, st_ret, st_brk, st_ite, u_for, u_frz, u_app, u_ext, u_put, u_aug, u_lset, o_obj, o_own, o_ownL, o_ownK, o_lst, b_ok, b_some, b_b, o_some, q_b, q_ok, q_some, s_g0, s_gs, s_pv, s_po, s_vv, v_addI, v_sub, v_mulR, v_mulA, v_divP, v_modP, v_pow, c_eqI, p_seq, p_keys, p_range, p_zip, p_enum, p_items, p_values, c_eqS, c_eqB, c_eqN, c_neI, c_neS, c_lt, c_gt, c_le, c_ge, c_isN, c_isnotN, n_none, n_int, n_bool, n_str, n_tup, n_list, n_dict, Bool.not_true, Bool.not_false, gd_t, f_int, f_abs, f_tupL, f_tupT, f_listL, f_listT, f_listD, f_min, f_max, l_list, l_tup, l_dict, w_list, w_tup, w_keys, t_bool, t_int, s_k0, s_kc, s_tn, Ly.fresh, Ly.freshL, setAll, List.set_cons_zero, List.set_cons_succ, if_true, if_false, Bool.false_eq_true, ite_true, ite_false, List.all_nil, mg_nil, e_comp, e_elt, e_gen, capp_ite, flatP_map, flatP_capp, flatA_cons, flatA_nil, capp_bind, List.cons_append, List.nil_append, fm_one, fm_if, fm_ifs, ap_nil, i_ok, i_some, i_int, i_str, i_bool, i_list, i_tup, i_and, i_or, u_rg, u_rg2, flatQ_map, flatQ_capp, Int.toNat_natCast, List.length_range, capp_rg, capp_frg, g_len, g_lt, Bool.and_true, Bool.true_and, Bool.and_false, Bool.false_and, Bool.or_true, Bool.true_or, Bool.or_false, Bool.false_or, capp_map, capp_fmap, capp_ok,  List.length_map, List.length_append, List.length_cons, List.length_nil, g__law_rides]
  refine ⟨by omega, by omega, fun r hr => ⟨by omega, by omega, fun n hn => ?_⟩⟩
  simp -implicitDefEqProofs (maxSteps := 4000000) (disch := first | assumption | omega | decide | (simp only [List.length_map, List.length_append, List.length_cons, List.length_nil, List.length_range, List.length_drop, List.length_take, List.length_reverse]; omega)) only [e_varT, e_varF, e_con, e_tup, e_lst, e_dct, e_bin, e_cat, e_neg, e_not, e_and, e_or, e_cmp, u_cmp2, e_ite, e_idx, e_cut, u_rev, e_bi, e_me, e_isi, e_call, u_callw, u_next, q_next, e_nil, e_cons, e_o0, e_o1, e_if0, e_if1, evKV, st_nil, st_cons, st_asg, st_asgT, st_par, st_ret, st_brk, st_ite, u_for, u_frz, u_app, u_ext, u_put, u_aug, u_lset, o_obj, o_own, o_ownL, o_ownK, o_lst, b_ok, b_some, b_b, o_some, q_b, q_ok, q_some, s_g0, s_gs, s_pv, s_po, s_vv, v_addI, v_sub, v_mulR, v_mulA, v_divP, v_modP, v_pow, c_eqI, p_seq, p_keys, p_range, p_zip, p_enum, p_items, p_values, c_eqS, c_eqB, c_eqN, c_neI, c_neS, c_lt, c_gt, c_le, c_ge, c_isN, c_isnotN, n_none, n_int, n_bool, n_str, n_tup, n_list, n_dict, Bool.not_true, Bool.not_false, gd_t, f_int, f_abs, f_tupL, f_tupT, f_listL, f_listT, f_listD, f_min, f_max, l_list, l_tup, l_dict, w_list, w_tup, w_keys, t_bool, t_int, s_k0, s_kc, s_tn, Ly.fresh, Ly.freshL, setAll, List.set_cons_zero, List.set_cons_succ, if_true, if_false, Bool.false_eq_true, ite_true, ite_false, List.all_nil, mg_nil, e_comp, e_elt, e_gen, capp_ite, flatP_map, flatP_capp, flatA_cons, flatA_nil, capp_bind, List.cons_append, List.nil_append, fm_one, fm_if, fm_ifs, ap_nil, i_ok, i_some, i_int, i_str, i_bool, i_list, i_tup, i_and, i_or, u_rg, u_rg2, flatQ_map, flatQ_capp, Int.toNat_natCast, List.length_range, capp_rg, capp_frg, g_len, g_lt, Bool.and_true, Bool.true_and, Bool.and_false, Bool.false_and, Bool.or_true, Bool.true_or, Bool.or_false, Bool.false_or, capp_map, capp_fmap, capp_ok,  List.length_map, List.length_append, List.length_cons, List.length_nil]
  refine for_I (List.range n) (fun k => .int (k : Nat)) (fun i Γ => ∃ (rs : List Ride) (at_ : Int), rs.length = i ∧ (∀ r ∈ rs, 0 ≤ r.b ∧ r.b < at_ ∧ 0 ≤ r.e ∧ r.e ≤ at_) ∧ Asc rs ∧ 0 ≤ at_ ∧ at_ ≤ 3 + 9 * i ∧ Γ = [.obj, .non, .own (.list (rs.map rD)), .val (.int at_), .non]) rfl ⟨[], r, rfl, fun r hr => (by cases hr), List.Pairwise.nil, by omega, by omega, rfl⟩ ?_ ?_
  · intro i x hi Γ hI κ' g1 g2 g3 g4
    obtain ⟨rs, at_, l, hb, asc, a0, a1, rfl⟩ := hI
    obtain ⟨hl, hx⟩ := List.getElem?_eq_some_iff.mp hi
    rw [List.length_range] at hl
    have rl : rs.length < lim := by omega
    simp -implicitDefEqProofs (maxSteps := 4000000) (disch := first | assumption | omega | decide | (simp only [List.length_map, List.length_append, List.length_cons, List.length_nil, List.length_range, List.length_drop, List.length_take, List.length_reverse]; omega)) only [e_varT, e_varF, e_con, e_tup, e_lst, e_dct, e_bin, e_cat, e_neg, e_not, e_and, e_or, e_cmp, u_cmp2, e_ite, e_idx, e_cut, u_rev, e_bi, e_me, e_isi, e_call, u_callw, u_next, q_next, e_nil, e_cons, e_o0, e_o1, e_if0, e_if1, evKV, st_nil, st_cons, st_asg, st_asgT, st_par, st_ret, st_brk, st_ite, u_for, u_frz, u_app, u_ext, u_put, u_aug, u_lset, o_obj, o_own, o_ownL, o_ownK, o_lst, b_ok, b_some, b_b, o_some, q_b, q_ok, q_some, s_g0, s_gs, s_pv, s_po, s_vv, v_addI, v_sub, v_mulR, v_mulA, v_divP, v_modP, v_pow, c_eqI, p_seq, p_keys, p_range, p_zip, p_enum, p_items, p_values, c_eqS, c_eqB, c_eqN, c_neI, c_neS, c_lt, c_gt, c_le, c_ge, c_isN, c_isnotN, n_none, n_int, n_bool, n_str, n_tup, n_list, n_dict, Bool.not_true, Bool.not_false, gd_t, f_int, f_abs, f_tupL, f_tupT, f_listL, f_listT, f_listD, f_min, f_max, l_list, l_tup, l_dict, w_list, w_tup, w_keys, t_bool, t_int, s_k0, s_kc, s_tn, Ly.fresh, Ly.freshL, setAll, List.set_cons_zero, List.set_cons_succ, if_true, if_false, Bool.false_eq_true, ite_true, ite_false, List.all_nil, mg_nil, e_comp, e_elt, e_gen, capp_ite, flatP_map, flatP_capp, flatA_cons, flatA_nil, capp_bind, List.cons_append, List.nil_append, fm_one, fm_if, fm_ifs, ap_nil, i_ok, i_some, i_int, i_str, i_bool, i_list, i_tup, i_and, i_or, u_rg, u_rg2, flatQ_map, flatQ_capp, Int.toNat_natCast, List.length_range, capp_rg, capp_frg, g_len, g_lt, Bool.and_true, Bool.true_and, Bool.and_false, Bool.false_and, Bool.or_true, Bool.true_or, Bool.or_false, Bool.false_or, capp_map, capp_fmap, capp_ok,  List.length_map, List.length_append, List.length_cons, List.length_nil]
    refine ⟨by omega, by omega, fun e he => ?_⟩
    refine ok_pick (by simp) (by simp) (fun d hd => ?_) k
    obtain ⟨line, rfl⟩ : ∃ l, d = .str l := by
      revert d
      exact vals2 ⟨_, rfl⟩ ⟨_, rfl⟩
    refine ⟨by omega, by omega, fun g hg => ?_⟩
    refine g1 _ ⟨rs ++ [⟨line, at_, at_ + 1 + (e : Nat)⟩], at_ + 1 + (e : Nat) + (g : Nat), by rw [List.length_append, l]; rfl, fun q hq => ?_, ?_, by omega, by omega, ?_⟩
    · rcases List.mem_append.mp hq with hq | hq
      · obtain ⟨_, _, _, _⟩ := hb q hq
        exact ⟨by omega, by omega, by omega, by omega⟩
      · rw [List.mem_singleton.mp hq]
        exact ⟨a0, by show at_ < _; omega, by show 0 ≤ at_ + 1 + (e : Int); omega, by show at_ + 1 + (e : Int) ≤ _; omega⟩
    · unfold Asc
      rw [List.map_append, List.pairwise_append]
      refine ⟨asc, List.pairwise_singleton _ _, fun a ha b hb' => ?_⟩
      obtain ⟨q, hq, rfl⟩ := List.mem_map.mp ha
      obtain ⟨q2, hq2, rfl⟩ := List.mem_map.mp hb'
      rw [List.mem_singleton.mp hq2]
      exact (hb q hq).2.1
    · rw [List.map_append]
      rfl
  · rintro Γ ⟨rs, at_, l, hb, asc, a0, a1, rfl⟩
    rw [List.length_range] at l a1
    simp -implicitDefEqProofs (maxSteps := 4000000) (disch := first | assumption | omega | decide | (simp only [List.length_map, List.length_append, List.length_cons, List.length_nil, List.length_range, List.length_drop, List.length_take, List.length_reverse]; omega)) only [e_varT, e_varF, e_con, e_tup, e_lst, e_dct, e_bin, e_cat, e_neg, e_not, e_and, e_or, e_cmp, u_cmp2, e_ite, e_idx, e_cut, u_rev, e_bi, e_me, e_isi, e_call, u_callw, u_next, q_next, e_nil, e_cons, e_o0, e_o1, e_if0, e_if1, evKV, st_nil, st_cons, st_asg, st_asgT, st_par, st_ret, st_brk, st_ite, u_for, u_frz, u_app, u_ext, u_put, u_aug, u_lset, o_obj, o_own, o_ownL, o_ownK, o_lst, b_ok, b_some, b_b, o_some, q_b, q_ok, q_some, s_g0, s_gs, s_pv, s_po, s_vv, v_addI, v_sub, v_mulR, v_mulA, v_divP, v_modP, v_pow, c_eqI, p_seq, p_keys, p_range, p_zip, p_enum, p_items, p_values, c_eqS, c_eqB, c_eqN, c_neI, c_neS, c_lt, c_gt, c_le, c_ge, c_isN, c_isnotN, n_none, n_int, n_bool, n_str, n_tup, n_list, n_dict, Bool.not_true, Bool.not_false, gd_t, f_int, f_abs, f_tupL, f_tupT, f_listL, f_listT, f_listD, f_min, f_max, l_list, l_tup, l_dict, w_list, w_tup, w_keys, t_bool, t_int, s_k0, s_kc, s_tn, Ly.fresh, Ly.freshL, setAll, List.set_cons_zero, List.set_cons_succ, if_true, if_false, Bool.false_eq_true, ite_true, ite_false, List.all_nil, mg_nil, e_comp, e_elt, e_gen, capp_ite, flatP_map, flatP_capp, flatA_cons, flatA_nil, capp_bind, List.cons_append, List.nil_append, fm_one, fm_if, fm_ifs, ap_nil, i_ok, i_some, i_int, i_str, i_bool, i_list, i_tup, i_and, i_or, u_rg, u_rg2, flatQ_map, flatQ_capp, Int.toNat_natCast, List.length_range, capp_rg, capp_frg, g_len, g_lt, Bool.and_true, Bool.true_and, Bool.and_false, Bool.false_and, Bool.or_true, Bool.true_or, Bool.or_false, Bool.false_or, capp_map, capp_fmap, capp_ok,  List.length_map, List.length_append, List.length_cons, List.length_nil, hκ]
    exact h rs ⟨by omega, fun r hr => by
      obtain ⟨_, _, _, _⟩ := hb r hr
      exact ⟨by omega, by omega, by omega, by omega⟩⟩ asc
end K02

set_option maxRecDepth 100000
set_option maxHeartbeats 4000000
/-! One step at a time: what comes behind is not looked at before its turn. -/
namespace Ly
open PySem
structure Tag {α : Type} (Q : α → Prop) : Type where
  mk ::
namespace W
/-- what is behind hangs on a tag: it is not looked at before its turn -/
def to {α : Type} (Q : α → Prop) (m : W α) (_ : Tag Q) : Prop := m Q
end W
abbrev tto {α : Type} (m : W α) (Q : α → Prop) : Prop := W.to Q m Tag.mk
theorem to_b {α β : Type} (m : W α) (f : α → W β) (Q : β → Prop) (t : Tag Q) : W.to Q (W.bind m f) t = W.to (fun a => W.to Q (f a) Tag.mk) m Tag.mk := rfl
theorem to_ok {α : Type} (a : α) (Q : α → Prop) (t : Tag Q) : W.to Q (W.ok a) t = Q a := rfl
theorem to_next {n : Int} {Q : D → Prop} {t : Tag Q} (h0 : 0 < n) (h1 : n < 1073741824) (h : ∀ r : Nat, (r : Int) < n → Q (.int r)) : W.to Q (nextD (.int n)) t := by
  show nextD (.int n) Q
  rw [q_next]
  exact ⟨h0, h1, h⟩
theorem to_if {c : Prop} [Decidable c] {m1 m2 : W D} {F : D → Prop} {t : Tag F} (P : D → Prop) (h1 : c → ∀ Q : D → Prop, (∀ d, P d → Q d) → tto m1 Q) (h2 : ¬ c → ∀ Q : D → Prop, (∀ d, P d → Q d) → tto m2 Q) (hF : ∀ d, P d → F d) : W.to F (if c then m1 else m2) t := by
  split
  · exact h1 ‹_› F hF
  · exact h2 ‹_› F hF
theorem to_call {m : W D} {Q : D → Prop} {t : Tag Q} (h : m Q) : W.to Q m t := h
section
variable {cf : Nat → List D → W D} {p : Bool} {Γ : Env} {κ : Ko}
theorem t_for (t : Tg) (k : Ik) (es : Es) (ks : List Nat) (b : Ss) : evS cf (.for t k es ks b) κ Γ = tto (evEs cf false es Γ) fun as => tto (W.opt (walkD k as)) fun items => forL (stepF cf t ks b) (loopK κ ks) items Γ := rfl
theorem t_frz (i : Nat) : evS cf (.freeze i) κ Γ = tto (W.opt (ownOf (get Γ i))) fun d => κ.nx (Γ.set i (.val d)) := u_frz i
theorem t_app (i : Nat) (e : E) : evS cf (.append i e) κ Γ = tto (W.opt (ownL (get Γ i))) fun ds => tto (ev cf false e Γ) fun y => tto (W.opt (gd (decide (ds.length < lim)) ())) fun _ => κ.nx (Γ.set i (.own (.list (ds ++ [y])))) := u_app i e
theorem t_ext (i : Nat) (e : E) : evS cf (.extend i e) κ Γ = tto (W.opt (ownL (get Γ i))) fun ds => tto (ev cf true e Γ) fun y => tto (W.opt (listOf y)) fun es => tto (W.opt (gd (decide (ds.length + es.length ≤ lim)) ())) fun _ => κ.nx (Γ.set i (.own (.list (ds ++ es)))) := u_ext i e
theorem t_put (i : Nat) (k v : E) : evS cf (.put i k v) κ Γ = tto (W.opt (ownK (get Γ i))) fun kvs => tto (ev cf false v Γ) fun y => tto (ev cf false k Γ) fun x => tto (W.opt (gd (keyB x) ())) fun _ => tto (W.opt (gd (decide (kvs.length < lim)) ())) fun _ => κ.nx (Γ.set i (.own (.dict (putD kvs x y)))) := u_put i k v
theorem t_aug (i : Nat) (o : Bop) (e : E) : evS cf (.aug i o e) κ Γ = tto (W.opt ((vals (get Γ i)).bind intD)) fun m => tto (ev cf false e Γ) fun y => tto (W.opt (intD y)) fun n => tto (W.opt (binD o (.int m) (.int n))) fun z => κ.nx (Γ.set i (.val z)) := u_aug i o e
theorem t_lset (i : Nat) (k v : E) : evS cf (.lset i k v) κ Γ = tto (W.opt (ownL (get Γ i))) fun ds => tto (ev cf false v Γ) fun y => tto (ev cf false k Γ) fun x => tto (W.opt ((intD x).bind (ixN ds.length))) fun j => κ.nx (Γ.set i (.own (.list (ds.set j y)))) := u_lset i k v
theorem t_asg (i : Nat) (e : E) : evS cf (.asg (.name i) e) κ Γ = tto (ev cf false e Γ) fun d => κ.nx (Γ.set i (if fresh e then .own d else .val d)) := rfl
theorem t_asgT (is : List Nat) (e : E) : evS cf (.asg (.tup is) e) κ Γ = tto (ev cf false e Γ) fun d => tto (W.opt (tgB (.tup is) d Γ)) κ.nx := rfl
theorem t_par (is : List Nat) (es : Es) : evS cf (.par is es) κ Γ = tto (evEs cf false es Γ) fun ds => κ.nx (setAll is (freshL es) ds Γ) := rfl
theorem t_ret (e : E) : evS cf (.ret e) κ Γ = tto (ev cf false e Γ) κ.rt := rfl
theorem t_ite (t : E) (a b : Ss) : evS cf (.ite t a b) κ Γ = tto (ev cf false t Γ) fun x => tto (W.opt (boolD x)) fun c => if c = true then evSs cf a κ Γ else evSs cf b κ Γ := rfl
end
section
variable {cf : Nat → List D → W D} {Γ : Env} {κ : Ko} {α σ : Type} {items : List D}
theorem lpI (xs : List α) (enc : α → D) {t : Tg} {ks : List Nat} {b : Ss} (I : Nat → Env → Prop) (hx : items = xs.map enc) (h0 : I 0 (kill ks Γ))
    (hs : ∀ (i : Nat) (x : α), xs[i]? = some x → ∀ Γ, I i Γ → ∀ κ' : Ko, (∀ Γ', I (i + 1) (kill ks Γ') → κ'.nx Γ') → κ'.ct = κ'.nx → κ'.rt = κ.rt → (∀ Γ', κ.nx (kill ks Γ') → κ'.bk Γ') → tto (W.opt (tgB t (enc x) Γ)) (evSs cf b κ'))
    (he : ∀ Γ, I xs.length Γ → κ.nx Γ) : forL (stepF cf t ks b) (loopK κ ks) items Γ := for_I xs enc I hx h0 hs he
theorem lpN (xs : List α) (enc : α → D) {t : Tg} {ks : List Nat} {b : Ss} (I : Env → Prop) (hx : items = xs.map enc) (h0 : I (kill ks Γ))
    (hs : ∀ x, x ∈ xs → ∀ Γ, I Γ → ∀ κ' : Ko, (∀ Γ', I (kill ks Γ') → κ'.nx Γ') → κ'.ct = κ'.nx → κ'.rt = κ.rt → (∀ Γ', κ.nx (kill ks Γ') → κ'.bk Γ') → tto (W.opt (tgB t (enc x) Γ)) (evSs cf b κ'))
    (he : ∀ Γ, I Γ → κ.nx Γ) : forL (stepF cf t ks b) (loopK κ ks) items Γ := for_N xs enc I hx h0 hs he
theorem lpK (xs : List α) (enc : α → D) {t : Tg} {ks : List Nat} {b : Ss} (hx : items = xs.map enc)
    (hs : ∀ x, x ∈ xs → ∀ κ' : Ko, (∀ Γ', kill ks Γ' = kill ks Γ → κ'.nx Γ') → κ'.ct = κ'.nx → κ'.rt = κ.rt → tto (W.opt (tgB t (enc x) (kill ks Γ))) (evSs cf b κ'))
    (he : κ.nx (kill ks Γ)) : forL (stepF cf t ks b) (loopK κ ks) items Γ := for_K xs enc hx hs he
theorem lpF (xs : List α) (enc : α → D) {t : Tg} {ks : List Nat} {b : Ss} (S : σ → Env) (f : σ → α → σ) (s0 : σ) (P : Nat → σ → Prop) (hx : items = xs.map enc) (h0 : kill ks Γ = S s0) (p0 : P 0 s0)
    (hs : ∀ (i : Nat) (x : α), xs[i]? = some x → ∀ s, P i s → P (i + 1) (f s x) ∧ ∀ κ' : Ko, (∀ Γ', kill ks Γ' = S (f s x) → κ'.nx Γ') → κ'.ct = κ'.nx → tto (W.opt (tgB t (enc x) (S s))) (evSs cf b κ'))
    (he : P xs.length (xs.foldl f s0) → κ.nx (S (xs.foldl f s0))) : forL (stepF cf t ks b) (loopK κ ks) items Γ := for_F xs enc S f s0 P hx h0 p0 hs he
end
theorem flatA_nilW (f : D → List D → W (List D)) (acc : List D) : flatA f [] acc = W.ok acc := rfl
theorem for_nil {cf : Nat → List D → W D} {Γ : Env} {κ : Ko} (t : Tg) (ks : List Nat) (b : Ss) : forL (stepF cf t ks b) (loopK κ ks) [] Γ = κ.nx (kill ks Γ) := rfl
theorem ob_some {α β : Type} (a : α) (f : α → Option β) : (some a).bind f = f a := rfl
theorem flatP_W {α β : Type} (enc : β → D) (P : α → β → Prop) (xs : List α) {g : (x : α) → x ∈ xs → List D → W (List D)} (h : ∀ x (hx : x ∈ xs) (acc : List D) (Q : List D → Prop), (∀ y, P x y → tto (capp acc [enc y]) Q) → tto (g x hx acc) Q) (hl : xs.length ≤ lim) {Q : List D → Prop} {t : Tag Q} (hq : ∀ ys : List β, ys.length = xs.length → (∀ (i : Nat) (x : α) (y : β), xs[i]? = some x → ys[i]? = some y → P x y) → Q (ys.map enc)) : W.to Q (flatP xs g []) t :=
  flatP_T enc P xs g [] h (by show 0 + xs.length ≤ lim; omega) Q hq
theorem flatQ_W {β : Type} (enc : β → D) (P : β → Prop) (n : Nat) {g : (k : Nat) → k < n → List D → W (List D)} (h : ∀ x (hx : x < n) (acc : List D) (Q : List D → Prop), (∀ y, P y → tto (capp acc [enc y]) Q) → tto (g x hx acc) Q) (hl : n ≤ lim) {Q : List D → Prop} {t : Tag Q} (hq : ∀ ys : List β, ys.length = n → (∀ y ∈ ys, P y) → Q (ys.map enc)) : W.to Q (flatQ n g []) t :=
  flatQ_T enc P n h hl hq
end Ly

set_option maxRecDepth 100000
set_option maxHeartbeats 4000000
namespace K02
open PySem Ly
theorem last_up {xs : List Int} (h : xs.Pairwise (· < ·)) (hn : xs ≠ []) : idxD (iT xs) (.int (-1)) = some (optI (mxO xs)) := by
  have e : idxD (iT xs) (.int (-1)) = some (.int (xs.getLast hn)) := by
    have hl : 0 < xs.length := List.length_pos_iff.mpr hn
    show (ixN (xs.map PyData.int).length (-1)).bind _ = _
    have : ixN (xs.map PyData.int).length (-1) = some (xs.length - 1) := by
      unfold ixN
      rw [List.length_map, if_neg (by omega), if_pos (by omega)]
      congr 1
      omega
    rw [this]
    show (xs.map PyData.int)[xs.length - 1]? = _
    rw [List.getElem?_map, List.getElem?_eq_getElem (by omega), List.getLast_eq_getElem]
    rfl
  rw [e, mx_of (List.getLast_mem hn) fun y hy => ?_]
  · rfl
  · obtain ⟨i, hi, rfl⟩ := List.getElem_of_mem hy
    rw [List.getLast_eq_getElem]
    by_cases q : i = xs.length - 1
    · subst q; exact Int.le_refl _
    · have := List.pairwise_iff_getElem.mp h i (xs.length - 1) hi (by omega) (by omega)
      omega
theorem first_up {xs : List Int} (h : xs.Pairwise (· < ·)) (hn : xs ≠ []) : idxD (iT xs) (.int 0) = some (optI (mnO xs)) := by
  cases xs with
  | nil => exact absurd rfl hn
  | cons a r =>
    have : mnO (a :: r) = some a := mn_of (by simp) fun y hy => by
      rcases List.mem_cons.mp hy with rfl | hy
      · exact Int.le_refl _
      · have := (List.pairwise_cons.mp h).1 y hy
        omega
    rw [this]
    exact x_getT (xs := a :: r) (enc := PyData.int) (0 : Int) (i := 0) (by omega) (by rw [List.length_cons]; omega)
theorem okA_opt {n : Nat} (o : Option Int) : okA (n + 1) (optI o) := by cases o <;> trivial
theorem okA_span {n : Nat} (had missed : List Int) : okA (n + 2) (spanD had missed) := by
  unfold spanD
  split
  · exact okA_two (okA_opt _) (okA_opt _)
  · trivial
theorem okA_nT {n : Nat} {xs : List Nat} (h : xs.length ≤ 4000) : okA (n + 2) (nT xs) := okA_map h fun _ _ => trivial
theorem cnt_rows (rs : List Ride) (had missed : List Int) : (okB had missed = true → (rs.filter fun r => !(mns had missed r).isEmpty).length = (ab rs had missed).length) ∧ (okB had missed = false → (ab rs had missed).length = 0) := by
  constructor
  · intro o
    unfold ab
    rw [if_pos o]
    have e : rs = (List.range rs.length).map fun j => rs.getD j default := by
      have := drop_rg default rs 0
      simpa using this
    have : (rs.filter fun r => !(mns had missed r).isEmpty) = ((List.range rs.length).filter fun k => !(mns had missed (rs.getD k default)).isEmpty).map fun j => rs.getD j default := by
      conv => lhs; rw [e]
      rw [List.filter_map]
      rfl
    rw [this, List.length_map]
  · intro o
    unfold ab
    rw [o]
    rfl
theorem ok_lost {Q : D → Prop} (k : Nat) (h : Q (.bool true)) : cfN T (k + 9) 28 [] Q := by
  refine call_to (f := g__law_lost) rfl rfl fun κ hκ => ?_
  show evSs _ _ _ [.obj, .non, .non, .non, .non, .non, .non, .non, .non, .non, .non, .non, .non, .non, .non, .non, .non, .non, .non, .non]
  have lim_ := lim_v
  simp -implicitDefEqProofs -dsimp (maxSteps := 4000000) (disch := first | assumption | omega | decide | (simp only [List.length_map, List.length_append, List.length_cons, List.length_nil, List.length_range, List.length_drop, List.length_take, List.length_reverse]; omega)) only [e_varT, e_varF, e_con, e_tup, e_lst, e_dct, e_bin, e_cat, e_neg, e_not, e_and, e_or, e_cmp, u_cmp2, e_ite, e_idx, e_cut, u_rev, e_bi, e_me, e_isi, e_call, u_callw, u_next, e_nil, e_cons, e_o0, e_o1, e_if0, e_if1, evKV, st_nil, st_cons, t_asg, t_asgT, t_par, t_ret, st_brk, t_ite, t_for, for_nil, t_frz, t_app, t_ext, t_put, t_aug, t_lset, o_obj, o_own, o_ownL, o_ownK, o_lst, b_ok, b_some, b_b, o_some, tto, ↓to_b, ↓to_ok, ob_some, s_g0, s_gs, s_pv, s_po, s_vv, v_addI, v_sub, v_mulR, v_mulA, v_divP, v_modP, v_pow, c_eqI, p_seq, p_keys, p_range, p_zip, p_enum, p_items, p_values, c_eqS, c_eqB, c_eqN, c_neI, c_neS, c_lt, c_gt, c_le, c_ge, c_isN, c_isnotN, n_none, n_int, n_bool, n_str, n_tup, n_list, n_dict, Bool.not_true, Bool.not_false, gd_t, f_int, f_abs, f_tupL, f_tupT, f_listL, f_listT, f_listD, f_min, f_max, l_list, l_tup, l_dict, w_list, w_tup, w_keys, t_bool, t_int, s_k0, s_kc, s_tn, Ly.fresh, Ly.freshL, setAll, List.set_cons_zero, List.set_cons_succ, if_true, if_false, Bool.false_eq_true, ite_true, ite_false, List.all_nil, mg_nil, e_comp, e_elt, e_gen, capp_ite, flatP_map, flatP_capp, flatA_cons, flatA_nilW, capp_push, List.cons_append, List.nil_append, fm_one, fm_if, fm_ifs, ap_nil, i_ok, i_some, i_int, i_str, i_bool, i_list, i_tup, i_and, i_or, u_rg, u_rg2, flatQ_map, flatQ_capp, Int.toNat_natCast, List.length_range, capp_rg, capp_frg, g_len, g_lt, Bool.and_true, Bool.true_and, Bool.and_false, Bool.false_and, Bool.or_true, Bool.true_or, Bool.or_false, Bool.false_or, capp_map, capp_fmap, capp_ok,  List.length_map, List.length_append, List.length_cons, List.length_nil, g__law_lost]
  refine ok_lrides (k + 6) fun rs hr asc => ?_
  simp -implicitDefEqProofs -dsimp (maxSteps := 4000000) (disch := first | assumption | omega | decide | (simp only [List.length_map, List.length_append, List.length_cons, List.length_nil, List.length_range, List.length_drop, List.length_take, List.length_reverse]; omega)) only [e_varT, e_varF, e_con, e_tup, e_lst, e_dct, e_bin, e_cat, e_neg, e_not, e_and, e_or, e_cmp, u_cmp2, e_ite, e_idx, e_cut, u_rev, e_bi, e_me, e_isi, e_call, u_callw, u_next, e_nil, e_cons, e_o0, e_o1, e_if0, e_if1, evKV, st_nil, st_cons, t_asg, t_asgT, t_par, t_ret, st_brk, t_ite, t_for, for_nil, t_frz, t_app, t_ext, t_put, t_aug, t_lset, o_obj, o_own, o_ownL, o_ownK, o_lst, b_ok, b_some, b_b, o_some, tto, ↓to_b, ↓to_ok, ob_some, s_g0, s_gs, s_pv, s_po, s_vv, v_addI, v_sub, v_mulR, v_mulA, v_divP, v_modP, v_pow, c_eqI, p_seq, p_keys, p_range, p_zip, p_enum, p_items, p_values, c_eqS, c_eqB, c_eqN, c_neI, c_neS, c_lt, c_gt, c_le, c_ge, c_isN, c_isnotN, n_none, n_int, n_bool, n_str, n_tup, n_list, n_dict, Bool.not_true, Bool.not_false, gd_t, f_int, f_abs, f_tupL, f_tupT, f_listL, f_listT, f_listD, f_min, f_max, l_list, l_tup, l_dict, w_list, w_tup, w_keys, t_bool, t_int, s_k0, s_kc, s_tn, Ly.fresh, Ly.freshL, setAll, List.set_cons_zero, List.set_cons_succ, if_true, if_false, Bool.false_eq_true, ite_true, ite_false, List.all_nil, mg_nil, e_comp, e_elt, e_gen, capp_ite, flatP_map, flatP_capp, flatA_cons, flatA_nilW, capp_push, List.cons_append, List.nil_append, fm_one, fm_if, fm_ifs, ap_nil, i_ok, i_some, i_int, i_str, i_bool, i_list, i_tup, i_and, i_or, u_rg, u_rg2, flatQ_map, flatQ_capp, Int.toNat_natCast, List.length_range, capp_rg, capp_frg, g_len, g_lt, Bool.and_true, Bool.true_and, Bool.and_false, Bool.false_and, Bool.or_true, Bool.true_or, Bool.or_false, Bool.false_or, capp_map, capp_fmap, capp_ok,  List.length_map, List.length_append, List.length_cons, List.length_nil]
  refine to_next (by omega) (by omega) fun n1 hn1 => ?_
  simp -implicitDefEqProofs -dsimp (maxSteps := 4000000) (disch := first | assumption | omega | decide | (simp only [List.length_map, List.length_append, List.length_cons, List.length_nil, List.length_range, List.length_drop, List.length_take, List.length_reverse]; omega)) only [e_varT, e_varF, e_con, e_tup, e_lst, e_dct, e_bin, e_cat, e_neg, e_not, e_and, e_or, e_cmp, u_cmp2, e_ite, e_idx, e_cut, u_rev, e_bi, e_me, e_isi, e_call, u_callw, u_next, e_nil, e_cons, e_o0, e_o1, e_if0, e_if1, evKV, st_nil, st_cons, t_asg, t_asgT, t_par, t_ret, st_brk, t_ite, t_for, for_nil, t_frz, t_app, t_ext, t_put, t_aug, t_lset, o_obj, o_own, o_ownL, o_ownK, o_lst, b_ok, b_some, b_b, o_some, tto, ↓to_b, ↓to_ok, ob_some, s_g0, s_gs, s_pv, s_po, s_vv, v_addI, v_sub, v_mulR, v_mulA, v_divP, v_modP, v_pow, c_eqI, p_seq, p_keys, p_range, p_zip, p_enum, p_items, p_values, c_eqS, c_eqB, c_eqN, c_neI, c_neS, c_lt, c_gt, c_le, c_ge, c_isN, c_isnotN, n_none, n_int, n_bool, n_str, n_tup, n_list, n_dict, Bool.not_true, Bool.not_false, gd_t, f_int, f_abs, f_tupL, f_tupT, f_listL, f_listT, f_listD, f_min, f_max, l_list, l_tup, l_dict, w_list, w_tup, w_keys, t_bool, t_int, s_k0, s_kc, s_tn, Ly.fresh, Ly.freshL, setAll, List.set_cons_zero, List.set_cons_succ, if_true, if_false, Bool.false_eq_true, ite_true, ite_false, List.all_nil, mg_nil, e_comp, e_elt, e_gen, capp_ite, flatP_map, flatP_capp, flatA_cons, flatA_nilW, capp_push, List.cons_append, List.nil_append, fm_one, fm_if, fm_ifs, ap_nil, i_ok, i_some, i_int, i_str, i_bool, i_list, i_tup, i_and, i_or, u_rg, u_rg2, flatQ_map, flatQ_capp, Int.toNat_natCast, List.length_range, capp_rg, capp_frg, g_len, g_lt, Bool.and_true, Bool.true_and, Bool.and_false, Bool.false_and, Bool.or_true, Bool.true_or, Bool.or_false, Bool.false_or, capp_map, capp_fmap, capp_ok,  List.length_map, List.length_append, List.length_cons, List.length_nil]
  refine ok_set (by omega) (by omega) (by omega) (k + 7) fun had up1 rg1 l1 => ?_
  simp -implicitDefEqProofs -dsimp (maxSteps := 4000000) (disch := first | assumption | omega | decide | (simp only [List.length_map, List.length_append, List.length_cons, List.length_nil, List.length_range, List.length_drop, List.length_take, List.length_reverse]; omega)) only [e_varT, e_varF, e_con, e_tup, e_lst, e_dct, e_bin, e_cat, e_neg, e_not, e_and, e_or, e_cmp, u_cmp2, e_ite, e_idx, e_cut, u_rev, e_bi, e_me, e_isi, e_call, u_callw, u_next, e_nil, e_cons, e_o0, e_o1, e_if0, e_if1, evKV, st_nil, st_cons, t_asg, t_asgT, t_par, t_ret, st_brk, t_ite, t_for, for_nil, t_frz, t_app, t_ext, t_put, t_aug, t_lset, o_obj, o_own, o_ownL, o_ownK, o_lst, b_ok, b_some, b_b, o_some, tto, ↓to_b, ↓to_ok, ob_some, s_g0, s_gs, s_pv, s_po, s_vv, v_addI, v_sub, v_mulR, v_mulA, v_divP, v_modP, v_pow, c_eqI, p_seq, p_keys, p_range, p_zip, p_enum, p_items, p_values, c_eqS, c_eqB, c_eqN, c_neI, c_neS, c_lt, c_gt, c_le, c_ge, c_isN, c_isnotN, n_none, n_int, n_bool, n_str, n_tup, n_list, n_dict, Bool.not_true, Bool.not_false, gd_t, f_int, f_abs, f_tupL, f_tupT, f_listL, f_listT, f_listD, f_min, f_max, l_list, l_tup, l_dict, w_list, w_tup, w_keys, t_bool, t_int, s_k0, s_kc, s_tn, Ly.fresh, Ly.freshL, setAll, List.set_cons_zero, List.set_cons_succ, if_true, if_false, Bool.false_eq_true, ite_true, ite_false, List.all_nil, mg_nil, e_comp, e_elt, e_gen, capp_ite, flatP_map, flatP_capp, flatA_cons, flatA_nilW, capp_push, List.cons_append, List.nil_append, fm_one, fm_if, fm_ifs, ap_nil, i_ok, i_some, i_int, i_str, i_bool, i_list, i_tup, i_and, i_or, u_rg, u_rg2, flatQ_map, flatQ_capp, Int.toNat_natCast, List.length_range, capp_rg, capp_frg, g_len, g_lt, Bool.and_true, Bool.true_and, Bool.and_false, Bool.false_and, Bool.or_true, Bool.true_or, Bool.or_false, Bool.false_or, capp_map, capp_fmap, capp_ok,  List.length_map, List.length_append, List.length_cons, List.length_nil]
  refine to_next (by omega) (by omega) fun n2 hn2 => ?_
  simp -implicitDefEqProofs -dsimp (maxSteps := 4000000) (disch := first | assumption | omega | decide | (simp only [List.length_map, List.length_append, List.length_cons, List.length_nil, List.length_range, List.length_drop, List.length_take, List.length_reverse]; omega)) only [e_varT, e_varF, e_con, e_tup, e_lst, e_dct, e_bin, e_cat, e_neg, e_not, e_and, e_or, e_cmp, u_cmp2, e_ite, e_idx, e_cut, u_rev, e_bi, e_me, e_isi, e_call, u_callw, u_next, e_nil, e_cons, e_o0, e_o1, e_if0, e_if1, evKV, st_nil, st_cons, t_asg, t_asgT, t_par, t_ret, st_brk, t_ite, t_for, for_nil, t_frz, t_app, t_ext, t_put, t_aug, t_lset, o_obj, o_own, o_ownL, o_ownK, o_lst, b_ok, b_some, b_b, o_some, tto, ↓to_b, ↓to_ok, ob_some, s_g0, s_gs, s_pv, s_po, s_vv, v_addI, v_sub, v_mulR, v_mulA, v_divP, v_modP, v_pow, c_eqI, p_seq, p_keys, p_range, p_zip, p_enum, p_items, p_values, c_eqS, c_eqB, c_eqN, c_neI, c_neS, c_lt, c_gt, c_le, c_ge, c_isN, c_isnotN, n_none, n_int, n_bool, n_str, n_tup, n_list, n_dict, Bool.not_true, Bool.not_false, gd_t, f_int, f_abs, f_tupL, f_tupT, f_listL, f_listT, f_listD, f_min, f_max, l_list, l_tup, l_dict, w_list, w_tup, w_keys, t_bool, t_int, s_k0, s_kc, s_tn, Ly.fresh, Ly.freshL, setAll, List.set_cons_zero, List.set_cons_succ, if_true, if_false, Bool.false_eq_true, ite_true, ite_false, List.all_nil, mg_nil, e_comp, e_elt, e_gen, capp_ite, flatP_map, flatP_capp, flatA_cons, flatA_nilW, capp_push, List.cons_append, List.nil_append, fm_one, fm_if, fm_ifs, ap_nil, i_ok, i_some, i_int, i_str, i_bool, i_list, i_tup, i_and, i_or, u_rg, u_rg2, flatQ_map, flatQ_capp, Int.toNat_natCast, List.length_range, capp_rg, capp_frg, g_len, g_lt, Bool.and_true, Bool.true_and, Bool.and_false, Bool.false_and, Bool.or_true, Bool.true_or, Bool.or_false, Bool.false_or, capp_map, capp_fmap, capp_ok,  List.length_map, List.length_append, List.length_cons, List.length_nil]
  refine ok_set (by omega) (by omega) (by omega) (k + 7) fun ms _ rgm lm => ?_
  have wms : walkD .seq [iT ms] = some (ms.map .int) := rfl
  simp -implicitDefEqProofs -dsimp (maxSteps := 4000000) (disch := first | assumption | omega | decide | (simp only [List.length_map, List.length_append, List.length_cons, List.length_nil, List.length_range, List.length_drop, List.length_take, List.length_reverse]; omega)) only [e_varT, e_varF, e_con, e_tup, e_lst, e_dct, e_bin, e_cat, e_neg, e_not, e_and, e_or, e_cmp, u_cmp2, e_ite, e_idx, e_cut, u_rev, e_bi, e_me, e_isi, e_call, u_callw, u_next, e_nil, e_cons, e_o0, e_o1, e_if0, e_if1, evKV, st_nil, st_cons, t_asg, t_asgT, t_par, t_ret, st_brk, t_ite, t_for, for_nil, t_frz, t_app, t_ext, t_put, t_aug, t_lset, o_obj, o_own, o_ownL, o_ownK, o_lst, b_ok, b_some, b_b, o_some, tto, ↓to_b, ↓to_ok, ob_some, s_g0, s_gs, s_pv, s_po, s_vv, v_addI, v_sub, v_mulR, v_mulA, v_divP, v_modP, v_pow, c_eqI, p_seq, p_keys, p_range, p_zip, p_enum, p_items, p_values, c_eqS, c_eqB, c_eqN, c_neI, c_neS, c_lt, c_gt, c_le, c_ge, c_isN, c_isnotN, n_none, n_int, n_bool, n_str, n_tup, n_list, n_dict, Bool.not_true, Bool.not_false, gd_t, f_int, f_abs, f_tupL, f_tupT, f_listL, f_listT, f_listD, f_min, f_max, l_list, l_tup, l_dict, w_list, w_tup, w_keys, t_bool, t_int, s_k0, s_kc, s_tn, Ly.fresh, Ly.freshL, setAll, List.set_cons_zero, List.set_cons_succ, if_true, if_false, Bool.false_eq_true, ite_true, ite_false, List.all_nil, mg_nil, e_comp, e_elt, e_gen, capp_ite, flatP_map, flatP_capp, flatA_cons, flatA_nilW, capp_push, List.cons_append, List.nil_append, fm_one, fm_if, fm_ifs, ap_nil, i_ok, i_some, i_int, i_str, i_bool, i_list, i_tup, i_and, i_or, u_rg, u_rg2, flatQ_map, flatQ_capp, Int.toNat_natCast, List.length_range, capp_rg, capp_frg, g_len, g_lt, Bool.and_true, Bool.true_and, Bool.and_false, Bool.false_and, Bool.or_true, Bool.true_or, Bool.or_false, Bool.false_or, capp_map, capp_fmap, capp_ok,  List.length_map, List.length_append, List.length_cons, List.length_nil, wms]
  refine flatP_W .int (fun x y => y = x ∨ y = x + 12) ms (fun x hx acc Q hQ => ?_) (by omega) fun ys yl hy => ?_
  · simp -implicitDefEqProofs -dsimp (maxSteps := 4000000) (disch := first | assumption | omega | decide | (simp only [List.length_map, List.length_append, List.length_cons, List.length_nil, List.length_range, List.length_drop, List.length_take, List.length_reverse]; omega)) only [e_varT, e_varF, e_con, e_tup, e_lst, e_dct, e_bin, e_cat, e_neg, e_not, e_and, e_or, e_cmp, u_cmp2, e_ite, e_idx, e_cut, u_rev, e_bi, e_me, e_isi, e_call, u_callw, u_next, e_nil, e_cons, e_o0, e_o1, e_if0, e_if1, evKV, st_nil, st_cons, t_asg, t_asgT, t_par, t_ret, st_brk, t_ite, t_for, for_nil, t_frz, t_app, t_ext, t_put, t_aug, t_lset, o_obj, o_own, o_ownL, o_ownK, o_lst, b_ok, b_some, b_b, o_some, tto, ↓to_b, ↓to_ok, ob_some, s_g0, s_gs, s_pv, s_po, s_vv, v_addI, v_sub, v_mulR, v_mulA, v_divP, v_modP, v_pow, c_eqI, p_seq, p_keys, p_range, p_zip, p_enum, p_items, p_values, c_eqS, c_eqB, c_eqN, c_neI, c_neS, c_lt, c_gt, c_le, c_ge, c_isN, c_isnotN, n_none, n_int, n_bool, n_str, n_tup, n_list, n_dict, Bool.not_true, Bool.not_false, gd_t, f_int, f_abs, f_tupL, f_tupT, f_listL, f_listT, f_listD, f_min, f_max, l_list, l_tup, l_dict, w_list, w_tup, w_keys, t_bool, t_int, s_k0, s_kc, s_tn, Ly.fresh, Ly.freshL, setAll, List.set_cons_zero, List.set_cons_succ, if_true, if_false, Bool.false_eq_true, ite_true, ite_false, List.all_nil, mg_nil, e_comp, e_elt, e_gen, capp_ite, flatP_map, flatP_capp, flatA_cons, flatA_nilW, capp_push, List.cons_append, List.nil_append, fm_one, fm_if, fm_ifs, ap_nil, i_ok, i_some, i_int, i_str, i_bool, i_list, i_tup, i_and, i_or, u_rg, u_rg2, flatQ_map, flatQ_capp, Int.toNat_natCast, List.length_range, capp_rg, capp_frg, g_len, g_lt, Bool.and_true, Bool.true_and, Bool.and_false, Bool.false_and, Bool.or_true, Bool.true_or, Bool.or_false, Bool.false_or, capp_map, capp_fmap, capp_ok,  List.length_map, List.length_append, List.length_cons, List.length_nil]
    refine ok_pick (by simp) (by simp) (vals2 ?_ ?_) (k + 7)
    · simp -implicitDefEqProofs -dsimp (maxSteps := 4000000) (disch := first | assumption | omega | decide | (simp only [List.length_map, List.length_append, List.length_cons, List.length_nil, List.length_range, List.length_drop, List.length_take, List.length_reverse]; omega)) only [e_varT, e_varF, e_con, e_tup, e_lst, e_dct, e_bin, e_cat, e_neg, e_not, e_and, e_or, e_cmp, u_cmp2, e_ite, e_idx, e_cut, u_rev, e_bi, e_me, e_isi, e_call, u_callw, u_next, e_nil, e_cons, e_o0, e_o1, e_if0, e_if1, evKV, st_nil, st_cons, t_asg, t_asgT, t_par, t_ret, st_brk, t_ite, t_for, for_nil, t_frz, t_app, t_ext, t_put, t_aug, t_lset, o_obj, o_own, o_ownL, o_ownK, o_lst, b_ok, b_some, b_b, o_some, tto, ↓to_b, ↓to_ok, ob_some, s_g0, s_gs, s_pv, s_po, s_vv, v_addI, v_sub, v_mulR, v_mulA, v_divP, v_modP, v_pow, c_eqI, p_seq, p_keys, p_range, p_zip, p_enum, p_items, p_values, c_eqS, c_eqB, c_eqN, c_neI, c_neS, c_lt, c_gt, c_le, c_ge, c_isN, c_isnotN, n_none, n_int, n_bool, n_str, n_tup, n_list, n_dict, Bool.not_true, Bool.not_false, gd_t, f_int, f_abs, f_tupL, f_tupT, f_listL, f_listT, f_listD, f_min, f_max, l_list, l_tup, l_dict, w_list, w_tup, w_keys, t_bool, t_int, s_k0, s_kc, s_tn, Ly.fresh, Ly.freshL, setAll, List.set_cons_zero, List.set_cons_succ, if_true, if_false, Bool.false_eq_true, ite_true, ite_false, List.all_nil, mg_nil, e_comp, e_elt, e_gen, capp_ite, flatP_map, flatP_capp, flatA_cons, flatA_nilW, capp_push, List.cons_append, List.nil_append, fm_one, fm_if, fm_ifs, ap_nil, i_ok, i_some, i_int, i_str, i_bool, i_list, i_tup, i_and, i_or, u_rg, u_rg2, flatQ_map, flatQ_capp, Int.toNat_natCast, List.length_range, capp_rg, capp_frg, g_len, g_lt, Bool.and_true, Bool.true_and, Bool.and_false, Bool.false_and, Bool.or_true, Bool.true_or, Bool.or_false, Bool.false_or, capp_map, capp_fmap, capp_ok,  List.length_map, List.length_append, List.length_cons, List.length_nil]
      exact hQ _ (.inl (by omega))
    · simp -implicitDefEqProofs -dsimp (maxSteps := 4000000) (disch := first | assumption | omega | decide | (simp only [List.length_map, List.length_append, List.length_cons, List.length_nil, List.length_range, List.length_drop, List.length_take, List.length_reverse]; omega)) only [e_varT, e_varF, e_con, e_tup, e_lst, e_dct, e_bin, e_cat, e_neg, e_not, e_and, e_or, e_cmp, u_cmp2, e_ite, e_idx, e_cut, u_rev, e_bi, e_me, e_isi, e_call, u_callw, u_next, e_nil, e_cons, e_o0, e_o1, e_if0, e_if1, evKV, st_nil, st_cons, t_asg, t_asgT, t_par, t_ret, st_brk, t_ite, t_for, for_nil, t_frz, t_app, t_ext, t_put, t_aug, t_lset, o_obj, o_own, o_ownL, o_ownK, o_lst, b_ok, b_some, b_b, o_some, tto, ↓to_b, ↓to_ok, ob_some, s_g0, s_gs, s_pv, s_po, s_vv, v_addI, v_sub, v_mulR, v_mulA, v_divP, v_modP, v_pow, c_eqI, p_seq, p_keys, p_range, p_zip, p_enum, p_items, p_values, c_eqS, c_eqB, c_eqN, c_neI, c_neS, c_lt, c_gt, c_le, c_ge, c_isN, c_isnotN, n_none, n_int, n_bool, n_str, n_tup, n_list, n_dict, Bool.not_true, Bool.not_false, gd_t, f_int, f_abs, f_tupL, f_tupT, f_listL, f_listT, f_listD, f_min, f_max, l_list, l_tup, l_dict, w_list, w_tup, w_keys, t_bool, t_int, s_k0, s_kc, s_tn, Ly.fresh, Ly.freshL, setAll, List.set_cons_zero, List.set_cons_succ, if_true, if_false, Bool.false_eq_true, ite_true, ite_false, List.all_nil, mg_nil, e_comp, e_elt, e_gen, capp_ite, flatP_map, flatP_capp, flatA_cons, flatA_nilW, capp_push, List.cons_append, List.nil_append, fm_one, fm_if, fm_ifs, ap_nil, i_ok, i_some, i_int, i_str, i_bool, i_list, i_tup, i_and, i_or, u_rg, u_rg2, flatQ_map, flatQ_capp, Int.toNat_natCast, List.length_range, capp_rg, capp_frg, g_len, g_lt, Bool.and_true, Bool.true_and, Bool.and_false, Bool.false_and, Bool.or_true, Bool.true_or, Bool.or_false, Bool.false_or, capp_map, capp_fmap, capp_ok,  List.length_map, List.length_append, List.length_cons, List.length_nil]
      exact hQ _ (.inr rfl)
  have ry : ∀ y ∈ ys, 0 ≤ y ∧ y < 32 := fun y hy' => by
    obtain ⟨i, hi, rfl⟩ := List.getElem_of_mem hy'
    have := hy i ms[i] ys[i] (List.getElem?_eq_getElem (by omega)) (List.getElem?_eq_getElem hi)
    have := rgm ms[i] (List.getElem_mem _)
    omega
  obtain ⟨kvs, e1, missed, e2, e3, up2, l2⟩ := sdict_ints (xs := ys) (fun _ => .bool true) (by omega)
  have h1 : HOk had := ⟨fun x hx => by have := rg1 x hx; omega, by omega⟩
  have h2 : HOk missed := ⟨fun x hx => by have := ry x ((e3 x).mp hx); omega, by omega⟩
  have em : PyData.tuple (missed.map .int) = iT missed := rfl
  have rl := hr.len
  have q1 : (if (!had.isEmpty) = true then W.opt (idxD (iT had) (.int (-1))) else W.ok .none) = W.ok (optI (mxO had)) := by
    by_cases q : had = []
    · subst q; rfl
    · rw [if_pos (by simpa using q), last_up up1 q, o_some]
  have q2 : (if (!missed.isEmpty) = true then W.opt (idxD (iT missed) (.int 0)) else W.ok .none) = W.ok (optI (mnO missed)) := by
    by_cases q : missed = []
    · subst q; rfl
    · rw [if_pos (by simpa using q), first_up up2 q, o_some]
  have aa : ∀ {d : D}, okA 6 d → cfN T (k + 8) 19 [d, d] = W.ok (.bool true) := fun h => alike6 (k := k + 2) h
  have abl := ab_len rs had missed
  have oka : okA 6 (.tuple [spanD had missed, nT (ab rs had missed), .bool (((ab rs had missed).length : Int) == 1), .int (leftN rs had missed)]) := okA_four (okA_span _ _) (okA_nT (by omega)) trivial trivial
  have mi : ∀ j, j < rs.length → idxD (.list (rs.map fun r => .list ((mns had missed r).map .int))) (.int (j : Nat)) = some (.list ((mns had missed (rs.getD j default)).map .int)) := fun j hj => by
    have := x_getL (xs := rs) (enc := fun r => .list ((mns had missed r).map .int)) default (i := (j : Int)) (by omega) (by omega)
    rw [Int.toNat_natCast] at this
    exact this
  have sp1 := ok_span had missed (k + 7)
  have rd := ok_rides hr h1 h2 (k + 6)
  have sr := ok_sureR hr h1 h2 (k + 5)
  have lf := ok_left hr h1 h2 (k + 6)
  have nt : ∀ xs : List Nat, PyData.tuple (xs.map fun k => .int (k : Nat)) = nT xs := fun _ => rfl
  cases o : okB had missed with
  | false =>
    have a0 : ab rs had missed = [] := by unfold ab; rw [o]; rfl
    have n0 : leftN rs had missed = 0 := by unfold leftN; rw [o]; rfl
    rw [a0, n0] at oka
    rw [a0] at rd sr
    rw [n0] at lf
    rw [sp_no o] at sp1 oka
    have z : ∀ xs : List Nat, (List.range rs.length).flatMap (fun _ => ([] : List D)) = [] := fun _ => by simp
    have z2 : ((([] : List Nat).length : Int) == 1) = false := rfl
    rw [z2] at oka sr
    have z3 : (((0 : Nat) : Int) == 1) = false := rfl
    have e0 : nT [] = .tuple [] := rfl
    rw [e0] at oka rd
    simp -implicitDefEqProofs -dsimp (maxSteps := 4000000) (disch := first | assumption | omega | decide | (simp only [List.length_map, List.length_append, List.length_cons, List.length_nil, List.length_range, List.length_drop, List.length_take, List.length_reverse]; omega)) only [e_varT, e_varF, e_con, e_tup, e_lst, e_dct, e_bin, e_cat, e_neg, e_not, e_and, e_or, e_cmp, u_cmp2, e_ite, e_idx, e_cut, u_rev, e_bi, e_me, e_isi, e_call, u_callw, u_next, e_nil, e_cons, e_o0, e_o1, e_if0, e_if1, evKV, st_nil, st_cons, t_asg, t_asgT, t_par, t_ret, st_brk, t_ite, t_for, for_nil, t_frz, t_app, t_ext, t_put, t_aug, t_lset, o_obj, o_own, o_ownL, o_ownK, o_lst, b_ok, b_some, b_b, o_some, tto, ↓to_b, ↓to_ok, ob_some, s_g0, s_gs, s_pv, s_po, s_vv, v_addI, v_sub, v_mulR, v_mulA, v_divP, v_modP, v_pow, c_eqI, p_seq, p_keys, p_range, p_zip, p_enum, p_items, p_values, c_eqS, c_eqB, c_eqN, c_neI, c_neS, c_lt, c_gt, c_le, c_ge, c_isN, c_isnotN, n_none, n_int, n_bool, n_str, n_tup, n_list, n_dict, Bool.not_true, Bool.not_false, gd_t, f_int, f_abs, f_tupL, f_tupT, f_listL, f_listT, f_listD, f_min, f_max, l_list, l_tup, l_dict, w_list, w_tup, w_keys, t_bool, t_int, s_k0, s_kc, s_tn, Ly.fresh, Ly.freshL, setAll, List.set_cons_zero, List.set_cons_succ, if_true, if_false, Bool.false_eq_true, ite_true, ite_false, List.all_nil, mg_nil, e_comp, e_elt, e_gen, capp_ite, flatP_map, flatP_capp, flatA_cons, flatA_nilW, capp_push, List.cons_append, List.nil_append, fm_one, fm_if, fm_ifs, ap_nil, i_ok, i_some, i_int, i_str, i_bool, i_list, i_tup, i_and, i_or, u_rg, u_rg2, flatQ_map, flatQ_capp, Int.toNat_natCast, List.length_range, capp_rg, capp_frg, g_len, g_lt, Bool.and_true, Bool.true_and, Bool.and_false, Bool.false_and, Bool.or_true, Bool.true_or, Bool.or_false, Bool.false_or, capp_map, capp_fmap, capp_ok,  List.length_map, List.length_append, List.length_cons, List.length_nil, e1, e2, em, ok_lmin hr h1 h2, len_rs, o, sp1, rd, sr, lf, aa oka, z [], z3]
    refine ok_pick (by simp) (by simp) (fun d hd => ?_) (k + 7)
    obtain ⟨line, rfl⟩ : ∃ l, d = .str l := by
      revert d
      exact vals2 ⟨_, rfl⟩ ⟨_, rfl⟩
    simp -implicitDefEqProofs -dsimp (maxSteps := 4000000) (disch := first | assumption | omega | decide | (simp only [List.length_map, List.length_append, List.length_cons, List.length_nil, List.length_range, List.length_drop, List.length_take, List.length_reverse]; omega)) only [e_varT, e_varF, e_con, e_tup, e_lst, e_dct, e_bin, e_cat, e_neg, e_not, e_and, e_or, e_cmp, u_cmp2, e_ite, e_idx, e_cut, u_rev, e_bi, e_me, e_isi, e_call, u_callw, u_next, e_nil, e_cons, e_o0, e_o1, e_if0, e_if1, evKV, st_nil, st_cons, t_asg, t_asgT, t_par, t_ret, st_brk, t_ite, t_for, for_nil, t_frz, t_app, t_ext, t_put, t_aug, t_lset, o_obj, o_own, o_ownL, o_ownK, o_lst, b_ok, b_some, b_b, o_some, tto, ↓to_b, ↓to_ok, ob_some, s_g0, s_gs, s_pv, s_po, s_vv, v_addI, v_sub, v_mulR, v_mulA, v_divP, v_modP, v_pow, c_eqI, p_seq, p_keys, p_range, p_zip, p_enum, p_items, p_values, c_eqS, c_eqB, c_eqN, c_neI, c_neS, c_lt, c_gt, c_le, c_ge, c_isN, c_isnotN, n_none, n_int, n_bool, n_str, n_tup, n_list, n_dict, Bool.not_true, Bool.not_false, gd_t, f_int, f_abs, f_tupL, f_tupT, f_listL, f_listT, f_listD, f_min, f_max, l_list, l_tup, l_dict, w_list, w_tup, w_keys, t_bool, t_int, s_k0, s_kc, s_tn, Ly.fresh, Ly.freshL, setAll, List.set_cons_zero, List.set_cons_succ, if_true, if_false, Bool.false_eq_true, ite_true, ite_false, List.all_nil, mg_nil, e_comp, e_elt, e_gen, capp_ite, flatP_map, flatP_capp, flatA_cons, flatA_nilW, capp_push, List.cons_append, List.nil_append, fm_one, fm_if, fm_ifs, ap_nil, i_ok, i_some, i_int, i_str, i_bool, i_list, i_tup, i_and, i_or, u_rg, u_rg2, flatQ_map, flatQ_capp, Int.toNat_natCast, List.length_range, capp_rg, capp_frg, g_len, g_lt, Bool.and_true, Bool.true_and, Bool.and_false, Bool.false_and, Bool.or_true, Bool.true_or, Bool.or_false, Bool.false_or, capp_map, capp_fmap, capp_ok,  List.length_map, List.length_append, List.length_cons, List.length_nil]
    refine to_next (by omega) (by omega) fun minute hm => ?_
    have fd := ok_found hr line minute (k + 7)
    have cd := ok_could hr h1 h2 line minute (k + 6)
    rw [o] at cd
    have cd : _ = W.ok (nT []) := cd
    rw [e0] at cd
    have fl : ((List.range rs.length).filter fun k => ((rs.getD k default).l == line && decide ((rs.getD k default).b ≤ (minute : Int)))).length ≤ 10 := Nat.le_trans (List.length_filter_le _ _) (by rw [List.length_range]; omega)
    have al2 := aa (okA_two (okA_nT (n := 3) (xs := (List.range rs.length).filter fun k => ((rs.getD k default).l == line && decide ((rs.getD k default).b ≤ (minute : Int)))) (by omega)) (okA_nil (n := 4)))
    have so : biD .sorted [.list []] = some (.list []) := sorted_up (xs := []) List.Pairwise.nil (by show 0 ≤ lim; omega)
    have ba := ok_ask hr asc h1 h2 (by omega) (by omega) (k + 5) (v := .none) (fun z => by rw [a0] at z; exact absurd z (by decide)) (fun _ => rfl)
    have al3 := aa (d := .none) trivial
    have w0 : walkD .seq [.tuple []] = some [] := rfl
    have lt0 : biD .len [.tuple []] = some (.int 0) := rfl
    have d10 : decide ((1 : Int) < 0) = false := rfl
    simp -implicitDefEqProofs -dsimp (maxSteps := 4000000) (disch := first | assumption | omega | decide | (simp only [List.length_map, List.length_append, List.length_cons, List.length_nil, List.length_range, List.length_drop, List.length_take, List.length_reverse]; omega)) only [e_varT, e_varF, e_con, e_tup, e_lst, e_dct, e_bin, e_cat, e_neg, e_not, e_and, e_or, e_cmp, u_cmp2, e_ite, e_idx, e_cut, u_rev, e_bi, e_me, e_isi, e_call, u_callw, u_next, e_nil, e_cons, e_o0, e_o1, e_if0, e_if1, evKV, st_nil, st_cons, t_asg, t_asgT, t_par, t_ret, st_brk, t_ite, t_for, for_nil, t_frz, t_app, t_ext, t_put, t_aug, t_lset, o_obj, o_own, o_ownL, o_ownK, o_lst, b_ok, b_some, b_b, o_some, tto, ↓to_b, ↓to_ok, ob_some, s_g0, s_gs, s_pv, s_po, s_vv, v_addI, v_sub, v_mulR, v_mulA, v_divP, v_modP, v_pow, c_eqI, p_seq, p_keys, p_range, p_zip, p_enum, p_items, p_values, c_eqS, c_eqB, c_eqN, c_neI, c_neS, c_lt, c_gt, c_le, c_ge, c_isN, c_isnotN, n_none, n_int, n_bool, n_str, n_tup, n_list, n_dict, Bool.not_true, Bool.not_false, gd_t, f_int, f_abs, f_tupL, f_tupT, f_listL, f_listT, f_listD, f_min, f_max, l_list, l_tup, l_dict, w_list, w_tup, w_keys, t_bool, t_int, s_k0, s_kc, s_tn, Ly.fresh, Ly.freshL, setAll, List.set_cons_zero, List.set_cons_succ, if_true, if_false, Bool.false_eq_true, ite_true, ite_false, List.all_nil, mg_nil, e_comp, e_elt, e_gen, capp_ite, flatP_map, flatP_capp, flatA_cons, flatA_nilW, capp_push, List.cons_append, List.nil_append, fm_one, fm_if, fm_ifs, ap_nil, i_ok, i_some, i_int, i_str, i_bool, i_list, i_tup, i_and, i_or, u_rg, u_rg2, flatQ_map, flatQ_capp, Int.toNat_natCast, List.length_range, capp_rg, capp_frg, g_len, g_lt, Bool.and_true, Bool.true_and, Bool.and_false, Bool.false_and, Bool.or_true, Bool.true_or, Bool.or_false, Bool.false_or, capp_map, capp_fmap, capp_ok,  List.length_map, List.length_append, List.length_cons, List.length_nil, len_rs, r_idx, r_0, r_1, nt, fd, cd, al2, so, ba, al3, w0, lt0, d10, hκ]
    exact h
  | true =>
    have la : leftN rs had missed = (rs.map fun r => ((mns had missed r).length : Int)).sum := by unfold leftN; rw [if_pos o]
    have ab1 : (List.range rs.length).filter (fun j => !(mns had missed (rs.getD j default)).isEmpty) = ab rs had missed := by unfold ab; rw [if_pos o]
    rw [sp_ok o] at sp1 oka
    have ew : spanT had missed = .tuple [optI (mxO had), optI (mnO missed)] := rfl
    have lnT : ∀ xs : List Nat, biD .len [nT xs] = some (.int (xs.length : Nat)) := fun xs => by
      show some (PyData.int (List.length _ : Nat)) = _
      rw [List.length_map]
    rw [ew, la] at oka
    simp -implicitDefEqProofs -dsimp (maxSteps := 4000000) (disch := first | assumption | omega | decide | (simp only [List.length_map, List.length_append, List.length_cons, List.length_nil, List.length_range, List.length_drop, List.length_take, List.length_reverse]; omega)) only [e_varT, e_varF, e_con, e_tup, e_lst, e_dct, e_bin, e_cat, e_neg, e_not, e_and, e_or, e_cmp, u_cmp2, e_ite, e_idx, e_cut, u_rev, e_bi, e_me, e_isi, e_call, u_callw, u_next, e_nil, e_cons, e_o0, e_o1, e_if0, e_if1, evKV, st_nil, st_cons, t_asg, t_asgT, t_par, t_ret, st_brk, t_ite, t_for, for_nil, t_frz, t_app, t_ext, t_put, t_aug, t_lset, o_obj, o_own, o_ownL, o_ownK, o_lst, b_ok, b_some, b_b, o_some, tto, ↓to_b, ↓to_ok, ob_some, s_g0, s_gs, s_pv, s_po, s_vv, v_addI, v_sub, v_mulR, v_mulA, v_divP, v_modP, v_pow, c_eqI, p_seq, p_keys, p_range, p_zip, p_enum, p_items, p_values, c_eqS, c_eqB, c_eqN, c_neI, c_neS, c_lt, c_gt, c_le, c_ge, c_isN, c_isnotN, n_none, n_int, n_bool, n_str, n_tup, n_list, n_dict, Bool.not_true, Bool.not_false, gd_t, f_int, f_abs, f_tupL, f_tupT, f_listL, f_listT, f_listD, f_min, f_max, l_list, l_tup, l_dict, w_list, w_tup, w_keys, t_bool, t_int, s_k0, s_kc, s_tn, Ly.fresh, Ly.freshL, setAll, List.set_cons_zero, List.set_cons_succ, if_true, if_false, Bool.false_eq_true, ite_true, ite_false, List.all_nil, mg_nil, e_comp, e_elt, e_gen, capp_ite, flatP_map, flatP_capp, flatA_cons, flatA_nilW, capp_push, List.cons_append, List.nil_append, fm_one, fm_if, fm_ifs, ap_nil, i_ok, i_some, i_int, i_str, i_bool, i_list, i_tup, i_and, i_or, u_rg, u_rg2, flatQ_map, flatQ_capp, Int.toNat_natCast, List.length_range, capp_rg, capp_frg, g_len, g_lt, Bool.and_true, Bool.true_and, Bool.and_false, Bool.false_and, Bool.or_true, Bool.true_or, Bool.or_false, Bool.false_or, capp_map, capp_fmap, capp_ok,  List.length_map, List.length_append, List.length_cons, List.length_nil, e1, e2, em, ok_lmin hr h1 h2, len_rs, o, sp1, ew, rd, sr, lf, aa oka, ne_nilT, q1, q2, mi, ne_nil0, ab1, nt, la, lnT, sum_M]
    refine ok_pick (by simp) (by simp) (fun d hd => ?_) (k + 7)
    obtain ⟨line, rfl⟩ : ∃ l, d = .str l := by
      revert d
      exact vals2 ⟨_, rfl⟩ ⟨_, rfl⟩
    simp -implicitDefEqProofs -dsimp (maxSteps := 4000000) (disch := first | assumption | omega | decide | (simp only [List.length_map, List.length_append, List.length_cons, List.length_nil, List.length_range, List.length_drop, List.length_take, List.length_reverse]; omega)) only [e_varT, e_varF, e_con, e_tup, e_lst, e_dct, e_bin, e_cat, e_neg, e_not, e_and, e_or, e_cmp, u_cmp2, e_ite, e_idx, e_cut, u_rev, e_bi, e_me, e_isi, e_call, u_callw, u_next, e_nil, e_cons, e_o0, e_o1, e_if0, e_if1, evKV, st_nil, st_cons, t_asg, t_asgT, t_par, t_ret, st_brk, t_ite, t_for, for_nil, t_frz, t_app, t_ext, t_put, t_aug, t_lset, o_obj, o_own, o_ownL, o_ownK, o_lst, b_ok, b_some, b_b, o_some, tto, ↓to_b, ↓to_ok, ob_some, s_g0, s_gs, s_pv, s_po, s_vv, v_addI, v_sub, v_mulR, v_mulA, v_divP, v_modP, v_pow, c_eqI, p_seq, p_keys, p_range, p_zip, p_enum, p_items, p_values, c_eqS, c_eqB, c_eqN, c_neI, c_neS, c_lt, c_gt, c_le, c_ge, c_isN, c_isnotN, n_none, n_int, n_bool, n_str, n_tup, n_list, n_dict, Bool.not_true, Bool.not_false, gd_t, f_int, f_abs, f_tupL, f_tupT, f_listL, f_listT, f_listD, f_min, f_max, l_list, l_tup, l_dict, w_list, w_tup, w_keys, t_bool, t_int, s_k0, s_kc, s_tn, Ly.fresh, Ly.freshL, setAll, List.set_cons_zero, List.set_cons_succ, if_true, if_false, Bool.false_eq_true, ite_true, ite_false, List.all_nil, mg_nil, e_comp, e_elt, e_gen, capp_ite, flatP_map, flatP_capp, flatA_cons, flatA_nilW, capp_push, List.cons_append, List.nil_append, fm_one, fm_if, fm_ifs, ap_nil, i_ok, i_some, i_int, i_str, i_bool, i_list, i_tup, i_and, i_or, u_rg, u_rg2, flatQ_map, flatQ_capp, Int.toNat_natCast, List.length_range, capp_rg, capp_frg, g_len, g_lt, Bool.and_true, Bool.true_and, Bool.and_false, Bool.false_and, Bool.or_true, Bool.true_or, Bool.or_false, Bool.false_or, capp_map, capp_fmap, capp_ok,  List.length_map, List.length_append, List.length_cons, List.length_nil]
    refine to_next (by omega) (by omega) fun minute hm => ?_
    have fd := ok_found hr line minute (k + 7)
    have cd := ok_could hr h1 h2 line minute (k + 6)
    rw [if_pos o] at cd
    have wk : walkD .seq [nT (ab rs had missed)] = some ((ab rs had missed).map fun k => .int (k : Nat)) := rfl
    have jl : ∀ j ∈ ab rs had missed, j < rs.length := fun j hj => ab_lt hj
    have ri : ∀ j ∈ ab rs had missed, idxD (rsD rs) (.int (j : Nat)) = some (rD (rs.getD j default)) := fun j hj => by
      rw [r_idx (by omega) (by have := ab_lt hj; omega), Int.toNat_natCast]
    have mi2 : ∀ j ∈ ab rs had missed, idxD (.list (rs.map fun r => .list ((mns had missed r).map .int))) (.int (j : Nat)) = some (.list ((mns had missed (rs.getD j default)).map .int)) := fun j hj => mi j (ab_lt hj)
    have ml : ∀ j ∈ ab rs had missed, (mns had missed (rs.getD j default)).length ≤ 1000 := fun j hj => by
      refine Nat.le_trans (List.length_filter_le _ _) ?_
      rw [rgI_len]
      obtain ⟨_, _, _, _⟩ := hr.ok _ (getD_mem (d := default) (ab_lt hj))
      omega
    have cm : ∀ j ∈ ab rs had missed, ∀ p : Int → Bool, capp [] (((mns had missed (rs.getD j default)).filter p).map PyData.int) = W.ok (((mns had missed (rs.getD j default)).filter p).map .int) := fun j hj p => capp_fmap (by have := ml j hj; omega)
    have cc : (ab rs had missed).filter (fun j => ((rs.getD j default).l == line && !((mns had missed (rs.getD j default)).filter fun m => decide (m ≤ (minute : Int))).isEmpty)) = couldL rs had missed line minute rs.length := by
      unfold ab couldL
      rw [if_pos o, List.filter_filter]
      refine List.filter_congr fun j _ => ?_
      rw [Bool.eq_iff_iff]
      simp only [Bool.and_eq_true, Bool.not_eq_true', List.isEmpty_eq_false_iff_exists_mem, List.mem_filter, List.any_eq_true, decide_eq_true_eq]
      constructor
      · rintro ⟨⟨q1, x, q2, q3⟩, _⟩
        exact ⟨q1, x, q2, q3⟩
      · rintro ⟨q1, x, q2, q3⟩
        exact ⟨⟨q1, x, q2, q3⟩, x, q2⟩
    have fl : ((List.range rs.length).filter fun k => ((rs.getD k default).l == line && decide ((rs.getD k default).b ≤ (minute : Int)))).length ≤ 10 := Nat.le_trans (List.length_filter_le _ _) (by rw [List.length_range]; omega)
    have cl : (couldL rs had missed line minute rs.length).length ≤ 10 := Nat.le_trans (List.length_filter_le _ _) (by rw [List.length_range]; omega)
    have al2 := aa (okA_two (okA_nT (n := 3) (xs := (List.range rs.length).filter fun k => ((rs.getD k default).l == line && decide ((rs.getD k default).b ≤ (minute : Int)))) (by omega)) (okA_nT (n := 3) (xs := couldL rs had missed line minute rs.length) (by omega)))
    have em2 : (ab rs had missed).map (fun j => PyData.int (rs.getD j default).b) = (bgn rs had missed).map .int := by
      unfold bgn
      rw [List.map_map]
      rfl
    have bl : (bgn rs had missed).length = (ab rs had missed).length := by unfold bgn; rw [List.length_map]
    have so := sorted_up (xs := bgn rs had missed) ((bgn_up asc had missed).imp fun h => by omega) (by omega)
    simp -implicitDefEqProofs -dsimp (maxSteps := 4000000) (disch := first | assumption | omega | decide | (simp only [List.length_map, List.length_append, List.length_cons, List.length_nil, List.length_range, List.length_drop, List.length_take, List.length_reverse]; omega)) only [e_varT, e_varF, e_con, e_tup, e_lst, e_dct, e_bin, e_cat, e_neg, e_not, e_and, e_or, e_cmp, u_cmp2, e_ite, e_idx, e_cut, u_rev, e_bi, e_me, e_isi, e_call, u_callw, u_next, e_nil, e_cons, e_o0, e_o1, e_if0, e_if1, evKV, st_nil, st_cons, t_asg, t_asgT, t_par, t_ret, st_brk, t_ite, t_for, for_nil, t_frz, t_app, t_ext, t_put, t_aug, t_lset, o_obj, o_own, o_ownL, o_ownK, o_lst, b_ok, b_some, b_b, o_some, tto, ↓to_b, ↓to_ok, ob_some, s_g0, s_gs, s_pv, s_po, s_vv, v_addI, v_sub, v_mulR, v_mulA, v_divP, v_modP, v_pow, c_eqI, p_seq, p_keys, p_range, p_zip, p_enum, p_items, p_values, c_eqS, c_eqB, c_eqN, c_neI, c_neS, c_lt, c_gt, c_le, c_ge, c_isN, c_isnotN, n_none, n_int, n_bool, n_str, n_tup, n_list, n_dict, Bool.not_true, Bool.not_false, gd_t, f_int, f_abs, f_tupL, f_tupT, f_listL, f_listT, f_listD, f_min, f_max, l_list, l_tup, l_dict, w_list, w_tup, w_keys, t_bool, t_int, s_k0, s_kc, s_tn, Ly.fresh, Ly.freshL, setAll, List.set_cons_zero, List.set_cons_succ, if_true, if_false, Bool.false_eq_true, ite_true, ite_false, List.all_nil, mg_nil, e_comp, e_elt, e_gen, capp_ite, flatP_map, flatP_capp, flatA_cons, flatA_nilW, capp_push, List.cons_append, List.nil_append, fm_one, fm_if, fm_ifs, ap_nil, i_ok, i_some, i_int, i_str, i_bool, i_list, i_tup, i_and, i_or, u_rg, u_rg2, flatQ_map, flatQ_capp, Int.toNat_natCast, List.length_range, capp_rg, capp_frg, g_len, g_lt, Bool.and_true, Bool.true_and, Bool.and_false, Bool.false_and, Bool.or_true, Bool.true_or, Bool.or_false, Bool.false_or, capp_map, capp_fmap, capp_ok,  List.length_map, List.length_append, List.length_cons, List.length_nil, len_rs, r_idx, r_0, r_1, nt, fd, cd, wk, ri, mi2, cm, ne_nil0, cc, al2, em2, so]
    refine lpI (bgn rs had missed) .int (fun i Γ => Γ = [.obj, .val (rsD rs), .val (iT missed), .val (.list (rs.map fun r => .list ((mns had missed r).map .int))), .val (.tuple [optI (mxO had), optI (mnO missed)]), .val (nT (ab rs had missed)), .val (.tuple [.tuple [optI (mxO had), optI (mnO missed)], nT (ab rs had missed), .bool (((ab rs had missed).length : Int) == 1), .int (rs.map fun r => ((mns had missed r).length : Int)).sum]), .val (nT ((List.range rs.length).filter fun k => ((rs.getD k default).l == line && decide ((rs.getD k default).b ≤ (minute : Int))))), .val (nT (couldL rs had missed line minute rs.length)), .non, .val (iT had), .val (.str line), .val (.int minute), .own (.list (askD rs ((bgn rs had missed).take i) had missed)), .non, .non, .non, .non, .non, .non]) rfl rfl ?_ ?_
    · intro i a hi Γ hΓ κ' g1 g2 g3 g4
      subst hΓ
      have ha : a ∈ bgn rs had missed := List.mem_of_getElem? hi
      obtain ⟨hl, he⟩ := List.getElem?_eq_some_iff.mp hi
      obtain ⟨a0, a1⟩ := bgn_rng hr ha
      have f1 := ok_lmin hr (hok_add h1 (by omega) a0 a1) h2 (k + 7)
      have f2 := ok_lmin hr h1 (hok_add h2 (by omega) a0 a1) (k + 7)
      have lt : (askD rs ((bgn rs had missed).take i) had missed).length < lim := by
        unfold askD
        rw [List.length_map, List.length_take]
        omega
      have ct := fun h m => cnt_rows rs h m
      have nx : askD rs ((bgn rs had missed).take (i + 1)) had missed = askD rs ((bgn rs had missed).take i) had missed ++ [.tuple [.int (askR rs had missed a), .int a]] := by
        unfold askD
        rw [List.take_succ_eq_append_getElem hl, List.map_append, he]
        rfl
      have fin : ∀ y z : Sl, κ'.nx [.obj, .val (rsD rs), .val (iT missed), .val (.list (rs.map fun r => .list ((mns had missed r).map .int))), .val (.tuple [optI (mxO had), optI (mnO missed)]), .val (nT (ab rs had missed)), .val (.tuple [.tuple [optI (mxO had), optI (mnO missed)], nT (ab rs had missed), .bool (((ab rs had missed).length : Int) == 1), .int (rs.map fun r => ((mns had missed r).length : Int)).sum]), .val (nT ((List.range rs.length).filter fun k => ((rs.getD k default).l == line && decide ((rs.getD k default).b ≤ (minute : Int))))), .val (nT (couldL rs had missed line minute rs.length)), .val (.int a), .val (iT had), .val (.str line), .val (.int minute), .own (.list (askD rs ((bgn rs had missed).take (i + 1)) had missed)), y, z, .non, .non, .non, .non] := fun _ _ => g1 _ rfl
      rw [nx] at fin
      unfold askR at fin
      have ad1 := add1 had a h1.len
      have ad2 := add1 missed a h2.len
      obtain ⟨p1, p2⟩ := cnt_rows rs (had ++ [a]) missed
      obtain ⟨p3, p4⟩ := cnt_rows rs had (missed ++ [a])
      cases o1 : okB (had ++ [a]) missed with
      | false =>
        rw [p2 o1] at fin
        cases o2 : okB had (missed ++ [a]) with
        | false =>
          rw [p4 o2] at fin
          simp -implicitDefEqProofs -dsimp (maxSteps := 4000000) (disch := first | assumption | omega | decide | (simp only [List.length_map, List.length_append, List.length_cons, List.length_nil, List.length_range, List.length_drop, List.length_take, List.length_reverse]; omega)) only [e_varT, e_varF, e_con, e_tup, e_lst, e_dct, e_bin, e_cat, e_neg, e_not, e_and, e_or, e_cmp, u_cmp2, e_ite, e_idx, e_cut, u_rev, e_bi, e_me, e_isi, e_call, u_callw, u_next, e_nil, e_cons, e_o0, e_o1, e_if0, e_if1, evKV, st_nil, st_cons, t_asg, t_asgT, t_par, t_ret, st_brk, t_ite, t_for, for_nil, t_frz, t_app, t_ext, t_put, t_aug, t_lset, o_obj, o_own, o_ownL, o_ownK, o_lst, b_ok, b_some, b_b, o_some, tto, ↓to_b, ↓to_ok, ob_some, s_g0, s_gs, s_pv, s_po, s_vv, v_addI, v_sub, v_mulR, v_mulA, v_divP, v_modP, v_pow, c_eqI, p_seq, p_keys, p_range, p_zip, p_enum, p_items, p_values, c_eqS, c_eqB, c_eqN, c_neI, c_neS, c_lt, c_gt, c_le, c_ge, c_isN, c_isnotN, n_none, n_int, n_bool, n_str, n_tup, n_list, n_dict, Bool.not_true, Bool.not_false, gd_t, f_int, f_abs, f_tupL, f_tupT, f_listL, f_listT, f_listD, f_min, f_max, l_list, l_tup, l_dict, w_list, w_tup, w_keys, t_bool, t_int, s_k0, s_kc, s_tn, Ly.fresh, Ly.freshL, setAll, List.set_cons_zero, List.set_cons_succ, if_true, if_false, Bool.false_eq_true, ite_true, ite_false, List.all_nil, mg_nil, e_comp, e_elt, e_gen, capp_ite, flatP_map, flatP_capp, flatA_cons, flatA_nilW, capp_push, List.cons_append, List.nil_append, fm_one, fm_if, fm_ifs, ap_nil, i_ok, i_some, i_int, i_str, i_bool, i_list, i_tup, i_and, i_or, u_rg, u_rg2, flatQ_map, flatQ_capp, Int.toNat_natCast, List.length_range, capp_rg, capp_frg, g_len, g_lt, Bool.and_true, Bool.true_and, Bool.and_false, Bool.false_and, Bool.or_true, Bool.true_or, Bool.or_false, Bool.false_or, capp_map, capp_fmap, capp_ok,  List.length_map, List.length_append, List.length_cons, List.length_nil, ad1, ad2, f1, f2, o1, o2, max2]
          exact fin _ _
        | true =>
          simp -implicitDefEqProofs -dsimp (maxSteps := 4000000) (disch := first | assumption | omega | decide | (simp only [List.length_map, List.length_append, List.length_cons, List.length_nil, List.length_range, List.length_drop, List.length_take, List.length_reverse]; omega)) only [e_varT, e_varF, e_con, e_tup, e_lst, e_dct, e_bin, e_cat, e_neg, e_not, e_and, e_or, e_cmp, u_cmp2, e_ite, e_idx, e_cut, u_rev, e_bi, e_me, e_isi, e_call, u_callw, u_next, e_nil, e_cons, e_o0, e_o1, e_if0, e_if1, evKV, st_nil, st_cons, t_asg, t_asgT, t_par, t_ret, st_brk, t_ite, t_for, for_nil, t_frz, t_app, t_ext, t_put, t_aug, t_lset, o_obj, o_own, o_ownL, o_ownK, o_lst, b_ok, b_some, b_b, o_some, tto, ↓to_b, ↓to_ok, ob_some, s_g0, s_gs, s_pv, s_po, s_vv, v_addI, v_sub, v_mulR, v_mulA, v_divP, v_modP, v_pow, c_eqI, p_seq, p_keys, p_range, p_zip, p_enum, p_items, p_values, c_eqS, c_eqB, c_eqN, c_neI, c_neS, c_lt, c_gt, c_le, c_ge, c_isN, c_isnotN, n_none, n_int, n_bool, n_str, n_tup, n_list, n_dict, Bool.not_true, Bool.not_false, gd_t, f_int, f_abs, f_tupL, f_tupT, f_listL, f_listT, f_listD, f_min, f_max, l_list, l_tup, l_dict, w_list, w_tup, w_keys, t_bool, t_int, s_k0, s_kc, s_tn, Ly.fresh, Ly.freshL, setAll, List.set_cons_zero, List.set_cons_succ, if_true, if_false, Bool.false_eq_true, ite_true, ite_false, List.all_nil, mg_nil, e_comp, e_elt, e_gen, capp_ite, flatP_map, flatP_capp, flatA_cons, flatA_nilW, capp_push, List.cons_append, List.nil_append, fm_one, fm_if, fm_ifs, ap_nil, i_ok, i_some, i_int, i_str, i_bool, i_list, i_tup, i_and, i_or, u_rg, u_rg2, flatQ_map, flatQ_capp, Int.toNat_natCast, List.length_range, capp_rg, capp_frg, g_len, g_lt, Bool.and_true, Bool.true_and, Bool.and_false, Bool.false_and, Bool.or_true, Bool.true_or, Bool.or_false, Bool.false_or, capp_map, capp_fmap, capp_ok,  List.length_map, List.length_append, List.length_cons, List.length_nil, ad1, ad2, f1, f2, o1, o2, max2, ne_nil0, p3 o2]
          exact fin _ _
      | true =>
        cases o2 : okB had (missed ++ [a]) with
        | false =>
          rw [p4 o2] at fin
          simp -implicitDefEqProofs -dsimp (maxSteps := 4000000) (disch := first | assumption | omega | decide | (simp only [List.length_map, List.length_append, List.length_cons, List.length_nil, List.length_range, List.length_drop, List.length_take, List.length_reverse]; omega)) only [e_varT, e_varF, e_con, e_tup, e_lst, e_dct, e_bin, e_cat, e_neg, e_not, e_and, e_or, e_cmp, u_cmp2, e_ite, e_idx, e_cut, u_rev, e_bi, e_me, e_isi, e_call, u_callw, u_next, e_nil, e_cons, e_o0, e_o1, e_if0, e_if1, evKV, st_nil, st_cons, t_asg, t_asgT, t_par, t_ret, st_brk, t_ite, t_for, for_nil, t_frz, t_app, t_ext, t_put, t_aug, t_lset, o_obj, o_own, o_ownL, o_ownK, o_lst, b_ok, b_some, b_b, o_some, tto, ↓to_b, ↓to_ok, ob_some, s_g0, s_gs, s_pv, s_po, s_vv, v_addI, v_sub, v_mulR, v_mulA, v_divP, v_modP, v_pow, c_eqI, p_seq, p_keys, p_range, p_zip, p_enum, p_items, p_values, c_eqS, c_eqB, c_eqN, c_neI, c_neS, c_lt, c_gt, c_le, c_ge, c_isN, c_isnotN, n_none, n_int, n_bool, n_str, n_tup, n_list, n_dict, Bool.not_true, Bool.not_false, gd_t, f_int, f_abs, f_tupL, f_tupT, f_listL, f_listT, f_listD, f_min, f_max, l_list, l_tup, l_dict, w_list, w_tup, w_keys, t_bool, t_int, s_k0, s_kc, s_tn, Ly.fresh, Ly.freshL, setAll, List.set_cons_zero, List.set_cons_succ, if_true, if_false, Bool.false_eq_true, ite_true, ite_false, List.all_nil, mg_nil, e_comp, e_elt, e_gen, capp_ite, flatP_map, flatP_capp, flatA_cons, flatA_nilW, capp_push, List.cons_append, List.nil_append, fm_one, fm_if, fm_ifs, ap_nil, i_ok, i_some, i_int, i_str, i_bool, i_list, i_tup, i_and, i_or, u_rg, u_rg2, flatQ_map, flatQ_capp, Int.toNat_natCast, List.length_range, capp_rg, capp_frg, g_len, g_lt, Bool.and_true, Bool.true_and, Bool.and_false, Bool.false_and, Bool.or_true, Bool.true_or, Bool.or_false, Bool.false_or, capp_map, capp_fmap, capp_ok,  List.length_map, List.length_append, List.length_cons, List.length_nil, ad1, ad2, f1, f2, o1, o2, max2, ne_nil0, p1 o1]
          exact fin _ _
        | true =>
          simp -implicitDefEqProofs -dsimp (maxSteps := 4000000) (disch := first | assumption | omega | decide | (simp only [List.length_map, List.length_append, List.length_cons, List.length_nil, List.length_range, List.length_drop, List.length_take, List.length_reverse]; omega)) only [e_varT, e_varF, e_con, e_tup, e_lst, e_dct, e_bin, e_cat, e_neg, e_not, e_and, e_or, e_cmp, u_cmp2, e_ite, e_idx, e_cut, u_rev, e_bi, e_me, e_isi, e_call, u_callw, u_next, e_nil, e_cons, e_o0, e_o1, e_if0, e_if1, evKV, st_nil, st_cons, t_asg, t_asgT, t_par, t_ret, st_brk, t_ite, t_for, for_nil, t_frz, t_app, t_ext, t_put, t_aug, t_lset, o_obj, o_own, o_ownL, o_ownK, o_lst, b_ok, b_some, b_b, o_some, tto, ↓to_b, ↓to_ok, ob_some, s_g0, s_gs, s_pv, s_po, s_vv, v_addI, v_sub, v_mulR, v_mulA, v_divP, v_modP, v_pow, c_eqI, p_seq, p_keys, p_range, p_zip, p_enum, p_items, p_values, c_eqS, c_eqB, c_eqN, c_neI, c_neS, c_lt, c_gt, c_le, c_ge, c_isN, c_isnotN, n_none, n_int, n_bool, n_str, n_tup, n_list, n_dict, Bool.not_true, Bool.not_false, gd_t, f_int, f_abs, f_tupL, f_tupT, f_listL, f_listT, f_listD, f_min, f_max, l_list, l_tup, l_dict, w_list, w_tup, w_keys, t_bool, t_int, s_k0, s_kc, s_tn, Ly.fresh, Ly.freshL, setAll, List.set_cons_zero, List.set_cons_succ, if_true, if_false, Bool.false_eq_true, ite_true, ite_false, List.all_nil, mg_nil, e_comp, e_elt, e_gen, capp_ite, flatP_map, flatP_capp, flatA_cons, flatA_nilW, capp_push, List.cons_append, List.nil_append, fm_one, fm_if, fm_ifs, ap_nil, i_ok, i_some, i_int, i_str, i_bool, i_list, i_tup, i_and, i_or, u_rg, u_rg2, flatQ_map, flatQ_capp, Int.toNat_natCast, List.length_range, capp_rg, capp_frg, g_len, g_lt, Bool.and_true, Bool.true_and, Bool.and_false, Bool.false_and, Bool.or_true, Bool.true_or, Bool.or_false, Bool.false_or, capp_map, capp_fmap, capp_ok,  List.length_map, List.length_append, List.length_cons, List.length_nil, ad1, ad2, f1, f2, o1, o2, max2, ne_nil0, p1 o1, p3 o2]
          exact fin _ _
    · intro Γ hΓ
      subst hΓ
      rw [List.take_length]
      by_cases q : (ab rs had missed).length < 2
      · have ba := ok_ask hr asc h1 h2 (by omega) (by omega) (k + 5) (v := .none) (fun z => by omega) (fun _ => rfl)
        have al3 := aa (d := .none) trivial
        have d1 : decide ((1 : Int) < ((ab rs had missed).length : Int)) = false := decide_eq_false (by omega)
        simp -implicitDefEqProofs -dsimp (maxSteps := 4000000) (disch := first | assumption | omega | decide | (simp only [List.length_map, List.length_append, List.length_cons, List.length_nil, List.length_range, List.length_drop, List.length_take, List.length_reverse]; omega)) only [e_varT, e_varF, e_con, e_tup, e_lst, e_dct, e_bin, e_cat, e_neg, e_not, e_and, e_or, e_cmp, u_cmp2, e_ite, e_idx, e_cut, u_rev, e_bi, e_me, e_isi, e_call, u_callw, u_next, e_nil, e_cons, e_o0, e_o1, e_if0, e_if1, evKV, st_nil, st_cons, t_asg, t_asgT, t_par, t_ret, st_brk, t_ite, t_for, for_nil, t_frz, t_app, t_ext, t_put, t_aug, t_lset, o_obj, o_own, o_ownL, o_ownK, o_lst, b_ok, b_some, b_b, o_some, tto, ↓to_b, ↓to_ok, ob_some, s_g0, s_gs, s_pv, s_po, s_vv, v_addI, v_sub, v_mulR, v_mulA, v_divP, v_modP, v_pow, c_eqI, p_seq, p_keys, p_range, p_zip, p_enum, p_items, p_values, c_eqS, c_eqB, c_eqN, c_neI, c_neS, c_lt, c_gt, c_le, c_ge, c_isN, c_isnotN, n_none, n_int, n_bool, n_str, n_tup, n_list, n_dict, Bool.not_true, Bool.not_false, gd_t, f_int, f_abs, f_tupL, f_tupT, f_listL, f_listT, f_listD, f_min, f_max, l_list, l_tup, l_dict, w_list, w_tup, w_keys, t_bool, t_int, s_k0, s_kc, s_tn, Ly.fresh, Ly.freshL, setAll, List.set_cons_zero, List.set_cons_succ, if_true, if_false, Bool.false_eq_true, ite_true, ite_false, List.all_nil, mg_nil, e_comp, e_elt, e_gen, capp_ite, flatP_map, flatP_capp, flatA_cons, flatA_nilW, capp_push, List.cons_append, List.nil_append, fm_one, fm_if, fm_ifs, ap_nil, i_ok, i_some, i_int, i_str, i_bool, i_list, i_tup, i_and, i_or, u_rg, u_rg2, flatQ_map, flatQ_capp, Int.toNat_natCast, List.length_range, capp_rg, capp_frg, g_len, g_lt, Bool.and_true, Bool.true_and, Bool.and_false, Bool.false_and, Bool.or_true, Bool.true_or, Bool.or_false, Bool.false_or, capp_map, capp_fmap, capp_ok,  List.length_map, List.length_append, List.length_cons, List.length_nil, ba, al3, lnT, d1, hκ]
        exact h
      · have bn : bgn rs had missed ≠ [] := fun z => by rw [z] at bl; simp at bl; omega
        obtain ⟨m, hm2, m1, _, _⟩ := min_M (same_II (bgn rs had missed) (askR rs had missed) fun x => x) bn
        have m1 : biD .min [.list (askD rs (bgn rs had missed) had missed)] = some (.tuple [.int (askR rs had missed m), .int m]) := m1
        have ba := ok_ask hr asc h1 h2 (by omega) (by omega) (k + 5) (v := .tuple [.int (askR rs had missed m), .int m]) (fun _ => m1) (fun z => absurd z q)
        have al3 := aa (d := .tuple [.int (askR rs had missed m), .int m]) (okA_two trivial trivial)
        have d1 : decide ((1 : Int) < ((ab rs had missed).length : Int)) = true := decide_eq_true (by omega)
        simp -implicitDefEqProofs -dsimp (maxSteps := 4000000) (disch := first | assumption | omega | decide | (simp only [List.length_map, List.length_append, List.length_cons, List.length_nil, List.length_range, List.length_drop, List.length_take, List.length_reverse]; omega)) only [e_varT, e_varF, e_con, e_tup, e_lst, e_dct, e_bin, e_cat, e_neg, e_not, e_and, e_or, e_cmp, u_cmp2, e_ite, e_idx, e_cut, u_rev, e_bi, e_me, e_isi, e_call, u_callw, u_next, e_nil, e_cons, e_o0, e_o1, e_if0, e_if1, evKV, st_nil, st_cons, t_asg, t_asgT, t_par, t_ret, st_brk, t_ite, t_for, for_nil, t_frz, t_app, t_ext, t_put, t_aug, t_lset, o_obj, o_own, o_ownL, o_ownK, o_lst, b_ok, b_some, b_b, o_some, tto, ↓to_b, ↓to_ok, ob_some, s_g0, s_gs, s_pv, s_po, s_vv, v_addI, v_sub, v_mulR, v_mulA, v_divP, v_modP, v_pow, c_eqI, p_seq, p_keys, p_range, p_zip, p_enum, p_items, p_values, c_eqS, c_eqB, c_eqN, c_neI, c_neS, c_lt, c_gt, c_le, c_ge, c_isN, c_isnotN, n_none, n_int, n_bool, n_str, n_tup, n_list, n_dict, Bool.not_true, Bool.not_false, gd_t, f_int, f_abs, f_tupL, f_tupT, f_listL, f_listT, f_listD, f_min, f_max, l_list, l_tup, l_dict, w_list, w_tup, w_keys, t_bool, t_int, s_k0, s_kc, s_tn, Ly.fresh, Ly.freshL, setAll, List.set_cons_zero, List.set_cons_succ, if_true, if_false, Bool.false_eq_true, ite_true, ite_false, List.all_nil, mg_nil, e_comp, e_elt, e_gen, capp_ite, flatP_map, flatP_capp, flatA_cons, flatA_nilW, capp_push, List.cons_append, List.nil_append, fm_one, fm_if, fm_ifs, ap_nil, i_ok, i_some, i_int, i_str, i_bool, i_list, i_tup, i_and, i_or, u_rg, u_rg2, flatQ_map, flatQ_capp, Int.toNat_natCast, List.length_range, capp_rg, capp_frg, g_len, g_lt, Bool.and_true, Bool.true_and, Bool.and_false, Bool.false_and, Bool.or_true, Bool.true_or, Bool.or_false, Bool.false_or, capp_map, capp_fmap, capp_ok,  List.length_map, List.length_append, List.length_cons, List.length_nil, ba, al3, lnT, d1, m1, hκ]
        exact h
/-! ### the law -/
theorem plainT {κ : Ko} (h : κ.rt (.bool true)) : evSs (cfN T 20) lawS κ [.non, .obj, .non] := by
  simp -implicitDefEqProofs -dsimp (maxSteps := 4000000) (disch := first | assumption | omega | decide | (simp only [List.length_map, List.length_append, List.length_cons, List.length_nil, List.length_range, List.length_drop, List.length_take, List.length_reverse]; omega)) only [e_varT, e_varF, e_con, e_tup, e_lst, e_dct, e_bin, e_cat, e_neg, e_not, e_and, e_or, e_cmp, u_cmp2, e_ite, e_idx, e_cut, u_rev, e_bi, e_me, e_isi, e_call, u_callw, u_next, e_nil, e_cons, e_o0, e_o1, e_if0, e_if1, evKV, st_nil, st_cons, t_asg, t_asgT, t_par, t_ret, st_brk, t_ite, t_for, for_nil, t_frz, t_app, t_ext, t_put, t_aug, t_lset, o_obj, o_own, o_ownL, o_ownK, o_lst, b_ok, b_some, b_b, o_some, tto, ↓to_b, ↓to_ok, ob_some, s_g0, s_gs, s_pv, s_po, s_vv, v_addI, v_sub, v_mulR, v_mulA, v_divP, v_modP, v_pow, c_eqI, p_seq, p_keys, p_range, p_zip, p_enum, p_items, p_values, c_eqS, c_eqB, c_eqN, c_neI, c_neS, c_lt, c_gt, c_le, c_ge, c_isN, c_isnotN, n_none, n_int, n_bool, n_str, n_tup, n_list, n_dict, Bool.not_true, Bool.not_false, gd_t, f_int, f_abs, f_tupL, f_tupT, f_listL, f_listT, f_listD, f_min, f_max, l_list, l_tup, l_dict, w_list, w_tup, w_keys, t_bool, t_int, s_k0, s_kc, s_tn, Ly.fresh, Ly.freshL, setAll, List.set_cons_zero, List.set_cons_succ, if_true, if_false, Bool.false_eq_true, ite_true, ite_false, List.all_nil, mg_nil, e_comp, e_elt, e_gen, capp_ite, flatP_map, flatP_capp, flatA_cons, flatA_nilW, capp_push, List.cons_append, List.nil_append, fm_one, fm_if, fm_ifs, ap_nil, i_ok, i_some, i_int, i_str, i_bool, i_list, i_tup, i_and, i_or, u_rg, u_rg2, flatQ_map, flatQ_capp, Int.toNat_natCast, List.length_range, capp_rg, capp_frg, g_len, g_lt, Bool.and_true, Bool.true_and, Bool.and_false, Bool.false_and, Bool.or_true, Bool.true_or, Bool.or_false, Bool.false_or, capp_map, capp_fmap, capp_ok,  List.length_map, List.length_append, List.length_cons, List.length_nil, lawS]
  refine lpN (List.range 4) (fun k => .int (k : Nat)) (fun Γ => Γ = [.non, .obj, .non]) rfl rfl (fun x hx Γ hΓ κ' g1 g2 g3 g4 => ?_) fun Γ hΓ => ?_
  · subst hΓ
    simp -implicitDefEqProofs -dsimp (maxSteps := 4000000) (disch := first | assumption | omega | decide | (simp only [List.length_map, List.length_append, List.length_cons, List.length_nil, List.length_range, List.length_drop, List.length_take, List.length_reverse]; omega)) only [e_varT, e_varF, e_con, e_tup, e_lst, e_dct, e_bin, e_cat, e_neg, e_not, e_and, e_or, e_cmp, u_cmp2, e_ite, e_idx, e_cut, u_rev, e_bi, e_me, e_isi, e_call, u_callw, u_next, e_nil, e_cons, e_o0, e_o1, e_if0, e_if1, evKV, st_nil, st_cons, t_asg, t_asgT, t_par, t_ret, st_brk, t_ite, t_for, for_nil, t_frz, t_app, t_ext, t_put, t_aug, t_lset, o_obj, o_own, o_ownL, o_ownK, o_lst, b_ok, b_some, b_b, o_some, tto, ↓to_b, ↓to_ok, ob_some, s_g0, s_gs, s_pv, s_po, s_vv, v_addI, v_sub, v_mulR, v_mulA, v_divP, v_modP, v_pow, c_eqI, p_seq, p_keys, p_range, p_zip, p_enum, p_items, p_values, c_eqS, c_eqB, c_eqN, c_neI, c_neS, c_lt, c_gt, c_le, c_ge, c_isN, c_isnotN, n_none, n_int, n_bool, n_str, n_tup, n_list, n_dict, Bool.not_true, Bool.not_false, gd_t, f_int, f_abs, f_tupL, f_tupT, f_listL, f_listT, f_listD, f_min, f_max, l_list, l_tup, l_dict, w_list, w_tup, w_keys, t_bool, t_int, s_k0, s_kc, s_tn, Ly.fresh, Ly.freshL, setAll, List.set_cons_zero, List.set_cons_succ, if_true, if_false, Bool.false_eq_true, ite_true, ite_false, List.all_nil, mg_nil, e_comp, e_elt, e_gen, capp_ite, flatP_map, flatP_capp, flatA_cons, flatA_nilW, capp_push, List.cons_append, List.nil_append, fm_one, fm_if, fm_ifs, ap_nil, i_ok, i_some, i_int, i_str, i_bool, i_list, i_tup, i_and, i_or, u_rg, u_rg2, flatQ_map, flatQ_capp, Int.toNat_natCast, List.length_range, capp_rg, capp_frg, g_len, g_lt, Bool.and_true, Bool.true_and, Bool.and_false, Bool.false_and, Bool.or_true, Bool.true_or, Bool.or_false, Bool.false_or, capp_map, capp_fmap, capp_ok,  List.length_map, List.length_append, List.length_cons, List.length_nil]
    refine ok_things 18 fun n th hn hg => ?_
    simp -implicitDefEqProofs -dsimp (maxSteps := 4000000) (disch := first | assumption | omega | decide | (simp only [List.length_map, List.length_append, List.length_cons, List.length_nil, List.length_range, List.length_drop, List.length_take, List.length_reverse]; omega)) only [e_varT, e_varF, e_con, e_tup, e_lst, e_dct, e_bin, e_cat, e_neg, e_not, e_and, e_or, e_cmp, u_cmp2, e_ite, e_idx, e_cut, u_rev, e_bi, e_me, e_isi, e_call, u_callw, u_next, e_nil, e_cons, e_o0, e_o1, e_if0, e_if1, evKV, st_nil, st_cons, t_asg, t_asgT, t_par, t_ret, st_brk, t_ite, t_for, for_nil, t_frz, t_app, t_ext, t_put, t_aug, t_lset, o_obj, o_own, o_ownL, o_ownK, o_lst, b_ok, b_some, b_b, o_some, tto, ↓to_b, ↓to_ok, ob_some, s_g0, s_gs, s_pv, s_po, s_vv, v_addI, v_sub, v_mulR, v_mulA, v_divP, v_modP, v_pow, c_eqI, p_seq, p_keys, p_range, p_zip, p_enum, p_items, p_values, c_eqS, c_eqB, c_eqN, c_neI, c_neS, c_lt, c_gt, c_le, c_ge, c_isN, c_isnotN, n_none, n_int, n_bool, n_str, n_tup, n_list, n_dict, Bool.not_true, Bool.not_false, gd_t, f_int, f_abs, f_tupL, f_tupT, f_listL, f_listT, f_listD, f_min, f_max, l_list, l_tup, l_dict, w_list, w_tup, w_keys, t_bool, t_int, s_k0, s_kc, s_tn, Ly.fresh, Ly.freshL, setAll, List.set_cons_zero, List.set_cons_succ, if_true, if_false, Bool.false_eq_true, ite_true, ite_false, List.all_nil, mg_nil, e_comp, e_elt, e_gen, capp_ite, flatP_map, flatP_capp, flatA_cons, flatA_nilW, capp_push, List.cons_append, List.nil_append, fm_one, fm_if, fm_ifs, ap_nil, i_ok, i_some, i_int, i_str, i_bool, i_list, i_tup, i_and, i_or, u_rg, u_rg2, flatQ_map, flatQ_capp, Int.toNat_natCast, List.length_range, capp_rg, capp_frg, g_len, g_lt, Bool.and_true, Bool.true_and, Bool.and_false, Bool.false_and, Bool.or_true, Bool.true_or, Bool.or_false, Bool.false_or, capp_map, capp_fmap, capp_ok,  List.length_map, List.length_append, List.length_cons, List.length_nil]
    refine ok_lnear hg n hn 8 ?_
    simp -implicitDefEqProofs -dsimp (maxSteps := 4000000) (disch := first | assumption | omega | decide | (simp only [List.length_map, List.length_append, List.length_cons, List.length_nil, List.length_range, List.length_drop, List.length_take, List.length_reverse]; omega)) only [e_varT, e_varF, e_con, e_tup, e_lst, e_dct, e_bin, e_cat, e_neg, e_not, e_and, e_or, e_cmp, u_cmp2, e_ite, e_idx, e_cut, u_rev, e_bi, e_me, e_isi, e_call, u_callw, u_next, e_nil, e_cons, e_o0, e_o1, e_if0, e_if1, evKV, st_nil, st_cons, t_asg, t_asgT, t_par, t_ret, st_brk, t_ite, t_for, for_nil, t_frz, t_app, t_ext, t_put, t_aug, t_lset, o_obj, o_own, o_ownL, o_ownK, o_lst, b_ok, b_some, b_b, o_some, tto, ↓to_b, ↓to_ok, ob_some, s_g0, s_gs, s_pv, s_po, s_vv, v_addI, v_sub, v_mulR, v_mulA, v_divP, v_modP, v_pow, c_eqI, p_seq, p_keys, p_range, p_zip, p_enum, p_items, p_values, c_eqS, c_eqB, c_eqN, c_neI, c_neS, c_lt, c_gt, c_le, c_ge, c_isN, c_isnotN, n_none, n_int, n_bool, n_str, n_tup, n_list, n_dict, Bool.not_true, Bool.not_false, gd_t, f_int, f_abs, f_tupL, f_tupT, f_listL, f_listT, f_listD, f_min, f_max, l_list, l_tup, l_dict, w_list, w_tup, w_keys, t_bool, t_int, s_k0, s_kc, s_tn, Ly.fresh, Ly.freshL, setAll, List.set_cons_zero, List.set_cons_succ, if_true, if_false, Bool.false_eq_true, ite_true, ite_false, List.all_nil, mg_nil, e_comp, e_elt, e_gen, capp_ite, flatP_map, flatP_capp, flatA_cons, flatA_nilW, capp_push, List.cons_append, List.nil_append, fm_one, fm_if, fm_ifs, ap_nil, i_ok, i_some, i_int, i_str, i_bool, i_list, i_tup, i_and, i_or, u_rg, u_rg2, flatQ_map, flatQ_capp, Int.toNat_natCast, List.length_range, capp_rg, capp_frg, g_len, g_lt, Bool.and_true, Bool.true_and, Bool.and_false, Bool.false_and, Bool.or_true, Bool.true_or, Bool.or_false, Bool.false_or, capp_map, capp_fmap, capp_ok,  List.length_map, List.length_append, List.length_cons, List.length_nil]
    refine ok_lost 11 ?_
    simp -implicitDefEqProofs -dsimp (maxSteps := 4000000) (disch := first | assumption | omega | decide | (simp only [List.length_map, List.length_append, List.length_cons, List.length_nil, List.length_range, List.length_drop, List.length_take, List.length_reverse]; omega)) only [e_varT, e_varF, e_con, e_tup, e_lst, e_dct, e_bin, e_cat, e_neg, e_not, e_and, e_or, e_cmp, u_cmp2, e_ite, e_idx, e_cut, u_rev, e_bi, e_me, e_isi, e_call, u_callw, u_next, e_nil, e_cons, e_o0, e_o1, e_if0, e_if1, evKV, st_nil, st_cons, t_asg, t_asgT, t_par, t_ret, st_brk, t_ite, t_for, for_nil, t_frz, t_app, t_ext, t_put, t_aug, t_lset, o_obj, o_own, o_ownL, o_ownK, o_lst, b_ok, b_some, b_b, o_some, tto, ↓to_b, ↓to_ok, ob_some, s_g0, s_gs, s_pv, s_po, s_vv, v_addI, v_sub, v_mulR, v_mulA, v_divP, v_modP, v_pow, c_eqI, p_seq, p_keys, p_range, p_zip, p_enum, p_items, p_values, c_eqS, c_eqB, c_eqN, c_neI, c_neS, c_lt, c_gt, c_le, c_ge, c_isN, c_isnotN, n_none, n_int, n_bool, n_str, n_tup, n_list, n_dict, Bool.not_true, Bool.not_false, gd_t, f_int, f_abs, f_tupL, f_tupT, f_listL, f_listT, f_listD, f_min, f_max, l_list, l_tup, l_dict, w_list, w_tup, w_keys, t_bool, t_int, s_k0, s_kc, s_tn, Ly.fresh, Ly.freshL, setAll, List.set_cons_zero, List.set_cons_succ, if_true, if_false, Bool.false_eq_true, ite_true, ite_false, List.all_nil, mg_nil, e_comp, e_elt, e_gen, capp_ite, flatP_map, flatP_capp, flatA_cons, flatA_nilW, capp_push, List.cons_append, List.nil_append, fm_one, fm_if, fm_ifs, ap_nil, i_ok, i_some, i_int, i_str, i_bool, i_list, i_tup, i_and, i_or, u_rg, u_rg2, flatQ_map, flatQ_capp, Int.toNat_natCast, List.length_range, capp_rg, capp_frg, g_len, g_lt, Bool.and_true, Bool.true_and, Bool.and_false, Bool.false_and, Bool.or_true, Bool.true_or, Bool.or_false, Bool.false_or, capp_map, capp_fmap, capp_ok,  List.length_map, List.length_append, List.length_cons, List.length_nil]
    exact g1 _ rfl
  · subst hΓ
    simp -implicitDefEqProofs -dsimp (maxSteps := 4000000) (disch := first | assumption | omega | decide | (simp only [List.length_map, List.length_append, List.length_cons, List.length_nil, List.length_range, List.length_drop, List.length_take, List.length_reverse]; omega)) only [e_varT, e_varF, e_con, e_tup, e_lst, e_dct, e_bin, e_cat, e_neg, e_not, e_and, e_or, e_cmp, u_cmp2, e_ite, e_idx, e_cut, u_rev, e_bi, e_me, e_isi, e_call, u_callw, u_next, e_nil, e_cons, e_o0, e_o1, e_if0, e_if1, evKV, st_nil, st_cons, t_asg, t_asgT, t_par, t_ret, st_brk, t_ite, t_for, for_nil, t_frz, t_app, t_ext, t_put, t_aug, t_lset, o_obj, o_own, o_ownL, o_ownK, o_lst, b_ok, b_some, b_b, o_some, tto, ↓to_b, ↓to_ok, ob_some, s_g0, s_gs, s_pv, s_po, s_vv, v_addI, v_sub, v_mulR, v_mulA, v_divP, v_modP, v_pow, c_eqI, p_seq, p_keys, p_range, p_zip, p_enum, p_items, p_values, c_eqS, c_eqB, c_eqN, c_neI, c_neS, c_lt, c_gt, c_le, c_ge, c_isN, c_isnotN, n_none, n_int, n_bool, n_str, n_tup, n_list, n_dict, Bool.not_true, Bool.not_false, gd_t, f_int, f_abs, f_tupL, f_tupT, f_listL, f_listT, f_listD, f_min, f_max, l_list, l_tup, l_dict, w_list, w_tup, w_keys, t_bool, t_int, s_k0, s_kc, s_tn, Ly.fresh, Ly.freshL, setAll, List.set_cons_zero, List.set_cons_succ, if_true, if_false, Bool.false_eq_true, ite_true, ite_false, List.all_nil, mg_nil, e_comp, e_elt, e_gen, capp_ite, flatP_map, flatP_capp, flatA_cons, flatA_nilW, capp_push, List.cons_append, List.nil_append, fm_one, fm_if, fm_ifs, ap_nil, i_ok, i_some, i_int, i_str, i_bool, i_list, i_tup, i_and, i_or, u_rg, u_rg2, flatQ_map, flatQ_capp, Int.toNat_natCast, List.length_range, capp_rg, capp_frg, g_len, g_lt, Bool.and_true, Bool.true_and, Bool.and_false, Bool.false_and, Bool.or_true, Bool.true_or, Bool.or_false, Bool.false_or, capp_map, capp_fmap, capp_ok,  List.length_map, List.length_append, List.length_cons, List.length_nil]
    exact h
end K02

set_option maxRecDepth 100000
set_option maxHeartbeats 4000000
namespace K02
open PySem PySem.Spec PyProof.Rows L2 Ly
def top (i : Nat) : Stmt := PySem.Challenge.pw_lostclaimed_k02_misremembered_and_lost.main.body.getD i (.Pass ⟨0, 0, 0, 0⟩)
def f_choices : Df := ⟨"choices", top 1, g_choices, ["things", "k", "found", "i", "row"]⟩
def f_wrong_in : Df := ⟨"wrong_in", top 3, g_wrong_in, ["thing", "told", "mark"]⟩
def f_near_ones : Df := ⟨"near_ones", top 4, g_near_ones, ["things", "told", "most", "name"]⟩
def f_nearest : Df := ⟨"nearest", top 5, g_nearest, ["things", "told", "least", "name"]⟩
def f_is_sure_by : Df := ⟨"is_sure_by", top 6, g_is_sure_by, ["things", "told", "most"]⟩
def f_differ_in : Df := ⟨"differ_in", top 7, g_differ_in, ["one", "other", "marks", "mark"]⟩
def f_least_gap : Df := ⟨"least_gap", top 8, g_least_gap, ["things", "pairs", "rows", "a", "b"]⟩
def f_sees_wrong : Df := ⟨"sees_wrong", top 9, g_sees_wrong, ["things", "gap"]⟩
def f_mends_wrong : Df := ⟨"mends_wrong", top 10, g_mends_wrong, ["things", "gap"]⟩
def f_mended : Df := ⟨"mended", top 11, g_mended, ["things", "told", "found"]⟩
def f_lost_span : Df := ⟨"lost_span", top 13, g_lost_span, ["had", "missed", "after", "by"]⟩
def f_minutes_in : Df := ⟨"minutes_in", top 14, g_minutes_in, ["ride", "span", "first", "last", "_", "begin", "end", "after", "by"]⟩
def f_rides_for : Df := ⟨"rides_for", top 15, g_rides_for, ["rides", "had", "missed", "span", "k"]⟩
def f_is_sure_ride : Df := ⟨"is_sure_ride", top 16, g_is_sure_ride, ["rides", "had", "missed"]⟩
def f_found_on : Df := ⟨"found_on", top 17, g_found_on, ["rides", "line", "minute", "k"]⟩
def f_could_be_lost : Df := ⟨"could_be_lost", top 18, g_could_be_lost, ["rides", "had", "missed", "line", "minute", "k", "span", "found", "own"]⟩
def f_best_ask : Df := ⟨"best_ask", top 19, g_best_ask, ["rides", "had", "missed", "places", "rows", "minute", "yes", "no", "k"]⟩
def f_minutes_left : Df := ⟨"minutes_left", top 20, g_minutes_left, ["rides", "had", "missed", "span", "ride"]⟩
def f__law_pick : Df := ⟨"_law_pick", top 24, g__law_pick, ["w", "rows"]⟩
def f__law_alike : Df := ⟨"_law_alike", top 25, g__law_alike, ["seen", "due", "kind", "key", "k"]⟩
def f__law_things : Df := ⟨"_law_things", top 26, g__law_things, ["w", "most", "found", "k", "thing", "mark", "value"]⟩
def f__law_own : Df := ⟨"_law_own", top 27, g__law_own, ["things", "name"]⟩
def f__law_differ : Df := ⟨"_law_differ", top 28, g__law_differ, ["one", "other", "mark"]⟩
def f__law_near : Df := ⟨"_law_near", top 29, g__law_near, ["w", "things", "mark", "wrong", "name", "least", "best", "seen", "most", "rows", "k", "gap", "sees", "names", "told", "value", "near", "j"]⟩
def f__law_safe : Df := ⟨"_law_safe", top 30, g__law_safe, ["things", "names", "gap", "rows", "mark", "row", "longer", "name", "far", "others", "own", "value", "one"]⟩
def f__law_rides : Df := ⟨"_law_rides", top 31, g__law_rides, ["w", "k", "found", "at", "end"]⟩
def f__law_minutes : Df := ⟨"_law_minutes", top 32, g__law_minutes, ["rides", "had", "missed", "one", "m", "line", "begin", "end", "other"]⟩
def f__law_set : Df := ⟨"_law_set", top 33, g__law_set, ["w", "many", "most", "k"]⟩
def f__law_lost : Df := ⟨"_law_lost", top 34, g__law_lost, ["w", "rides", "missed", "rows", "span", "able", "told", "there", "could", "ask", "had", "line", "minute", "asks", "yes", "no", "k", "one", "row", "m"]⟩
def defs : List Df := [f_choices, f_wrong_in, f_near_ones, f_nearest, f_is_sure_by, f_differ_in, f_least_gap, f_sees_wrong, f_mends_wrong, f_mended, f_lost_span, f_minutes_in, f_rides_for, f_is_sure_ride, f_found_on, f_could_be_lost, f_best_ask, f_minutes_left, f__law_pick, f__law_alike, f__law_things, f__law_own, f__law_differ, f__law_near, f__law_safe, f__law_rides, f__law_minutes, f__law_set, f__law_lost]
theorem defs_T : defs.map Df.fn = T := rfl
def bs : List Str := ["len", "sorted", "tuple", "list", "dict", "min", "max", "sum", "any", "abs", "int", "str", "isinstance", "bool", "range", "set"]
def lawN : List Str := ["script", "w", "turn"]
def lawSc : Sc := ⟨lawN, defScope (top 35), fun _ => true, defs.map Df.sig, bs, true⟩
end K02

set_option maxRecDepth 100000
set_option maxHeartbeats 4000000
namespace K02
open PySem PySem.Spec PyProof.Rows L2 Ly
theorem k_choices : chkD (defs.map Df.sig) bs f_choices = true := by decide +kernel
theorem k_wrong_in : chkD (defs.map Df.sig) bs f_wrong_in = true := by decide +kernel
theorem k_near_ones : chkD (defs.map Df.sig) bs f_near_ones = true := by decide +kernel
theorem k_nearest : chkD (defs.map Df.sig) bs f_nearest = true := by decide +kernel
theorem k_is_sure_by : chkD (defs.map Df.sig) bs f_is_sure_by = true := by decide +kernel
theorem k_differ_in : chkD (defs.map Df.sig) bs f_differ_in = true := by decide +kernel
theorem k_least_gap : chkD (defs.map Df.sig) bs f_least_gap = true := by decide +kernel
theorem k_sees_wrong : chkD (defs.map Df.sig) bs f_sees_wrong = true := by decide +kernel
theorem k_mends_wrong : chkD (defs.map Df.sig) bs f_mends_wrong = true := by decide +kernel
theorem k_mended : chkD (defs.map Df.sig) bs f_mended = true := by decide +kernel
theorem k_lost_span : chkD (defs.map Df.sig) bs f_lost_span = true := by decide +kernel
theorem k_minutes_in : chkD (defs.map Df.sig) bs f_minutes_in = true := by decide +kernel
theorem k_rides_for : chkD (defs.map Df.sig) bs f_rides_for = true := by decide +kernel
theorem k_is_sure_ride : chkD (defs.map Df.sig) bs f_is_sure_ride = true := by decide +kernel
theorem k_found_on : chkD (defs.map Df.sig) bs f_found_on = true := by decide +kernel
theorem k_could_be_lost : chkD (defs.map Df.sig) bs f_could_be_lost = true := by decide +kernel
theorem k_best_ask : chkD (defs.map Df.sig) bs f_best_ask = true := by decide +kernel
theorem k_minutes_left : chkD (defs.map Df.sig) bs f_minutes_left = true := by decide +kernel
theorem k__law_pick : chkD (defs.map Df.sig) bs f__law_pick = true := by decide +kernel
theorem k__law_alike : chkD (defs.map Df.sig) bs f__law_alike = true := by decide +kernel
theorem k__law_things : chkD (defs.map Df.sig) bs f__law_things = true := by decide +kernel
theorem k__law_own : chkD (defs.map Df.sig) bs f__law_own = true := by decide +kernel
theorem k__law_differ : chkD (defs.map Df.sig) bs f__law_differ = true := by decide +kernel
theorem k__law_near : chkD (defs.map Df.sig) bs f__law_near = true := by decide +kernel
theorem k__law_safe : chkD (defs.map Df.sig) bs f__law_safe = true := by decide +kernel
theorem k__law_rides : chkD (defs.map Df.sig) bs f__law_rides = true := by decide +kernel
theorem k__law_minutes : chkD (defs.map Df.sig) bs f__law_minutes = true := by decide +kernel
theorem k__law_set : chkD (defs.map Df.sig) bs f__law_set = true := by decide +kernel
theorem k__law_lost : chkD (defs.map Df.sig) bs f__law_lost = true := by decide +kernel
theorem chk : ∀ d ∈ defs, chkD (defs.map Df.sig) bs d = true := (List.forall_mem_cons.mpr ⟨k_choices, (List.forall_mem_cons.mpr ⟨k_wrong_in, (List.forall_mem_cons.mpr ⟨k_near_ones, (List.forall_mem_cons.mpr ⟨k_nearest, (List.forall_mem_cons.mpr ⟨k_is_sure_by, (List.forall_mem_cons.mpr ⟨k_differ_in, (List.forall_mem_cons.mpr ⟨k_least_gap, (List.forall_mem_cons.mpr ⟨k_sees_wrong, (List.forall_mem_cons.mpr ⟨k_mends_wrong, (List.forall_mem_cons.mpr ⟨k_mended, (List.forall_mem_cons.mpr ⟨k_lost_span, (List.forall_mem_cons.mpr ⟨k_minutes_in, (List.forall_mem_cons.mpr ⟨k_rides_for, (List.forall_mem_cons.mpr ⟨k_is_sure_ride, (List.forall_mem_cons.mpr ⟨k_found_on, (List.forall_mem_cons.mpr ⟨k_could_be_lost, (List.forall_mem_cons.mpr ⟨k_best_ask, (List.forall_mem_cons.mpr ⟨k_minutes_left, (List.forall_mem_cons.mpr ⟨k__law_pick, (List.forall_mem_cons.mpr ⟨k__law_alike, (List.forall_mem_cons.mpr ⟨k__law_things, (List.forall_mem_cons.mpr ⟨k__law_own, (List.forall_mem_cons.mpr ⟨k__law_differ, (List.forall_mem_cons.mpr ⟨k__law_near, (List.forall_mem_cons.mpr ⟨k__law_safe, (List.forall_mem_cons.mpr ⟨k__law_rides, (List.forall_mem_cons.mpr ⟨k__law_minutes, (List.forall_mem_cons.mpr ⟨k__law_set, (List.forall_mem_cons.mpr ⟨k__law_lost, (fun _ z => by cases z)⟩)⟩)⟩)⟩)⟩)⟩)⟩)⟩)⟩)⟩)⟩)⟩)⟩)⟩)⟩)⟩)⟩)⟩)⟩)⟩)⟩)⟩)⟩)⟩)⟩)⟩)⟩)⟩)⟩)
theorem chkDraws : chkDr bs (top 22) = true := by decide +kernel
theorem chkL : chkSs lawSc lawS ((defBody (top 35)).drop 1) = true := by decide +kernel
theorem chkF : fsC lawN ["script"] (defScope (top 35)) = true := by decide +kernel
theorem chkV : nmV lawSc 0 "script" = true := by decide +kernel
theorem chkW : stC lawSc 1 "w" = true := by decide +kernel
theorem chkG : glC lawSc "_law_draws" = true := by decide +kernel
theorem chkN : FnScope ["w", "many"] ["w", "many"] (defScope (top 23)) := fsC_get (by decide +kernel)
theorem chkN1 : glC ⟨["w", "many"], defScope (top 23), fun _ => true, [], [], true⟩ "len" = true := by decide +kernel
theorem chkN2 : glC ⟨["w", "many"], defScope (top 23), fun _ => true, [], [], true⟩ "int" = true := by decide +kernel
theorem all_mk {l : PySem.W.OpenLaw} {w : World} {K : PySem.W.Frag} {h : Heap} {mg : Str → Option Value} {fa : Addr} (X : K.In h) (G : h.Ns mainGlobals mg) (hfa : mg "law" = some (.ref fa))
    {f0 : Addr} {od0 an0 : Option Addr} {sl0 : Array (Option Value)} {oc0 kV0 dc0 pm0 cd0 ct0 : Value}
    (a0 : PySem.W.nsIn K mainGlobals "choices" = some (some (.ref f0))) (l0 : K.lookup f0 = some ⟨oc0, od0, .func (PySem.W.fnOf "choices" "choices" (defArgs (top 1)) (defBody (top 1)) (defScope (top 1)) .none kV0 dc0 pm0 an0 cd0 ct0), sl0⟩) (c0 : PySem.W.codeIn K cd0 "choices" = true) (k0 : PySem.W.keepIn K (.ref f0) = true)
    {f1 : Addr} {od1 an1 : Option Addr} {sl1 : Array (Option Value)} {oc1 kV1 dc1 pm1 cd1 ct1 : Value}
    (a1 : PySem.W.nsIn K mainGlobals "wrong_in" = some (some (.ref f1))) (l1 : K.lookup f1 = some ⟨oc1, od1, .func (PySem.W.fnOf "wrong_in" "wrong_in" (defArgs (top 3)) (defBody (top 3)) (defScope (top 3)) .none kV1 dc1 pm1 an1 cd1 ct1), sl1⟩) (c1 : PySem.W.codeIn K cd1 "wrong_in" = true) (k1 : PySem.W.keepIn K (.ref f1) = true)
    {f2 : Addr} {od2 an2 : Option Addr} {sl2 : Array (Option Value)} {oc2 kV2 dc2 pm2 cd2 ct2 : Value}
    (a2 : PySem.W.nsIn K mainGlobals "near_ones" = some (some (.ref f2))) (l2 : K.lookup f2 = some ⟨oc2, od2, .func (PySem.W.fnOf "near_ones" "near_ones" (defArgs (top 4)) (defBody (top 4)) (defScope (top 4)) .none kV2 dc2 pm2 an2 cd2 ct2), sl2⟩) (c2 : PySem.W.codeIn K cd2 "near_ones" = true) (k2 : PySem.W.keepIn K (.ref f2) = true)
    {f3 : Addr} {od3 an3 : Option Addr} {sl3 : Array (Option Value)} {oc3 kV3 dc3 pm3 cd3 ct3 : Value}
    (a3 : PySem.W.nsIn K mainGlobals "nearest" = some (some (.ref f3))) (l3 : K.lookup f3 = some ⟨oc3, od3, .func (PySem.W.fnOf "nearest" "nearest" (defArgs (top 5)) (defBody (top 5)) (defScope (top 5)) .none kV3 dc3 pm3 an3 cd3 ct3), sl3⟩) (c3 : PySem.W.codeIn K cd3 "nearest" = true) (k3 : PySem.W.keepIn K (.ref f3) = true)
    {f4 : Addr} {od4 an4 : Option Addr} {sl4 : Array (Option Value)} {oc4 kV4 dc4 pm4 cd4 ct4 : Value}
    (a4 : PySem.W.nsIn K mainGlobals "is_sure_by" = some (some (.ref f4))) (l4 : K.lookup f4 = some ⟨oc4, od4, .func (PySem.W.fnOf "is_sure_by" "is_sure_by" (defArgs (top 6)) (defBody (top 6)) (defScope (top 6)) .none kV4 dc4 pm4 an4 cd4 ct4), sl4⟩) (c4 : PySem.W.codeIn K cd4 "is_sure_by" = true) (k4 : PySem.W.keepIn K (.ref f4) = true)
    {f5 : Addr} {od5 an5 : Option Addr} {sl5 : Array (Option Value)} {oc5 kV5 dc5 pm5 cd5 ct5 : Value}
    (a5 : PySem.W.nsIn K mainGlobals "differ_in" = some (some (.ref f5))) (l5 : K.lookup f5 = some ⟨oc5, od5, .func (PySem.W.fnOf "differ_in" "differ_in" (defArgs (top 7)) (defBody (top 7)) (defScope (top 7)) .none kV5 dc5 pm5 an5 cd5 ct5), sl5⟩) (c5 : PySem.W.codeIn K cd5 "differ_in" = true) (k5 : PySem.W.keepIn K (.ref f5) = true)
    {f6 : Addr} {od6 an6 : Option Addr} {sl6 : Array (Option Value)} {oc6 kV6 dc6 pm6 cd6 ct6 : Value}
    (a6 : PySem.W.nsIn K mainGlobals "least_gap" = some (some (.ref f6))) (l6 : K.lookup f6 = some ⟨oc6, od6, .func (PySem.W.fnOf "least_gap" "least_gap" (defArgs (top 8)) (defBody (top 8)) (defScope (top 8)) .none kV6 dc6 pm6 an6 cd6 ct6), sl6⟩) (c6 : PySem.W.codeIn K cd6 "least_gap" = true) (k6 : PySem.W.keepIn K (.ref f6) = true)
    {f7 : Addr} {od7 an7 : Option Addr} {sl7 : Array (Option Value)} {oc7 kV7 dc7 pm7 cd7 ct7 : Value}
    (a7 : PySem.W.nsIn K mainGlobals "sees_wrong" = some (some (.ref f7))) (l7 : K.lookup f7 = some ⟨oc7, od7, .func (PySem.W.fnOf "sees_wrong" "sees_wrong" (defArgs (top 9)) (defBody (top 9)) (defScope (top 9)) .none kV7 dc7 pm7 an7 cd7 ct7), sl7⟩) (c7 : PySem.W.codeIn K cd7 "sees_wrong" = true) (k7 : PySem.W.keepIn K (.ref f7) = true)
    {f8 : Addr} {od8 an8 : Option Addr} {sl8 : Array (Option Value)} {oc8 kV8 dc8 pm8 cd8 ct8 : Value}
    (a8 : PySem.W.nsIn K mainGlobals "mends_wrong" = some (some (.ref f8))) (l8 : K.lookup f8 = some ⟨oc8, od8, .func (PySem.W.fnOf "mends_wrong" "mends_wrong" (defArgs (top 10)) (defBody (top 10)) (defScope (top 10)) .none kV8 dc8 pm8 an8 cd8 ct8), sl8⟩) (c8 : PySem.W.codeIn K cd8 "mends_wrong" = true) (k8 : PySem.W.keepIn K (.ref f8) = true)
    {f9 : Addr} {od9 an9 : Option Addr} {sl9 : Array (Option Value)} {oc9 kV9 dc9 pm9 cd9 ct9 : Value}
    (a9 : PySem.W.nsIn K mainGlobals "mended" = some (some (.ref f9))) (l9 : K.lookup f9 = some ⟨oc9, od9, .func (PySem.W.fnOf "mended" "mended" (defArgs (top 11)) (defBody (top 11)) (defScope (top 11)) .none kV9 dc9 pm9 an9 cd9 ct9), sl9⟩) (c9 : PySem.W.codeIn K cd9 "mended" = true) (k9 : PySem.W.keepIn K (.ref f9) = true)
    {f10 : Addr} {od10 an10 : Option Addr} {sl10 : Array (Option Value)} {oc10 kV10 dc10 pm10 cd10 ct10 : Value}
    (a10 : PySem.W.nsIn K mainGlobals "lost_span" = some (some (.ref f10))) (l10 : K.lookup f10 = some ⟨oc10, od10, .func (PySem.W.fnOf "lost_span" "lost_span" (defArgs (top 13)) (defBody (top 13)) (defScope (top 13)) .none kV10 dc10 pm10 an10 cd10 ct10), sl10⟩) (c10 : PySem.W.codeIn K cd10 "lost_span" = true) (k10 : PySem.W.keepIn K (.ref f10) = true)
    {f11 : Addr} {od11 an11 : Option Addr} {sl11 : Array (Option Value)} {oc11 kV11 dc11 pm11 cd11 ct11 : Value}
    (a11 : PySem.W.nsIn K mainGlobals "minutes_in" = some (some (.ref f11))) (l11 : K.lookup f11 = some ⟨oc11, od11, .func (PySem.W.fnOf "minutes_in" "minutes_in" (defArgs (top 14)) (defBody (top 14)) (defScope (top 14)) .none kV11 dc11 pm11 an11 cd11 ct11), sl11⟩) (c11 : PySem.W.codeIn K cd11 "minutes_in" = true) (k11 : PySem.W.keepIn K (.ref f11) = true)
    {f12 : Addr} {od12 an12 : Option Addr} {sl12 : Array (Option Value)} {oc12 kV12 dc12 pm12 cd12 ct12 : Value}
    (a12 : PySem.W.nsIn K mainGlobals "rides_for" = some (some (.ref f12))) (l12 : K.lookup f12 = some ⟨oc12, od12, .func (PySem.W.fnOf "rides_for" "rides_for" (defArgs (top 15)) (defBody (top 15)) (defScope (top 15)) .none kV12 dc12 pm12 an12 cd12 ct12), sl12⟩) (c12 : PySem.W.codeIn K cd12 "rides_for" = true) (k12 : PySem.W.keepIn K (.ref f12) = true)
    {f13 : Addr} {od13 an13 : Option Addr} {sl13 : Array (Option Value)} {oc13 kV13 dc13 pm13 cd13 ct13 : Value}
    (a13 : PySem.W.nsIn K mainGlobals "is_sure_ride" = some (some (.ref f13))) (l13 : K.lookup f13 = some ⟨oc13, od13, .func (PySem.W.fnOf "is_sure_ride" "is_sure_ride" (defArgs (top 16)) (defBody (top 16)) (defScope (top 16)) .none kV13 dc13 pm13 an13 cd13 ct13), sl13⟩) (c13 : PySem.W.codeIn K cd13 "is_sure_ride" = true) (k13 : PySem.W.keepIn K (.ref f13) = true)
    {f14 : Addr} {od14 an14 : Option Addr} {sl14 : Array (Option Value)} {oc14 kV14 dc14 pm14 cd14 ct14 : Value}
    (a14 : PySem.W.nsIn K mainGlobals "found_on" = some (some (.ref f14))) (l14 : K.lookup f14 = some ⟨oc14, od14, .func (PySem.W.fnOf "found_on" "found_on" (defArgs (top 17)) (defBody (top 17)) (defScope (top 17)) .none kV14 dc14 pm14 an14 cd14 ct14), sl14⟩) (c14 : PySem.W.codeIn K cd14 "found_on" = true) (k14 : PySem.W.keepIn K (.ref f14) = true)
    {f15 : Addr} {od15 an15 : Option Addr} {sl15 : Array (Option Value)} {oc15 kV15 dc15 pm15 cd15 ct15 : Value}
    (a15 : PySem.W.nsIn K mainGlobals "could_be_lost" = some (some (.ref f15))) (l15 : K.lookup f15 = some ⟨oc15, od15, .func (PySem.W.fnOf "could_be_lost" "could_be_lost" (defArgs (top 18)) (defBody (top 18)) (defScope (top 18)) .none kV15 dc15 pm15 an15 cd15 ct15), sl15⟩) (c15 : PySem.W.codeIn K cd15 "could_be_lost" = true) (k15 : PySem.W.keepIn K (.ref f15) = true)
    {f16 : Addr} {od16 an16 : Option Addr} {sl16 : Array (Option Value)} {oc16 kV16 dc16 pm16 cd16 ct16 : Value}
    (a16 : PySem.W.nsIn K mainGlobals "best_ask" = some (some (.ref f16))) (l16 : K.lookup f16 = some ⟨oc16, od16, .func (PySem.W.fnOf "best_ask" "best_ask" (defArgs (top 19)) (defBody (top 19)) (defScope (top 19)) .none kV16 dc16 pm16 an16 cd16 ct16), sl16⟩) (c16 : PySem.W.codeIn K cd16 "best_ask" = true) (k16 : PySem.W.keepIn K (.ref f16) = true)
    {f17 : Addr} {od17 an17 : Option Addr} {sl17 : Array (Option Value)} {oc17 kV17 dc17 pm17 cd17 ct17 : Value}
    (a17 : PySem.W.nsIn K mainGlobals "minutes_left" = some (some (.ref f17))) (l17 : K.lookup f17 = some ⟨oc17, od17, .func (PySem.W.fnOf "minutes_left" "minutes_left" (defArgs (top 20)) (defBody (top 20)) (defScope (top 20)) .none kV17 dc17 pm17 an17 cd17 ct17), sl17⟩) (c17 : PySem.W.codeIn K cd17 "minutes_left" = true) (k17 : PySem.W.keepIn K (.ref f17) = true)
    {f18 : Addr} {od18 an18 : Option Addr} {sl18 : Array (Option Value)} {oc18 kV18 dc18 pm18 cd18 ct18 : Value}
    (a18 : PySem.W.nsIn K mainGlobals "_law_pick" = some (some (.ref f18))) (l18 : K.lookup f18 = some ⟨oc18, od18, .func (PySem.W.fnOf "_law_pick" "_law_pick" (defArgs (top 24)) (defBody (top 24)) (defScope (top 24)) .none kV18 dc18 pm18 an18 cd18 ct18), sl18⟩) (c18 : PySem.W.codeIn K cd18 "_law_pick" = true) (k18 : PySem.W.keepIn K (.ref f18) = true)
    {f19 : Addr} {od19 an19 : Option Addr} {sl19 : Array (Option Value)} {oc19 kV19 dc19 pm19 cd19 ct19 : Value}
    (a19 : PySem.W.nsIn K mainGlobals "_law_alike" = some (some (.ref f19))) (l19 : K.lookup f19 = some ⟨oc19, od19, .func (PySem.W.fnOf "_law_alike" "_law_alike" (defArgs (top 25)) (defBody (top 25)) (defScope (top 25)) .none kV19 dc19 pm19 an19 cd19 ct19), sl19⟩) (c19 : PySem.W.codeIn K cd19 "_law_alike" = true) (k19 : PySem.W.keepIn K (.ref f19) = true)
    {f20 : Addr} {od20 an20 : Option Addr} {sl20 : Array (Option Value)} {oc20 kV20 dc20 pm20 cd20 ct20 : Value}
    (a20 : PySem.W.nsIn K mainGlobals "_law_things" = some (some (.ref f20))) (l20 : K.lookup f20 = some ⟨oc20, od20, .func (PySem.W.fnOf "_law_things" "_law_things" (defArgs (top 26)) (defBody (top 26)) (defScope (top 26)) .none kV20 dc20 pm20 an20 cd20 ct20), sl20⟩) (c20 : PySem.W.codeIn K cd20 "_law_things" = true) (k20 : PySem.W.keepIn K (.ref f20) = true)
    {f21 : Addr} {od21 an21 : Option Addr} {sl21 : Array (Option Value)} {oc21 kV21 dc21 pm21 cd21 ct21 : Value}
    (a21 : PySem.W.nsIn K mainGlobals "_law_own" = some (some (.ref f21))) (l21 : K.lookup f21 = some ⟨oc21, od21, .func (PySem.W.fnOf "_law_own" "_law_own" (defArgs (top 27)) (defBody (top 27)) (defScope (top 27)) .none kV21 dc21 pm21 an21 cd21 ct21), sl21⟩) (c21 : PySem.W.codeIn K cd21 "_law_own" = true) (k21 : PySem.W.keepIn K (.ref f21) = true)
    {f22 : Addr} {od22 an22 : Option Addr} {sl22 : Array (Option Value)} {oc22 kV22 dc22 pm22 cd22 ct22 : Value}
    (a22 : PySem.W.nsIn K mainGlobals "_law_differ" = some (some (.ref f22))) (l22 : K.lookup f22 = some ⟨oc22, od22, .func (PySem.W.fnOf "_law_differ" "_law_differ" (defArgs (top 28)) (defBody (top 28)) (defScope (top 28)) .none kV22 dc22 pm22 an22 cd22 ct22), sl22⟩) (c22 : PySem.W.codeIn K cd22 "_law_differ" = true) (k22 : PySem.W.keepIn K (.ref f22) = true)
    {f23 : Addr} {od23 an23 : Option Addr} {sl23 : Array (Option Value)} {oc23 kV23 dc23 pm23 cd23 ct23 : Value}
    (a23 : PySem.W.nsIn K mainGlobals "_law_near" = some (some (.ref f23))) (l23 : K.lookup f23 = some ⟨oc23, od23, .func (PySem.W.fnOf "_law_near" "_law_near" (defArgs (top 29)) (defBody (top 29)) (defScope (top 29)) .none kV23 dc23 pm23 an23 cd23 ct23), sl23⟩) (c23 : PySem.W.codeIn K cd23 "_law_near" = true) (k23 : PySem.W.keepIn K (.ref f23) = true)
    {f24 : Addr} {od24 an24 : Option Addr} {sl24 : Array (Option Value)} {oc24 kV24 dc24 pm24 cd24 ct24 : Value}
    (a24 : PySem.W.nsIn K mainGlobals "_law_safe" = some (some (.ref f24))) (l24 : K.lookup f24 = some ⟨oc24, od24, .func (PySem.W.fnOf "_law_safe" "_law_safe" (defArgs (top 30)) (defBody (top 30)) (defScope (top 30)) .none kV24 dc24 pm24 an24 cd24 ct24), sl24⟩) (c24 : PySem.W.codeIn K cd24 "_law_safe" = true) (k24 : PySem.W.keepIn K (.ref f24) = true)
    {f25 : Addr} {od25 an25 : Option Addr} {sl25 : Array (Option Value)} {oc25 kV25 dc25 pm25 cd25 ct25 : Value}
    (a25 : PySem.W.nsIn K mainGlobals "_law_rides" = some (some (.ref f25))) (l25 : K.lookup f25 = some ⟨oc25, od25, .func (PySem.W.fnOf "_law_rides" "_law_rides" (defArgs (top 31)) (defBody (top 31)) (defScope (top 31)) .none kV25 dc25 pm25 an25 cd25 ct25), sl25⟩) (c25 : PySem.W.codeIn K cd25 "_law_rides" = true) (k25 : PySem.W.keepIn K (.ref f25) = true)
    {f26 : Addr} {od26 an26 : Option Addr} {sl26 : Array (Option Value)} {oc26 kV26 dc26 pm26 cd26 ct26 : Value}
    (a26 : PySem.W.nsIn K mainGlobals "_law_minutes" = some (some (.ref f26))) (l26 : K.lookup f26 = some ⟨oc26, od26, .func (PySem.W.fnOf "_law_minutes" "_law_minutes" (defArgs (top 32)) (defBody (top 32)) (defScope (top 32)) .none kV26 dc26 pm26 an26 cd26 ct26), sl26⟩) (c26 : PySem.W.codeIn K cd26 "_law_minutes" = true) (k26 : PySem.W.keepIn K (.ref f26) = true)
    {f27 : Addr} {od27 an27 : Option Addr} {sl27 : Array (Option Value)} {oc27 kV27 dc27 pm27 cd27 ct27 : Value}
    (a27 : PySem.W.nsIn K mainGlobals "_law_set" = some (some (.ref f27))) (l27 : K.lookup f27 = some ⟨oc27, od27, .func (PySem.W.fnOf "_law_set" "_law_set" (defArgs (top 33)) (defBody (top 33)) (defScope (top 33)) .none kV27 dc27 pm27 an27 cd27 ct27), sl27⟩) (c27 : PySem.W.codeIn K cd27 "_law_set" = true) (k27 : PySem.W.keepIn K (.ref f27) = true)
    {f28 : Addr} {od28 an28 : Option Addr} {sl28 : Array (Option Value)} {oc28 kV28 dc28 pm28 cd28 ct28 : Value}
    (a28 : PySem.W.nsIn K mainGlobals "_law_lost" = some (some (.ref f28))) (l28 : K.lookup f28 = some ⟨oc28, od28, .func (PySem.W.fnOf "_law_lost" "_law_lost" (defArgs (top 34)) (defBody (top 34)) (defScope (top 34)) .none kV28 dc28 pm28 an28 cd28 ct28), sl28⟩) (c28 : PySem.W.codeIn K cd28 "_law_lost" = true) (k28 : PySem.W.keepIn K (.ref f28) = true)
    {f29 : Addr} {od29 an29 : Option Addr} {sl29 : Array (Option Value)} {oc29 kV29 dc29 pm29 cd29 ct29 : Value}
    (a29 : PySem.W.nsIn K mainGlobals "_law_draws" = some (some (.ref f29))) (l29 : K.lookup f29 = some ⟨oc29, od29, .func (PySem.W.fnOf "_law_draws" "_law_draws" (defArgs (top 22)) (defBody (top 22)) (defScope (top 22)) .none kV29 dc29 pm29 an29 cd29 ct29), sl29⟩) (c29 : PySem.W.codeIn K cd29 "_law_draws" = true) (k29 : PySem.W.keepIn K (.ref f29) = true)
    {f30 : Addr} {od30 an30 : Option Addr} {sl30 : Array (Option Value)} {oc30 kV30 dc30 pm30 cd30 ct30 : Value}
    (a30 : PySem.W.nsIn K mainGlobals "_law_next" = some (some (.ref f30))) (l30 : K.lookup f30 = some ⟨oc30, od30, .func (PySem.W.fnOf "_law_next" "_law_next" (defArgs (top 23)) (defBody (top 23)) (defScope (top 23)) .none kV30 dc30 pm30 an30 cd30 ct30), sl30⟩) (c30 : PySem.W.codeIn K cd30 "_law_next" = true) (k30 : PySem.W.keepIn K (.ref f30) = true)
    {f31 : Addr} {od31 an31 : Option Addr} {sl31 : Array (Option Value)} {oc31 kV31 dc31 pm31 cd31 ct31 : Value}
    (a31 : PySem.W.nsIn K mainGlobals "law" = some (some (.ref f31))) (l31 : K.lookup f31 = some ⟨oc31, od31, .func (PySem.W.fnOf "law" "law" (defArgs (top 35)) (defBody (top 35)) (defScope (top 35)) .none kV31 dc31 pm31 an31 cd31 ct31), sl31⟩) (c31 : PySem.W.codeIn K cd31 "law" = true) (k31 : PySem.W.keepIn K (.ref f31) = true)
    (z0 : PySem.W.nsIn K mainGlobals "len" = some none)
    (z1 : PySem.W.nsIn K mainGlobals "sorted" = some none)
    (z2 : PySem.W.nsIn K mainGlobals "tuple" = some none)
    (z3 : PySem.W.nsIn K mainGlobals "list" = some none)
    (z4 : PySem.W.nsIn K mainGlobals "dict" = some none)
    (z5 : PySem.W.nsIn K mainGlobals "min" = some none)
    (z6 : PySem.W.nsIn K mainGlobals "max" = some none)
    (z7 : PySem.W.nsIn K mainGlobals "sum" = some none)
    (z8 : PySem.W.nsIn K mainGlobals "any" = some none)
    (z9 : PySem.W.nsIn K mainGlobals "abs" = some none)
    (z10 : PySem.W.nsIn K mainGlobals "int" = some none)
    (z11 : PySem.W.nsIn K mainGlobals "str" = some none)
    (z12 : PySem.W.nsIn K mainGlobals "isinstance" = some none)
    (z13 : PySem.W.nsIn K mainGlobals "bool" = some none)
    (z14 : PySem.W.nsIn K mainGlobals "range" = some none)
    (z15 : PySem.W.nsIn K mainGlobals "set" = some none)
    (plain : evSs (cfN (defs.map Df.fn) 20) lawS lawKo (.non :: .obj :: List.replicate (lawN.length - 2) .non)) :
    ∃ fd : FuncData, (∀ (s : Shared) (v : Value), BindsTo s fd ⟨[v], []⟩ [("script", v)]) ∧ ∀ base : Heap, K.In base → base.Ns mainGlobals mg → FnOk l.prog w K mg base CX0 22 fa fd ["script"] (spLaw K) := by
  have e := hfa.symm.trans (PySem.W.mg_of X G a31)
  cases e
  have F0 := fun_mk (st := top 1) l0 c0 k0
  have b0 := F0.binds (ps := ["things", "k"]) fun _ _ _ _ _ _ us hl => match us, hl with | [_, _], _ => rfl
  have F1 := fun_mk (st := top 3) l1 c1 k1
  have b1 := F1.binds (ps := ["thing", "told"]) fun _ _ _ _ _ _ us hl => match us, hl with | [_, _], _ => rfl
  have F2 := fun_mk (st := top 4) l2 c2 k2
  have b2 := F2.binds (ps := ["things", "told", "most"]) fun _ _ _ _ _ _ us hl => match us, hl with | [_, _, _], _ => rfl
  have F3 := fun_mk (st := top 5) l3 c3 k3
  have b3 := F3.binds (ps := ["things", "told"]) fun _ _ _ _ _ _ us hl => match us, hl with | [_, _], _ => rfl
  have F4 := fun_mk (st := top 6) l4 c4 k4
  have b4 := F4.binds (ps := ["things", "told", "most"]) fun _ _ _ _ _ _ us hl => match us, hl with | [_, _, _], _ => rfl
  have F5 := fun_mk (st := top 7) l5 c5 k5
  have b5 := F5.binds (ps := ["one", "other"]) fun _ _ _ _ _ _ us hl => match us, hl with | [_, _], _ => rfl
  have F6 := fun_mk (st := top 8) l6 c6 k6
  have b6 := F6.binds (ps := ["things"]) fun _ _ _ _ _ _ us hl => match us, hl with | [_], _ => rfl
  have F7 := fun_mk (st := top 9) l7 c7 k7
  have b7 := F7.binds (ps := ["things"]) fun _ _ _ _ _ _ us hl => match us, hl with | [_], _ => rfl
  have F8 := fun_mk (st := top 10) l8 c8 k8
  have b8 := F8.binds (ps := ["things"]) fun _ _ _ _ _ _ us hl => match us, hl with | [_], _ => rfl
  have F9 := fun_mk (st := top 11) l9 c9 k9
  have b9 := F9.binds (ps := ["things", "told"]) fun _ _ _ _ _ _ us hl => match us, hl with | [_, _], _ => rfl
  have F10 := fun_mk (st := top 13) l10 c10 k10
  have b10 := F10.binds (ps := ["had", "missed"]) fun _ _ _ _ _ _ us hl => match us, hl with | [_, _], _ => rfl
  have F11 := fun_mk (st := top 14) l11 c11 k11
  have b11 := F11.binds (ps := ["ride", "span"]) fun _ _ _ _ _ _ us hl => match us, hl with | [_, _], _ => rfl
  have F12 := fun_mk (st := top 15) l12 c12 k12
  have b12 := F12.binds (ps := ["rides", "had", "missed"]) fun _ _ _ _ _ _ us hl => match us, hl with | [_, _, _], _ => rfl
  have F13 := fun_mk (st := top 16) l13 c13 k13
  have b13 := F13.binds (ps := ["rides", "had", "missed"]) fun _ _ _ _ _ _ us hl => match us, hl with | [_, _, _], _ => rfl
  have F14 := fun_mk (st := top 17) l14 c14 k14
  have b14 := F14.binds (ps := ["rides", "line", "minute"]) fun _ _ _ _ _ _ us hl => match us, hl with | [_, _, _], _ => rfl
  have F15 := fun_mk (st := top 18) l15 c15 k15
  have b15 := F15.binds (ps := ["rides", "had", "missed", "line", "minute"]) fun _ _ _ _ _ _ us hl => match us, hl with | [_, _, _, _, _], _ => rfl
  have F16 := fun_mk (st := top 19) l16 c16 k16
  have b16 := F16.binds (ps := ["rides", "had", "missed"]) fun _ _ _ _ _ _ us hl => match us, hl with | [_, _, _], _ => rfl
  have F17 := fun_mk (st := top 20) l17 c17 k17
  have b17 := F17.binds (ps := ["rides", "had", "missed"]) fun _ _ _ _ _ _ us hl => match us, hl with | [_, _, _], _ => rfl
  have F18 := fun_mk (st := top 24) l18 c18 k18
  have b18 := F18.binds (ps := ["w", "rows"]) fun _ _ _ _ _ _ us hl => match us, hl with | [_, _], _ => rfl
  have F19 := fun_mk (st := top 25) l19 c19 k19
  have b19 := F19.binds (ps := ["seen", "due"]) fun _ _ _ _ _ _ us hl => match us, hl with | [_, _], _ => rfl
  have F20 := fun_mk (st := top 26) l20 c20 k20
  have b20 := F20.binds (ps := ["w", "most"]) fun _ _ _ _ _ _ us hl => match us, hl with | [_, _], _ => rfl
  have F21 := fun_mk (st := top 27) l21 c21 k21
  have b21 := F21.binds (ps := ["things"]) fun _ _ _ _ _ _ us hl => match us, hl with | [_], _ => rfl
  have F22 := fun_mk (st := top 28) l22 c22 k22
  have b22 := F22.binds (ps := ["one", "other"]) fun _ _ _ _ _ _ us hl => match us, hl with | [_, _], _ => rfl
  have F23 := fun_mk (st := top 29) l23 c23 k23
  have b23 := F23.binds (ps := ["w", "things"]) fun _ _ _ _ _ _ us hl => match us, hl with | [_, _], _ => rfl
  have F24 := fun_mk (st := top 30) l24 c24 k24
  have b24 := F24.binds (ps := ["things", "names", "gap"]) fun _ _ _ _ _ _ us hl => match us, hl with | [_, _, _], _ => rfl
  have F25 := fun_mk (st := top 31) l25 c25 k25
  have b25 := F25.binds (ps := ["w"]) fun _ _ _ _ _ _ us hl => match us, hl with | [_], _ => rfl
  have F26 := fun_mk (st := top 32) l26 c26 k26
  have b26 := F26.binds (ps := ["rides", "had", "missed"]) fun _ _ _ _ _ _ us hl => match us, hl with | [_, _, _], _ => rfl
  have F27 := fun_mk (st := top 33) l27 c27 k27
  have b27 := F27.binds (ps := ["w", "many", "most"]) fun _ _ _ _ _ _ us hl => match us, hl with | [_, _, _], _ => rfl
  have F28 := fun_mk (st := top 34) l28 c28 k28
  have b28 := F28.binds (ps := ["w"]) fun _ _ _ _ _ _ us hl => match us, hl with | [_], _ => rfl
  have F29 := fun_mk (st := top 22) l29 c29 k29
  have b29 := F29.binds (ps := ["script", "many"]) fun _ _ _ _ _ _ us hl => match us, hl with | [_, _], _ => rfl
  have F30 := fun_mk (st := top 23) l30 c30 k30
  have b30 := F30.binds (ps := ["w", "many"]) fun _ _ _ _ _ _ us hl => match us, hl with | [_, _], _ => rfl
  have F31 := fun_mk (st := top 35) l31 c31 k31
  have b31 := F31.binds (ps := ["script"]) fun _ _ _ _ _ _ us hl => match us, hl with | [_], _ => rfl
  have hb : ∀ x, bs.contains x = true → mg x = none := fun x hx => by
    have : ∀ y ∈ bs, mg y = none := (List.forall_mem_cons.mpr ⟨(PySem.W.mg_none_of X G z0), (List.forall_mem_cons.mpr ⟨(PySem.W.mg_none_of X G z1), (List.forall_mem_cons.mpr ⟨(PySem.W.mg_none_of X G z2), (List.forall_mem_cons.mpr ⟨(PySem.W.mg_none_of X G z3), (List.forall_mem_cons.mpr ⟨(PySem.W.mg_none_of X G z4), (List.forall_mem_cons.mpr ⟨(PySem.W.mg_none_of X G z5), (List.forall_mem_cons.mpr ⟨(PySem.W.mg_none_of X G z6), (List.forall_mem_cons.mpr ⟨(PySem.W.mg_none_of X G z7), (List.forall_mem_cons.mpr ⟨(PySem.W.mg_none_of X G z8), (List.forall_mem_cons.mpr ⟨(PySem.W.mg_none_of X G z9), (List.forall_mem_cons.mpr ⟨(PySem.W.mg_none_of X G z10), (List.forall_mem_cons.mpr ⟨(PySem.W.mg_none_of X G z11), (List.forall_mem_cons.mpr ⟨(PySem.W.mg_none_of X G z12), (List.forall_mem_cons.mpr ⟨(PySem.W.mg_none_of X G z13), (List.forall_mem_cons.mpr ⟨(PySem.W.mg_none_of X G z14), (List.forall_mem_cons.mpr ⟨(PySem.W.mg_none_of X G z15), (fun _ z => by cases z)⟩)⟩)⟩)⟩)⟩)⟩)⟩)⟩)⟩)⟩)⟩)⟩)⟩)⟩)⟩)⟩)
    exact this x (by simpa using hx)
  have at_ : ∀ d ∈ defs, ∃ f fd, At K mg d f fd := (List.forall_mem_cons.mpr ⟨⟨_, _, ⟨F0, PySem.W.mg_of X G a0, b0⟩⟩, (List.forall_mem_cons.mpr ⟨⟨_, _, ⟨F1, PySem.W.mg_of X G a1, b1⟩⟩, (List.forall_mem_cons.mpr ⟨⟨_, _, ⟨F2, PySem.W.mg_of X G a2, b2⟩⟩, (List.forall_mem_cons.mpr ⟨⟨_, _, ⟨F3, PySem.W.mg_of X G a3, b3⟩⟩, (List.forall_mem_cons.mpr ⟨⟨_, _, ⟨F4, PySem.W.mg_of X G a4, b4⟩⟩, (List.forall_mem_cons.mpr ⟨⟨_, _, ⟨F5, PySem.W.mg_of X G a5, b5⟩⟩, (List.forall_mem_cons.mpr ⟨⟨_, _, ⟨F6, PySem.W.mg_of X G a6, b6⟩⟩, (List.forall_mem_cons.mpr ⟨⟨_, _, ⟨F7, PySem.W.mg_of X G a7, b7⟩⟩, (List.forall_mem_cons.mpr ⟨⟨_, _, ⟨F8, PySem.W.mg_of X G a8, b8⟩⟩, (List.forall_mem_cons.mpr ⟨⟨_, _, ⟨F9, PySem.W.mg_of X G a9, b9⟩⟩, (List.forall_mem_cons.mpr ⟨⟨_, _, ⟨F10, PySem.W.mg_of X G a10, b10⟩⟩, (List.forall_mem_cons.mpr ⟨⟨_, _, ⟨F11, PySem.W.mg_of X G a11, b11⟩⟩, (List.forall_mem_cons.mpr ⟨⟨_, _, ⟨F12, PySem.W.mg_of X G a12, b12⟩⟩, (List.forall_mem_cons.mpr ⟨⟨_, _, ⟨F13, PySem.W.mg_of X G a13, b13⟩⟩, (List.forall_mem_cons.mpr ⟨⟨_, _, ⟨F14, PySem.W.mg_of X G a14, b14⟩⟩, (List.forall_mem_cons.mpr ⟨⟨_, _, ⟨F15, PySem.W.mg_of X G a15, b15⟩⟩, (List.forall_mem_cons.mpr ⟨⟨_, _, ⟨F16, PySem.W.mg_of X G a16, b16⟩⟩, (List.forall_mem_cons.mpr ⟨⟨_, _, ⟨F17, PySem.W.mg_of X G a17, b17⟩⟩, (List.forall_mem_cons.mpr ⟨⟨_, _, ⟨F18, PySem.W.mg_of X G a18, b18⟩⟩, (List.forall_mem_cons.mpr ⟨⟨_, _, ⟨F19, PySem.W.mg_of X G a19, b19⟩⟩, (List.forall_mem_cons.mpr ⟨⟨_, _, ⟨F20, PySem.W.mg_of X G a20, b20⟩⟩, (List.forall_mem_cons.mpr ⟨⟨_, _, ⟨F21, PySem.W.mg_of X G a21, b21⟩⟩, (List.forall_mem_cons.mpr ⟨⟨_, _, ⟨F22, PySem.W.mg_of X G a22, b22⟩⟩, (List.forall_mem_cons.mpr ⟨⟨_, _, ⟨F23, PySem.W.mg_of X G a23, b23⟩⟩, (List.forall_mem_cons.mpr ⟨⟨_, _, ⟨F24, PySem.W.mg_of X G a24, b24⟩⟩, (List.forall_mem_cons.mpr ⟨⟨_, _, ⟨F25, PySem.W.mg_of X G a25, b25⟩⟩, (List.forall_mem_cons.mpr ⟨⟨_, _, ⟨F26, PySem.W.mg_of X G a26, b26⟩⟩, (List.forall_mem_cons.mpr ⟨⟨_, _, ⟨F27, PySem.W.mg_of X G a27, b27⟩⟩, (List.forall_mem_cons.mpr ⟨⟨_, _, ⟨F28, PySem.W.mg_of X G a28, b28⟩⟩, (fun _ z => by cases z)⟩)⟩)⟩)⟩)⟩)⟩)⟩)⟩)⟩)⟩)⟩)⟩)⟩)⟩)⟩)⟩)⟩)⟩)⟩)⟩)⟩)⟩)⟩)⟩)⟩)⟩)⟩)⟩)⟩)
  have lenN : mg "len" = none := hb "len" (by decide +kernel)
  have intN : mg "int" = none := hb "int" (by decide +kernel)
  exact ⟨PySem.W.fnOf "law" "law" (defArgs (top 35)) (defBody (top 35)) (defScope (top 35)) .none kV31 dc31 pm31 an31 cd31 ct31, fun s v => .of_eq rfl, fun base _ _ =>
    ok_law (defs := defs) (bs := bs) (N := lawN) (n := 400) (k := 20) (rest := (defBody (top 35)).drop 1) (restS := lawS) F31 chkF rfl chkV chkW chkG (by decide) (by decide) (by decide) chkL (ok_draws F29 chkDraws hb) (PySem.W.mg_of X G a29) F29.kp b29 at_ chk hb
      (ok_next F30 chkN rfl chkN1 chkN2 lenN intN) (PySem.W.mg_of X G a30) F30.kp b30 plain⟩
theorem walk {l : PySem.W.OpenLaw} {q : Program} {loose : List Str} {XP : (Str → Option Value) → Heap → Prop} {YP : World → Heap → Prop} {d : DefRec} {K : Params → PySem.W.Frag} (hn : l.most = some 63) (hdf : d.params.defaults = [])
    (hY : ∀ (w : World) (h : Heap), YP w h → (K w.params).In h)
    (F : ∀ (w : World) (mg : Str → Option Value) (fa : Addr) (h : Heap), (K w.params).In h → h.Ns mainGlobals mg → mg d.name = some (.ref fa) →
      ∃ fd : FuncData, (∀ (s : Shared) (u : Value), BindsTo s fd ⟨[u], []⟩ [("script", u)]) ∧ ∀ base : Heap, (K w.params).In base → base.Ns mainGlobals mg → FnOk l.prog w (K w.params) mg base CX0 22 fa fd ["script"] (spLaw (K w.params))) :
    PySem.W.WalkO q loose XP YP l.row.toRowW d [] (fun f vs => PySem.call f vs) :=
  L2.walk_of (n := 63) (k := 22) (x := "script") (CX := fun _ => CX0) (sp := fun w => spLaw (K w.params)) hn (by decide) hdf ⟨rfl, by decide, by decide⟩ hY F (fun _ _ a ns hl _ hS => ⟨a, ns, rfl, hS, hl, fun _ => rfl⟩) fun _ _ _ _ _ z => z
end K02

set_option maxRecDepth 100000
set_option maxHeartbeats 4000000
namespace K02
open PySem Ly
theorem plain : evSs (cfN (defs.map Df.fn) 20) lawS lawKo (.non :: .obj :: List.replicate (lawN.length - 2) .non) := plainT (κ := lawKo) rfl
end K02
open PySem PySem.W PyProof.Rows in
set_option maxRecDepth 100000 in
set_option maxHeartbeats 0 in
theorem PySem.Challenge.cw_lostclaimed_k02_misremembered_and_lost_holds : PySem.Challenge.rw_lostclaimed_k02_misremembered_and_lost.Holds := by
  w_on; o_law; k_head; (case hw => w_witness2)
  k_fill
  refine K02.walk (l := PySem.Challenge.rw_lostclaimed_k02_misremembered_and_lost) rfl rfl (fun w h Y => PySem.W.kIn_of Y) ?F
  case F =>
    intro w mg fa h KX G hmg
    refine' K02.all_mk KX G hmg ?a0 ?l0 ?c0 ?k0 ?a1 ?l1 ?c1 ?k1 ?a2 ?l2 ?c2 ?k2 ?a3 ?l3 ?c3 ?k3 ?a4 ?l4 ?c4 ?k4 ?a5 ?l5 ?c5 ?k5 ?a6 ?l6 ?c6 ?k6 ?a7 ?l7 ?c7 ?k7 ?a8 ?l8 ?c8 ?k8 ?a9 ?l9 ?c9 ?k9 ?a10 ?l10 ?c10 ?k10 ?a11 ?l11 ?c11 ?k11 ?a12 ?l12 ?c12 ?k12 ?a13 ?l13 ?c13 ?k13 ?a14 ?l14 ?c14 ?k14 ?a15 ?l15 ?c15 ?k15 ?a16 ?l16 ?c16 ?k16 ?a17 ?l17 ?c17 ?k17 ?a18 ?l18 ?c18 ?k18 ?a19 ?l19 ?c19 ?k19 ?a20 ?l20 ?c20 ?k20 ?a21 ?l21 ?c21 ?k21 ?a22 ?l22 ?c22 ?k22 ?a23 ?l23 ?c23 ?k23 ?a24 ?l24 ?c24 ?k24 ?a25 ?l25 ?c25 ?k25 ?a26 ?l26 ?c26 ?k26 ?a27 ?l27 ?c27 ?k27 ?a28 ?l28 ?c28 ?k28 ?a29 ?l29 ?c29 ?k29 ?a30 ?l30 ?c30 ?k30 ?a31 ?l31 ?c31 ?k31 ?z0 ?z1 ?z2 ?z3 ?z4 ?z5 ?z6 ?z7 ?z8 ?z9 ?z10 ?z11 ?z12 ?z13 ?z14 ?z15 K02.plain
    (case a0 => k_is)
    (case l0 => k_is)
    (case c0 => k_is)
    (case k0 => k_is)
    (case a1 => k_is)
    (case l1 => k_is)
    (case c1 => k_is)
    (case k1 => k_is)
    (case a2 => k_is)
    (case l2 => k_is)
    (case c2 => k_is)
    (case k2 => k_is)
    (case a3 => k_is)
    (case l3 => k_is)
    (case c3 => k_is)
    (case k3 => k_is)
    (case a4 => k_is)
    (case l4 => k_is)
    (case c4 => k_is)
    (case k4 => k_is)
    (case a5 => k_is)
    (case l5 => k_is)
    (case c5 => k_is)
    (case k5 => k_is)
    (case a6 => k_is)
    (case l6 => k_is)
    (case c6 => k_is)
    (case k6 => k_is)
    (case a7 => k_is)
    (case l7 => k_is)
    (case c7 => k_is)
    (case k7 => k_is)
    (case a8 => k_is)
    (case l8 => k_is)
    (case c8 => k_is)
    (case k8 => k_is)
    (case a9 => k_is)
    (case l9 => k_is)
    (case c9 => k_is)
    (case k9 => k_is)
    (case a10 => k_is)
    (case l10 => k_is)
    (case c10 => k_is)
    (case k10 => k_is)
    (case a11 => k_is)
    (case l11 => k_is)
    (case c11 => k_is)
    (case k11 => k_is)
    (case a12 => k_is)
    (case l12 => k_is)
    (case c12 => k_is)
    (case k12 => k_is)
    (case a13 => k_is)
    (case l13 => k_is)
    (case c13 => k_is)
    (case k13 => k_is)
    (case a14 => k_is)
    (case l14 => k_is)
    (case c14 => k_is)
    (case k14 => k_is)
    (case a15 => k_is)
    (case l15 => k_is)
    (case c15 => k_is)
    (case k15 => k_is)
    (case a16 => k_is)
    (case l16 => k_is)
    (case c16 => k_is)
    (case k16 => k_is)
    (case a17 => k_is)
    (case l17 => k_is)
    (case c17 => k_is)
    (case k17 => k_is)
    (case a18 => k_is)
    (case l18 => k_is)
    (case c18 => k_is)
    (case k18 => k_is)
    (case a19 => k_is)
    (case l19 => k_is)
    (case c19 => k_is)
    (case k19 => k_is)
    (case a20 => k_is)
    (case l20 => k_is)
    (case c20 => k_is)
    (case k20 => k_is)
    (case a21 => k_is)
    (case l21 => k_is)
    (case c21 => k_is)
    (case k21 => k_is)
    (case a22 => k_is)
    (case l22 => k_is)
    (case c22 => k_is)
    (case k22 => k_is)
    (case a23 => k_is)
    (case l23 => k_is)
    (case c23 => k_is)
    (case k23 => k_is)
    (case a24 => k_is)
    (case l24 => k_is)
    (case c24 => k_is)
    (case k24 => k_is)
    (case a25 => k_is)
    (case l25 => k_is)
    (case c25 => k_is)
    (case k25 => k_is)
    (case a26 => k_is)
    (case l26 => k_is)
    (case c26 => k_is)
    (case k26 => k_is)
    (case a27 => k_is)
    (case l27 => k_is)
    (case c27 => k_is)
    (case k27 => k_is)
    (case a28 => k_is)
    (case l28 => k_is)
    (case c28 => k_is)
    (case k28 => k_is)
    (case a29 => k_is)
    (case l29 => k_is)
    (case c29 => k_is)
    (case k29 => k_is)
    (case a30 => k_is)
    (case l30 => k_is)
    (case c30 => k_is)
    (case k30 => k_is)
    (case a31 => k_is)
    (case l31 => k_is)
    (case c31 => k_is)
    (case k31 => k_is)
    (case z0 => k_is)
    (case z1 => k_is)
    (case z2 => k_is)
    (case z3 => k_is)
    (case z4 => k_is)
    (case z5 => k_is)
    (case z6 => k_is)
    (case z7 => k_is)
    (case z8 => k_is)
    (case z9 => k_is)
    (case z10 => k_is)
    (case z11 => k_is)
    (case z12 => k_is)
    (case z13 => k_is)
    (case z14 => k_is)
    (case z15 => k_is)
