import PyProof.Rows.All
import Wide.All
import OpenK.AllK
import Wide.FinOn
import HandS.ForMost
import HandS.TupAny
import HandS.TupLen
import HandS.SortInts
import HandS.More
import HandS.Flow
import HandS.Deep
import HandS.IsInst
import HandS.Conv
import HandS.Zip
import HandS.Walk
import KE.SortData
import KE.DataCmp
import KE.DataMinMax
import KE.DataAny
import KE.DataFind
import KE.DatumIndex
import KE.DataIsa
import KE.GoesMore
import HandS.Small
import HandS.Words
import PySem.Challenge.RW_stoneward_k88_whole_wells_dug_by_turns
import HandS.Text
set_option Elab.async false
set_option linter.all false
set_option maxRecDepth 100000
set_option maxHeartbeats 4000000
/-! CoreA: plain data, a small core language over them, its evaluator. Own work. -/
namespace PC
open PySem

abbrev D := PyData
abbrev Env := List (Option D)
/-- the longest list, tuple, text -/
def SL : Nat := 16777216

/-! ### operations on data -/
def truthy : D → Option Bool
  | .none => some false
  | .bool b => some b
  | .int i => some (i != 0)
  | .str s => some (s.length != 0)
  | .list xs => some (!xs.isEmpty)
  | .tuple xs => some (!xs.isEmpty)
  | .dict _ => none

/-- depth at most n, no dict within -/
def dle : Nat → D → Bool
  | _, .none => true
  | _, .bool _ => true
  | _, .int _ => true
  | _, .str _ => true
  | 0, _ => false
  | n + 1, .list xs => xs.all (dle n)
  | n + 1, .tuple xs => xs.all (dle n)
  | _ + 1, .dict _ => false

def small64 (i : Int) : Bool := decide (-(2 ^ 64) < i) && decide (i < 2 ^ 64)
def small62 (i : Int) : Bool := decide (-(2 ^ 62) ≤ i) && decide (i < 2 ^ 62)

def repD {α : Type} (k : Int) (xs : List α) : List α := (List.replicate k.toNat xs).flatten

def addD : D → D → Option D
  | .int i, .int j => some (.int (i + j))
  | .str x, .str y => if x.length + y.length ≤ SL then some (.str (x ++ y)) else none
  | .list xs, .list ys => if xs.length + ys.length ≤ SL then some (.list (xs ++ ys)) else none
  | .tuple xs, .tuple ys => if xs.length + ys.length ≤ SL then some (.tuple (xs ++ ys)) else none
  | _, _ => none
def mulD : D → D → Option D
  | .int i, .int j => if small64 i || small64 j then some (.int (i * j)) else none
  | _, _ => none
/-- [..] * k -/
def mulL : D → D → Option D
  | .list xs, .int k => if small62 k && decide (xs.length * k.toNat ≤ SL) then some (.list (repD k xs)) else none
  | _, _ => none
def binD : Operator → D → D → Option D
  | .Add, a, b => addD a b
  | .Sub, .int i, .int j => some (.int (i - j))
  | .Mult, a, b => mulD a b
  | .FloorDiv, .int i, .int j => if 0 < j ∧ j < 1073741824 then some (.int (i / j)) else none
  | .Mod, .int i, .int j => if 0 < j then some (.int (i % j)) else none
  | .Pow, .int i, .int j => if 0 ≤ j ∧ j ≤ 1000000 ∧ i.natAbs < 2 ^ 64 then some (.int (i ^ j.toNat)) else none
  | .BitXor, .int i, .int j => some (.int (Builtin.bitXor i j))
  | _, _, _ => none

/-- == -/
def eqD (a b : D) : Option Bool := if dle 60 a && dle 60 b then some (PyData.eqv a b) else none
def notNone : D → Bool
  | .none => false
  | _ => true
/-- the two may be compared by order -/
def ordOk (a b : D) : Bool := W.alike a b && notNone a && (dle 60 a && dle 60 b)
/-- the value at a key -/
def getK (kvs : List (D × D)) (k : D) : Option D := (kvs.find? fun kv => PyData.eqv kv.1 k).map (·.2)
def putK (kvs : List (D × D)) (k v : D) : List (D × D) :=
  if (kvs.any fun kv => PyData.eqv kv.1 k) = true then kvs.map (fun kv => if PyData.eqv kv.1 k then (kv.1, v) else kv) else kvs ++ [(k, v)]
def flatK : D → Bool
  | .int _ => true
  | .str _ => true
  | _ => false
/-- what may be a key: a number, a text, or a tuple of such -/
def keyK : D → Bool
  | .int _ => true
  | .str _ => true
  | .tuple ks => ks.all flatK
  | _ => false
def isTupD : D → Bool
  | .tuple _ => true
  | _ => false
/-- the keys of a dict are of one kind: tuples or none -/
def kindK (kvs : List (D × D)) (k : D) : Bool := kvs.all fun kv => isTupD kv.1 == isTupD k
def inD (x c : D) : Option Bool :=
  match c with
  | .list ys => if dle 60 x && ys.all (dle 60) then some (ys.any fun y => PyData.eqv y x) else none
  | .tuple ys => if dle 60 x && ys.all (dle 60) then some (ys.any fun y => PyData.eqv y x) else none
  | .dict kvs => if keyK x && kindK kvs x then some (getK kvs x).isSome else none
  | .str y => match x with
    | .str z => some (!(Builtin.Str.occurrences y z 0 y.length 1).isEmpty)
    | _ => none
  | _ => none
def cmpD : CmpOp → D → D → Option Bool
  | .Eq, a, b => eqD a b
  | .NotEq, a, b => (eqD a b).map (!·)
  | .Lt, a, b => if ordOk a b then some (W.dataLt a b) else none
  | .LtE, a, b => if ordOk a b then some (!W.dataLt b a) else none
  | .Gt, a, b => if ordOk a b then some (W.dataLt b a) else none
  | .GtE, a, b => if ordOk a b then some (!W.dataLt a b) else none
  | .In, a, b => inD a b
  | .NotIn, a, b => (inD a b).map (!·)
  | _, _, _ => none

/-- the item at i, counted from the end if negative -/
def nth {α : Type} (xs : List α) (i : Int) : Option α :=
  if 0 ≤ i then (if i < xs.length then xs[i.toNat]? else none) else if -(xs.length : Int) ≤ i then xs[(i + xs.length).toNat]? else none
/-- the place of i, for a store -/
def nthN (n : Nat) (i : Int) : Option Nat := if 0 ≤ i then (if i < n then some i.toNat else none) else if -(n : Int) ≤ i then some (i + n).toNat else none
def ixD : D → D → Option D
  | .list xs, .int i => nth xs i
  | .tuple xs, .int i => nth xs i
  | .str s, .int i => (nth s.cps.toList i).map fun c => .str ⟨#[c]⟩
  | .dict kvs, k => if keyK k && kindK kvs k then getK kvs k else none
  | _, _ => none
/-- a slice's bound within 0 .. n -/
def clip (n : Nat) (i : Int) : Nat := if i < 0 then (i + n).toNat else min i.toNat n
def cutL {α : Type} (xs : List α) (lo hi : Option Int) : List α :=
  let a := match lo with
    | none => 0
    | some i => clip xs.length i
  let b := match hi with
    | none => xs.length
    | some i => clip xs.length i
  (xs.drop a).take (b - a)
def sliceD : D → Option Int → Option Int → Option D
  | .list xs, lo, hi => some (.list (cutL xs lo hi))
  | .tuple xs, lo, hi => some (.tuple (cutL xs lo hi))
  | .str s, lo, hi => some (.str ⟨(cutL s.cps.toList lo hi).toArray⟩)
  | _, _, _ => none
def revD : D → Option D
  | .list xs => some (.list xs.reverse)
  | .tuple xs => some (.tuple xs.reverse)
  | .str s => some (.str ⟨s.cps.toList.reverse.toArray⟩)
  | _ => none
/-- what a loop walks -/
def itemsD : D → Option (List D)
  | .list xs => some xs
  | .tuple xs => some xs
  | .str s => some (s.cps.toList.map fun c => .str ⟨#[c]⟩)
  | _ => none
def lenD : D → Option Nat
  | .list xs => some xs.length
  | .tuple xs => some xs.length
  | .str s => some s.length
  | .dict kvs => some kvs.length
  | _ => none

def intsD : List D → Option (List Int)
  | [] => some []
  | .int i :: r => (intsD r).map (i :: ·)
  | _ => none
def boolsD : List D → Option (List Bool)
  | [] => some []
  | .bool b :: r => (boolsD r).map (b :: ·)
  | _ => none
/-- sorted: data of one kind, all alike -/
def sortable (xs : List D) : Bool := (xs.all fun d => match d with
  | .tuple (_ :: _) => true
  | _ => false) || (xs.all fun d => match d with
  | .none => false
  | .tuple _ => false
  | _ => true)
def allAlike (xs : List D) : Bool := xs.all fun x => xs.all fun y => W.alike x y
def leD (a b : D) : Bool := !W.dataLt b a
def sortD (xs : List D) : List D := xs.mergeSort leD
/-- the first least item -/
def minD : List D → Option D
  | [] => none
  | x :: xs => some (W.minD x xs)
def maxD : List D → Option D
  | [] => none
  | x :: xs => some (W.maxD x xs)
/-- data of which a least is asked -/
def minOk (xs : List D) : Bool := allAlike xs && xs.all notNone && xs.all (dle 60)

/-! ### the core language -/
inductive Ty where
  | int | bool | str | tuple | list
  deriving DecidableEq
/-- built-ins that are called with values -/
inductive Bi where
  | len | int | abs | sum | all | any | sorted | list | tuple | min | max | min2 | max2
  deriving DecidableEq
/-- a target: a name, names -/
inductive T where
  | n (i : Nat)
  | nil
  | cons (a b : T)
inductive C where
  | var (i : Nat)
  | bor (i : Nat)
  | int (i : Int)
  | bl (b : Bool)
  | non
  | str (s : Str)
  | bin (o : Operator) (a b : C)
  | rpt (as b : C)
  | neg (a : C)
  | nt (a : C)
  | isn (a : C)
  | isnn (a : C)
  | cmp (o : CmpOp) (a b : C)
  | chain (o p : CmpOp) (a b c : C)
  | bop (o : BoolOp) (as : C)
  | ite (c a b : C)
  | call (f : Nat) (as : C)
  | callb (f : Nat) (as : C)
  | bi (b : Bi) (as : C)
  | isi (a : C) (t : Ty)
  | ix (a b : C)
  | sl (a lo hi : C)
  | tup (as : C)
  | lst (as : C)
  | dic0
  | lc (tg : T) (it cond elt : C) (vs : List Nat)
  | yes
  | nil
  | cons (a b : C)
  | it (a : C)
  | rng1 (a : C)
  | rng2 (a b : C)
  | enm (a : C)
inductive S where
  | nil
  | cons (a b : S)
  | pass
  | asg (t : T) (e : C)
  | put (i : Nat) (k v : C)
  | aug (i : Nat) (o : Operator) (e : C)
  | app (i : Nat) (e : C)
  | ret (e : C)
  | ifs (c : C) (a b : S)
  | forr (t : T) (it : C) (body : S) (l : List Nat)
  | whil (c : C) (body : S) (l : List Nat)
  | brk
  | cnt
  | frz (i : Nat)
  | augs (i : Nat) (k : C) (o : Operator) (e : C)
  | ext (i : Nat) (e : C)

/-! ### its meaning -/
/-- no address in it -/
def isFlat : D → Bool
  | .none => true
  | .bool _ => true
  | .int _ => true
  | .str _ => true
  | _ => false
def isInt : D → Bool
  | .int _ => true
  | _ => false
def biD : Bi → List D → Option D
  | .len, [d] => (lenD d).map fun n => .int n
  | .int, [.int i] => some (.int i)
  | .abs, [.int i] => some (.int (if i < 0 then -i else i))
  | .sum, [.list xs] => (intsD xs).map fun ns => .int ns.sum
  | .all, [.list xs] => (boolsD xs).map fun bs => .bool (bs.all id)
  | .any, [.list xs] => (boolsD xs).map fun bs => .bool (bs.any id)
  | .sorted, [.list xs] => if allAlike xs && sortable xs && xs.all (dle 60) then some (.list (sortD xs)) else none
  | .sorted, [.dict kvs] => if kvs.all (fun kv => isInt kv.1) && decide (kvs.length < 64) then some (.list (sortD (kvs.map (·.1)))) else none
  | .list, [.list xs] => some (.list xs)
  | .list, [.tuple xs] => some (.list xs)
  | .tuple, [.list xs] => some (.tuple xs)
  | .tuple, [.tuple xs] => some (.tuple xs)
  | .min, [.list xs] => if minOk xs then minD xs else none
  | .max, [.list xs] => if minOk xs then maxD xs else none
  | .min, [.tuple xs] => if minOk xs then minD xs else none
  | .max, [.tuple xs] => if minOk xs then maxD xs else none
  | .min2, [.int i, .int j] => some (.int (if j < i then j else i))
  | .max2, [.int i, .int j] => some (.int (if j > i then j else i))
  | _, _ => none
def isiD : D → Ty → Bool
  | .int _, .int => true
  | .bool _, .int => true
  | .bool _, .bool => true
  | .str _, .str => true
  | .tuple _, .tuple => true
  | .list _, .list => true
  | _, _ => false
def getE (ρ : Env) (i : Nat) : Option D := (ρ[i]?).join
def wipeE (ρ : Env) : List Nat → Env
  | [] => ρ
  | v :: vs => (wipeE ρ vs).set v none
mutual
/-- store at a target -/
def bindT : T → D → Env → Option Env
  | .n i, d, ρ => some (ρ.set i (some d))
  | .nil, .tuple [], ρ => some ρ
  | .cons a b, .tuple xs, ρ => bindTs (.cons a b) xs ρ
  | _, _, _ => none
def bindTs : T → List D → Env → Option Env
  | .nil, [], ρ => some ρ
  | .cons a b, x :: xs, ρ => (bindT a x ρ).bind (bindTs b xs)
  | _, _, _ => none
end
/-- a comprehension's items -/
def compL (f : D → Option (Option D)) : List D → Option (List D)
  | [] => some []
  | x :: xs => match f x with
    | none => none
    | some none => compL f xs
    | some (some y) => (compL f xs).map (y :: ·)
def rangeL (a b : Int) : List D := (List.range (b - a).toNat).map fun i => .int (a + (i : Nat))
def enumL (xs : List D) : List D := (List.range xs.length).zipWith (fun i x => .tuple [.int (i : Nat), x]) xs
def optI : Option D → Option (Option Int)
  | some (.int i) => some (some i)
  | _ => none
section
variable (Φ : Nat → List D → Option D)
mutual
def ev : C → Env → Option D
  | .var i, ρ => getE ρ i
  | .bor i, ρ => getE ρ i
  | .int i, _ => some (.int i)
  | .bl b, _ => some (.bool b)
  | .non, _ => some .none
  | .str s, _ => some (.str s)
  | .bin o a b, ρ => (ev a ρ).bind fun x => (ev b ρ).bind fun y => binD o x y
  | .rpt as b, ρ => (evs as ρ).bind fun xs => (ev b ρ).bind fun y => if xs.length ≤ SL then mulL (.list xs) y else none
  | .neg a, ρ => (ev a ρ).bind fun x => match x with
    | .int i => some (.int (-i))
    | _ => none
  | .nt a, ρ => (ev a ρ).bind fun x => (truthy x).map fun k => .bool (!k)
  | .isn a, ρ => (ev a ρ).map fun x => match x with
    | .none => .bool true
    | _ => .bool false
  | .isnn a, ρ => (ev a ρ).map fun x => match x with
    | .none => .bool false
    | _ => .bool true
  | .cmp o a b, ρ => (ev a ρ).bind fun x => (ev b ρ).bind fun y => (cmpD o x y).map .bool
  | .chain o p a b c, ρ => (ev a ρ).bind fun x => (ev b ρ).bind fun y => (cmpD o x y).bind fun k =>
      if k = true then (ev c ρ).bind fun z => (cmpD p y z).map .bool else some (.bool false)
  | .bop o as, ρ => evb o as ρ
  | .ite c a b, ρ => (ev c ρ).bind fun x => (truthy x).bind fun k => if k = true then ev a ρ else ev b ρ
  | .call f as, ρ => (evs as ρ).bind (Φ f)
  | .callb f as, ρ => (evs as ρ).bind fun xs => (Φ f xs).bind fun d => if isFlat d = true then some d else none
  | .bi b as, ρ => (evs as ρ).bind (biD b)
  | .isi a t, ρ => (ev a ρ).map fun x => .bool (isiD x t)
  | .ix a b, ρ => (ev a ρ).bind fun x => (ev b ρ).bind fun y => ixD x y
  | .sl a lo hi, ρ => (ev a ρ).bind fun x => (evo lo ρ).bind fun l => (evo hi ρ).bind fun h => sliceD x l h
  | .tup as, ρ => (evs as ρ).bind fun xs => if xs.length ≤ SL then some (.tuple xs) else none
  | .lst as, ρ => (evs as ρ).bind fun xs => if xs.length ≤ SL then some (.list xs) else none
  | .dic0, _ => some (.dict [])
  | .lc tg it cond elt vs, ρ => (evs it ρ).bind fun xs => if xs.length ≤ SL then
      (compL (fun x => (bindT tg x (wipeE ρ vs)).bind fun ρ1 => (ev cond ρ1).bind fun c => (truthy c).bind fun k => if k = true then (ev elt ρ1).map some else some none) xs).map .list else none
  | .yes, _ => some (.bool true)
  | _, _ => none
/-- arguments, the items of a loop -/
def evs : C → Env → Option (List D)
  | .nil, _ => some []
  | .cons a b, ρ => (ev a ρ).bind fun x => (evs b ρ).map (x :: ·)
  | .it a, ρ => (ev a ρ).bind itemsD
  | .rng1 a, ρ => (ev a ρ).bind fun x => match x with
    | .int n => if small62 n then some (rangeL 0 n) else none
    | _ => none
  | .rng2 a b, ρ => (ev a ρ).bind fun x => (ev b ρ).bind fun y => match x, y with
    | .int m, .int n => if small62 m && small62 n then some (rangeL m n) else none
    | _, _ => none
  | .enm a, ρ => (ev a ρ).bind fun x => match x with
    | .list xs => some (enumL xs)
    | .tuple xs => some (enumL xs)
    | _ => none
  | _, _ => none
/-- and, or -/
def evb : BoolOp → C → Env → Option D
  | _, .cons a .nil, ρ => ev a ρ
  | o, .cons a b, ρ => (ev a ρ).bind fun x => (truthy x).bind fun k => match o with
    | .And => if k = true then evb o b ρ else some x
    | .Or => if k = true then some x else evb o b ρ
  | _, _, _ => none
/-- a bound of a slice -/
def evo : C → Env → Option (Option Int)
  | .nil, _ => some none
  | .cons a _, ρ => optI (ev a ρ)
  | _, _ => none
end
inductive Fl where
  | nx (ρ : Env)
  | rt (d : D)
  | bk (ρ : Env)
  | ct (ρ : Env)
/-- a loop over items -/
def forL (f : D → Env → Option Fl) : List D → Env → Option Fl
  | [], ρ => some (.nx ρ)
  | x :: xs, ρ => match f x ρ with
    | some (.nx ρ') => forL f xs ρ'
    | some (.ct ρ') => forL f xs ρ'
    | some (.bk ρ') => some (.nx ρ')
    | r => r
/-- a while, so many turns at most -/
def whileL (c : Env → Option Bool) (f : Env → Option Fl) : Nat → Env → Option Fl
  | 0, _ => none
  | n + 1, ρ => match c ρ with
    | none => none
    | some false => some (.nx ρ)
    | some true => match f ρ with
      | some (.nx ρ') => whileL c f n ρ'
      | some (.ct ρ') => whileL c f n ρ'
      | some (.bk ρ') => some (.nx ρ')
      | r => r
def putD : D → D → D → Option D
  | .list xs, .int i, v => (nthN xs.length i).map fun j => .list (xs.set j v)
  | .dict kvs, k, v => if keyK k && kindK kvs k && decide (kvs.length < SL) then some (.dict (putK kvs k v)) else none
  | _, _, _ => none
variable (W : Nat)
def exec : S → Env → Option Fl
  | .nil, ρ => some (.nx ρ)
  | .cons a b, ρ => match exec a ρ with
    | some (.nx ρ') => exec b ρ'
    | r => r
  | .pass, ρ => some (.nx ρ)
  | .asg t e, ρ => (ev Φ e ρ).bind fun d => (bindT t d ρ).map .nx
  | .put i k v, ρ => (ev Φ v ρ).bind fun y => (getE ρ i).bind fun o => (ev Φ k ρ).bind fun x => (putD o x y).map fun o' => .nx (ρ.set i (some o'))
  | .aug i o e, ρ => (getE ρ i).bind fun x => (ev Φ e ρ).bind fun y => match x, y with
    | .int _, .int _ => (binD o x y).map fun z => .nx (ρ.set i (some z))
    | _, _ => none
  | .app i e, ρ => (ev Φ e ρ).bind fun y => (getE ρ i).bind fun o => match o with
    | .list xs => if xs.length < SL then some (.nx (ρ.set i (some (.list (xs ++ [y]))))) else none
    | _ => none
  | .augs i k o e, ρ => (getE ρ i).bind fun c => (ev Φ k ρ).bind fun x => (ixD c x).bind fun u => (ev Φ e ρ).bind fun y => match u, y with
    | .int _, .int _ => (binD o u y).bind fun z => (putD c x z).map fun c' => .nx (ρ.set i (some c'))
    | _, _ => none
  | .ext i e, ρ => (ev Φ e ρ).bind fun y => (getE ρ i).bind fun o => match o, y with
    | .list xs, .list ys => if xs.length + ys.length ≤ SL then some (.nx (ρ.set i (some (.list (xs ++ ys))))) else none
    | _, _ => none
  | .ret e, ρ => (ev Φ e ρ).map .rt
  | .ifs c a b, ρ => (ev Φ c ρ).bind fun x => (truthy x).bind fun k => if k = true then exec a ρ else exec b ρ
  | .forr t it body _, ρ => (evs Φ it ρ).bind fun xs => forL (fun x ρ => (bindT t x ρ).bind (exec body)) xs ρ
  | .whil c body _, ρ => whileL (fun ρ => (ev Φ c ρ).bind truthy) (exec body) W ρ
  | .brk, ρ => some (.bk ρ)
  | .cnt, ρ => some (.ct ρ)
  | .frz _, ρ => some (.nx ρ)
end
/-- a def: its parameters, its slots, its body -/
structure Df where
  np : Nat
  ns : Nat
  body : S
def runDf (Φ : Nat → List D → Option D) (W : Nat) (d : Df) (as : List D) : Option D :=
  if as.length = d.np then
    match exec Φ W d.body (as.map some ++ List.replicate (d.ns - d.np) none) with
    | some (.rt v) => some v
    | some (.nx _) => some .none
    | _ => none
  else none
/-- the program's defs, so many calls deep -/
def run (P : List Df) (W : Nat) : Nat → Nat → List D → Option D
  | 0, _, _ => none
  | n + 1, i, as => match P[i]? with
    | none => none
    | some d => runDf (run P W n) W d as
end PC

namespace PC
open PySem PySem.Spec PyProof.Rows L2

def keyD : Key → D
  | .inl i => .int i
  | .inr x => .str x
def keyT (ks : List Key) : D := .tuple (ks.map keyD)
/-- what stands at a dict's address -/
def DKind (u : HO) (kvs : List (D × V)) : Prop :=
  (∃ l : List (Key × V), u = .dK l ∧ kvs = l.map fun p => (keyD p.1, p.2)) ∨ ∃ l : List (List Key × V), u = .dT l ∧ kvs = l.map fun p => (keyT p.1, p.2)
/-- the heap goes on: what stood and is not in M stands; tables may grow -/
structure Evo (M : Addr → Prop) (H H' : Hp) : Prop where
  keep : ∀ a o, H a = some o → ¬ M a → (∀ ps, o ≠ .tbl ps) → H' a = some o
  tab : ∀ a ps, H a = some (.tbl ps) → ∃ qs, H' a = some (.tbl qs) ∧ (TriplesOk ps.toList → TriplesOk qs.toList)
def noA : Addr → Prop := fun _ => False
abbrev Ext : Hp → Hp → Prop := Evo noA
abbrev KLs (K : PySem.W.Frag) (a : Addr) (xs : List V) : Prop := SqL K (fun _ => none) a xs
def LsO (K : PySem.W.Frag) (H : Hp) (O : Addr → Prop) (a : Addr) (xs : List V) : Prop := (Rd H a (.lst xs) ∧ ¬ O a) ∨ KLs K a xs
def TpO (H : Hp) (O : Addr → Prop) (a : Addr) (xs : List V) : Prop := H a = some (.tup xs) ∧ ¬ O a
mutual
/-- v stands for d in the heap H, by objects that are not in O -/
inductive Rep (K : PySem.W.Frag) (H : Hp) (O : Addr → Prop) : V → D → Prop
  | non : Rep K H O .non .none
  | bl (b : Bool) : Rep K H O (.bl b) (.bool b)
  | int (i : Int) : Rep K H O (.int i) (.int i)
  | str {x : Str} : PyData.strOk x = true → x.length ≤ SL → Rep K H O (.str x) (.str x)
  | lst {a : Addr} {xs : List V} {ds : List D} : LsO K H O a xs → RepL K H O xs ds → Rep K H O (.ref a) (.list ds)
  | tup {a : Addr} {xs : List V} {ds : List D} : TpO H O a xs → RepL K H O xs ds → Rep K H O (.ref a) (.tuple ds)
  | dic {a : Addr} {u : HO} {kvs : List (D × V)} {ds : List (D × D)} : H a = some u → ¬ O a → DKind u kvs → RepP K H O kvs ds → Rep K H O (.ref a) (.dict ds)
inductive RepL (K : PySem.W.Frag) (H : Hp) (O : Addr → Prop) : List V → List D → Prop
  | nil : RepL K H O [] []
  | cons {v : V} {vs : List V} {d : D} {ds : List D} : Rep K H O v d → RepL K H O vs ds → RepL K H O (v :: vs) (d :: ds)
inductive RepP (K : PySem.W.Frag) (H : Hp) (O : Addr → Prop) : List (D × V) → List (D × D) → Prop
  | nil : RepP K H O [] []
  | cons {k : D} {v : V} {vs : List (D × V)} {d : D} {ds : List (D × D)} : Rep K H O v d → RepP K H O vs ds → RepP K H O ((k, v) :: vs) ((k, d) :: ds)
end

theorem sl_line : SL = sizeLine := sizeLine_eq.symm

section
variable {K : PySem.W.Frag} {H H' H1 H2 : Hp} {O O' M M' : Addr → Prop} {a : Addr} {xs : List V} {v : V} {d : D} {ds : List D}

/-! ### how the heap goes on -/
theorem Evo.refl : Evo M H H := ⟨fun _ _ e _ _ => e, fun _ ps e => ⟨ps, e, fun t => t⟩⟩
/-- M' is new since H, or in M -/
theorem Evo.trans' (x : Evo M H H1) (y : Evo M' H1 H2) (h : ∀ a, M' a → M a ∨ H a = none) : Evo M H H2 :=
  ⟨fun a o e m n => y.keep a o (x.keep a o e m n) (fun z => (h a z).elim m fun q => by rw [q] at e; cases e) n,
   fun a ps e => let ⟨_, e1, t1⟩ := x.tab a ps e; let ⟨qs, e2, t2⟩ := y.tab a _ e1; ⟨qs, e2, fun t => t2 (t1 t)⟩⟩
theorem Evo.trans (x : Evo M H H1) (y : Evo M H1 H2) : Evo M H H2 := x.trans' y fun _ z => .inl z
theorem Evo.mono (x : Evo M H H1) (h : ∀ a, M a → M' a) : Evo M' H H1 := ⟨fun a o e m n => x.keep a o e (fun z => m (h a z)) n, x.tab⟩
theorem Evo.of (x : Ext H H1) : Evo M H H1 := Evo.mono x fun _ z => z.elim
theorem Evo.rd {u : HO} (x : Evo M H H') (h : Rd H a u) (m : ¬ M a) (n : ∀ ps, u ≠ .tbl ps) : Rd H' a u := by
  rcases h with h | ⟨o, h⟩
  · exact .inl (x.keep a u h m n)
  · exact .inr ⟨o, x.keep a _ h m fun _ z => by cases z⟩
/-- what is not there now was not there -/
theorem Ext.old (x : Ext H H') (h : H' a = none) : H a = none := by
  cases e : H a with
  | none => rfl
  | some u =>
    by_cases t : ∃ ps, u = .tbl ps
    · obtain ⟨ps, rfl⟩ := t
      obtain ⟨qs, e1, _⟩ := x.tab a ps e
      rw [h] at e1; cases e1
    · rw [x.keep a u e (fun z => z) fun ps z => t ⟨ps, z⟩] at h; cases h
theorem Ext.new (h : H a = none) (o : HO) : Ext H (upd H a o) :=
  ⟨fun b u e _ _ => by rw [upd_ne (ne_of_none e h)]; exact e, fun b ps e => ⟨ps, by rw [upd_ne (ne_of_none e h)]; exact e, fun t => t⟩⟩
theorem Evo.put {o u : HO} (h : H a = some u) (hu : ∀ ps, u ≠ .tbl ps) (m : M a) : Evo M H (upd H a o) :=
  ⟨fun b w e n _ => by rw [upd_ne (fun z => n (by rw [z]; exact m))]; exact e, fun b ps e => ⟨ps, by
    rw [upd_ne (fun z => by rw [z, h] at e; exact hu ps (Option.some.inj e))]; exact e, fun t => t⟩⟩

/-! ### data stay -/
theorem LsO.evo (h : LsO K H O a xs) (x : Evo M H H') (hm : ∀ b, H b ≠ none → ¬ O b → ¬ M b ∧ ¬ O' b) : LsO K H' O' a xs := by
  rcases h with ⟨h, n⟩ | h
  · have q : H a ≠ none := by rcases h with h | ⟨o, h⟩ <;> (rw [h]; exact fun z => by cases z)
    exact .inl ⟨x.rd h (hm a q n).1 (fun _ z => by cases z), (hm a q n).2⟩
  · exact .inr h
theorem TpO.evo (h : TpO H O a xs) (x : Evo M H H') (hm : ∀ b, H b ≠ none → ¬ O b → ¬ M b ∧ ¬ O' b) : TpO H' O' a xs :=
  have q := hm a (by rw [h.1]; exact fun z => by cases z) h.2
  ⟨x.keep a _ h.1 q.1 (fun _ z => by cases z), q.2⟩
theorem DKind.notTab {u : HO} {kvs : List (D × V)} (k : DKind u kvs) : ∀ ps, u ≠ .tbl ps := by
  rcases k with ⟨l, rfl, _⟩ | ⟨l, rfl, _⟩ <;> (intro ps z; cases z)
mutual
theorem Rep.evo (x : Evo M H H') (hm : ∀ b, H b ≠ none → ¬ O b → ¬ M b ∧ ¬ O' b) : ∀ (d : D) (v : V), Rep K H O v d → Rep K H' O' v d
  | .none, _, h => by cases h; exact .non
  | .bool _, _, h => by cases h; exact .bl _
  | .int _, _, h => by cases h; exact .int _
  | .str _, _, h => by cases h with | str h1 h2 => exact .str h1 h2
  | .list ds, _, h => by cases h with | lst h1 h2 => exact .lst (h1.evo x hm) (RepL.evo x hm ds _ h2)
  | .tuple ds, _, h => by cases h with | tup h1 h2 => exact .tup (h1.evo x hm) (RepL.evo x hm ds _ h2)
  | .dict ds, _, h => by
    cases h with
    | @dic a _ _ _ h1 h2 h3 h4 =>
      have q : H a ≠ none := by rw [h1]; exact fun z => by cases z
      exact .dic (x.keep a _ h1 (hm a q h2).1 h3.notTab) (hm a q h2).2 h3 (RepP.evo x hm ds _ h4)
theorem RepL.evo (x : Evo M H H') (hm : ∀ b, H b ≠ none → ¬ O b → ¬ M b ∧ ¬ O' b) : ∀ (ds : List D) (vs : List V), RepL K H O vs ds → RepL K H' O' vs ds
  | [], _, h => by cases h; exact .nil
  | d :: ds, _, h => by cases h with | cons h1 h2 => exact .cons (Rep.evo x hm d _ h1) (RepL.evo x hm ds _ h2)
theorem RepP.evo (x : Evo M H H') (hm : ∀ b, H b ≠ none → ¬ O b → ¬ M b ∧ ¬ O' b) : ∀ (ds : List (D × D)) (vs : List (D × V)), RepP K H O vs ds → RepP K H' O' vs ds
  | [], _, h => by cases h; exact .nil
  | (k, d) :: ds, _, h => by cases h with | cons h1 h2 => exact .cons (Rep.evo x hm d _ h1) (RepP.evo x hm ds _ h2)
end
theorem Rep.ext (h : Rep K H O v d) (x : Ext H H') : Rep K H' O v d := Rep.evo x (fun _ _ n => ⟨fun z => z, n⟩) d v h
theorem RepL.ext (h : RepL K H O xs ds) (x : Ext H H') : RepL K H' O xs ds := RepL.evo x (fun _ _ n => ⟨fun z => z, n⟩) ds xs h
theorem RepP.ext {kvs : List (D × V)} {es : List (D × D)} (h : RepP K H O kvs es) (x : Ext H H') : RepP K H' O kvs es := RepP.evo x (fun _ _ n => ⟨fun z => z, n⟩) es kvs h
/-- fewer are forbidden -/
theorem Rep.weak (h : Rep K H O v d) (hO : ∀ b, O' b → O b) : Rep K H O' v d := Rep.evo (M := noA) Evo.refl (fun b _ n => ⟨fun z => z, fun z => n (hO b z)⟩) d v h
theorem RepL.weak (h : RepL K H O xs ds) (hO : ∀ b, O' b → O b) : RepL K H O' xs ds := RepL.evo (M := noA) Evo.refl (fun b _ n => ⟨fun z => z, fun z => n (hO b z)⟩) ds xs h
theorem RepP.weak {kvs : List (D × V)} {es : List (D × D)} (h : RepP K H O kvs es) (hO : ∀ b, O' b → O b) : RepP K H O' kvs es := RepP.evo (M := noA) Evo.refl (fun b _ n => ⟨fun z => z, fun z => n (hO b z)⟩) es kvs h

/-! ### lists of data -/
theorem RepL.length : ∀ {xs : List V} {ds : List D}, RepL K H O xs ds → xs.length = ds.length
  | _, _, .nil => rfl
  | _, _, .cons _ t => by rw [List.length_cons, List.length_cons, RepL.length t]
theorem RepL.get : ∀ {xs : List V} {ds : List D} {i : Nat} {d : D}, RepL K H O xs ds → ds[i]? = some d → ∃ x, xs[i]? = some x ∧ Rep K H O x d
  | _, _, _, _, .nil, e => by simp at e
  | _, _, 0, _, .cons r _, e => by simp at e; subst e; exact ⟨_, rfl, r⟩
  | _, _, i + 1, d, .cons _ t, e => by
    obtain ⟨x, h1, h2⟩ := RepL.get (i := i) (d := d) t (by simpa using e)
    exact ⟨x, by simpa using h1, h2⟩
theorem RepL.append : ∀ {xs ys : List V} {ds es : List D}, RepL K H O xs ds → RepL K H O ys es → RepL K H O (xs ++ ys) (ds ++ es)
  | _, _, _, _, .nil, s => s
  | _, _, _, _, .cons r t, s => .cons r (RepL.append t s)
theorem RepL.take : ∀ {xs : List V} {ds : List D} (n : Nat), RepL K H O xs ds → RepL K H O (xs.take n) (ds.take n)
  | _, _, 0, _ => .nil
  | _, _, _ + 1, .nil => .nil
  | _, _, n + 1, .cons r t => .cons r (RepL.take n t)
theorem RepL.drop : ∀ {xs : List V} {ds : List D} (n : Nat), RepL K H O xs ds → RepL K H O (xs.drop n) (ds.drop n)
  | _, _, 0, r => r
  | _, _, _ + 1, .nil => .nil
  | _, _, n + 1, .cons _ t => RepL.drop n t
theorem RepL.set {x : V} {d : D} (r : Rep K H O x d) : ∀ {xs : List V} {ds : List D} (i : Nat), RepL K H O xs ds → RepL K H O (xs.set i x) (ds.set i d)
  | _, _, _, .nil => .nil
  | _, _, 0, .cons _ t => .cons r t
  | _, _, i + 1, .cons q t => .cons q (RepL.set r i t)
theorem RepL.reverse {xs : List V} {ds : List D} (r : RepL K H O xs ds) : RepL K H O xs.reverse ds.reverse := by
  induction r using RepL.rec (motive_1 := fun _ _ _ => True) (motive_3 := fun _ _ _ => True) with
  | nil => exact .nil
  | cons h t _ ih =>
    rw [List.reverse_cons, List.reverse_cons]
    exact ih.append (.cons h .nil)
  | _ => trivial
theorem RepL.rep {xs : List V} {ds : List D} (r : RepL K H O xs ds) : ∀ k : Nat, RepL K H O (List.replicate k xs).flatten (List.replicate k ds).flatten
  | 0 => .nil
  | k + 1 => by
    rw [List.replicate_succ, List.replicate_succ, List.flatten_cons, List.flatten_cons]
    exact r.append (RepL.rep r k)
theorem RepL.of_get : ∀ {xs : List V} {ds : List D}, xs.length = ds.length → (∀ (i : Nat) (x : V) (d : D), xs[i]? = some x → ds[i]? = some d → Rep K H O x d) → RepL K H O xs ds
  | [], [], _, _ => .nil
  | [], _ :: _, h, _ => by simp at h
  | _ :: _, [], h, _ => by simp at h
  | x :: xs, d :: ds, h, f => .cons (f 0 x d rfl rfl) (RepL.of_get (by simpa using h) fun i x d h1 h2 => f (i + 1) x d (by simpa using h1) (by simpa using h2))

/-! ### the data of the library -/
mutual
theorem Rep.dp : ∀ (n : Nat) (d : D) (v : V), Rep K H O v d → dle n d = true → Dp K H v d ∧ d.canLay0 = true ∧ d.depth ≤ n
  | _, .none, _, h, _ => by cases h; exact ⟨.non, by simp [PyData.canLay0], by simp [PyData.depth]⟩
  | _, .bool _, _, h, _ => by cases h; exact ⟨.bl _, by simp [PyData.canLay0], by simp [PyData.depth]⟩
  | _, .int _, _, h, _ => by cases h; exact ⟨.int _, by simp [PyData.canLay0], by simp [PyData.depth]⟩
  | _, .str _, _, h, _ => by cases h with | str h1 h2 => exact ⟨.str _, by simpa [PyData.canLay0] using h1, by simp [PyData.depth]⟩
  | n + 1, .list ds, _, h, e => by
    cases h with
    | lst h1 h2 =>
      obtain ⟨a1, a2, a3⟩ := RepL.dp n ds _ h2 (by simpa [dle] using e)
      refine ⟨.lst ?_ a1, by simpa [PyData.canLay0] using a2, by simp [PyData.depth]; omega⟩
      rcases h1 with ⟨h, _⟩ | h
      · exact .inl h
      · rcases h with (h | ⟨_, h⟩) | h
        · cases h
        · cases h
        · exact .inr h
  | n + 1, .tuple ds, _, h, e => by
    cases h with
    | tup h1 h2 =>
      obtain ⟨a1, a2, a3⟩ := RepL.dp n ds _ h2 (by simpa [dle] using e)
      exact ⟨.tup (SqT.of h1.1) a1, by simpa [PyData.canLay0] using a2, by simp [PyData.depth]; omega⟩
  | 0, .list _, _, _, e => by simp [dle] at e
  | 0, .tuple _, _, _, e => by simp [dle] at e
  | 0, .dict _, _, _, e => by simp [dle] at e
  | _ + 1, .dict _, _, _, e => by simp [dle] at e
theorem RepL.dp : ∀ (n : Nat) (ds : List D) (vs : List V), RepL K H O vs ds → ds.all (dle n) = true → DpAll K H vs ds ∧ PyData.canLayAll0 ds = true ∧ PyData.depthAll ds ≤ n
  | _, [], _, h, _ => by cases h; exact ⟨.nil, by simp [PyData.canLayAll0], by simp [PyData.depthAll]⟩
  | n, d :: ds, _, h, e => by
    cases h with
    | cons h1 h2 =>
      simp only [List.all_cons, Bool.and_eq_true] at e
      obtain ⟨a1, a2, a3⟩ := Rep.dp n d _ h1 e.1
      obtain ⟨b1, b2, b3⟩ := RepL.dp n ds _ h2 e.2
      exact ⟨.cons a1 b1, by simp [PyData.canLayAll0, a2, b2], by simp [PyData.depthAll]; omega⟩
end
theorem Rep.shaped {n : Nat} (h : Rep K H O v d) (e : dle n d = true) (hn : n ≤ 64) : Dp K H v d ∧ SeqAt.shaped d = true := by
  obtain ⟨a1, a2, a3⟩ := Rep.dp n d v h e
  exact ⟨a1, by simp [SeqAt.shaped, a2]; omega⟩
end
end PC

namespace PC
open PySem PySem.Spec PyProof.Rows L2

def isBox : D → Bool
  | .list _ => true
  | .dict _ => true
  | _ => false
/-- the container at a, to be read -/
def Box (K : PySem.W.Frag) (H : Hp) (O : Addr → Prop) (a : Addr) : D → Prop
  | .list ds => ∃ xs, SqL K H a xs ∧ RepL K H O xs ds
  | .dict ds => ∃ u kvs, H a = some u ∧ DKind u kvs ∧ RepP K H O kvs ds
  | _ => False
/-- the container at a, to be written -/
def Own (K : PySem.W.Frag) (H : Hp) (O : Addr → Prop) (a : Addr) : D → Prop
  | .list ds => ∃ xs, H a = some (.lst xs) ∧ RepL K H O xs ds
  | .dict ds => ∃ u kvs, H a = some u ∧ DKind u kvs ∧ RepP K H O kvs ds
  | _ => False
/-- v stands for d; its own container may be in O -/
def RepB (K : PySem.W.Frag) (H : Hp) (O : Addr → Prop) (v : V) (d : D) : Prop := if isBox d = true then ∃ a, v = .ref a ∧ Box K H O a d else Rep K H O v d
/-- .. its own container is new since H0 -/
def RepF (K : PySem.W.Frag) (H0 H : Hp) (O : Addr → Prop) (v : V) (d : D) : Prop := if isBox d = true then ∃ a, v = .ref a ∧ H0 a = none ∧ Own K H (fun b => O b ∨ b = a) a d else Rep K H O v d
inductive RepBL (K : PySem.W.Frag) (H : Hp) (O : Addr → Prop) : List V → List D → Prop
  | nil : RepBL K H O [] []
  | cons {v : V} {vs : List V} {d : D} {ds : List D} : RepB K H O v d → RepBL K H O vs ds → RepBL K H O (v :: vs) (d :: ds)

section
variable {K : PySem.W.Frag} {H H' H0 H1 H2 : Hp} {O O' : Addr → Prop} {a : Addr} {xs : List V} {v : V} {d : D} {ds : List D}

theorem RepB.list : RepB K H O v (.list ds) ↔ ∃ a xs, v = .ref a ∧ SqL K H a xs ∧ RepL K H O xs ds := by
  simp only [RepB, isBox, if_true, Box]
  exact ⟨fun ⟨a, e, xs, h⟩ => ⟨a, xs, e, h⟩, fun ⟨a, xs, e, h⟩ => ⟨a, e, xs, h⟩⟩
theorem RepB.dict {es : List (D × D)} : RepB K H O v (.dict es) ↔ ∃ a u kvs, v = .ref a ∧ H a = some u ∧ DKind u kvs ∧ RepP K H O kvs es := by
  simp only [RepB, isBox, if_true, Box]
  exact ⟨fun ⟨a, e, u, kvs, h⟩ => ⟨a, u, kvs, e, h⟩, fun ⟨a, u, kvs, e, h⟩ => ⟨a, e, u, kvs, h⟩⟩
theorem RepB.plain (h : isBox d = false) : RepB K H O v d ↔ Rep K H O v d := by simp [RepB, h]
theorem RepB.tuple : RepB K H O v (.tuple ds) ↔ ∃ a xs, v = .ref a ∧ TpO H O a xs ∧ RepL K H O xs ds := by
  rw [RepB.plain rfl]
  constructor
  · intro h; cases h with | tup h1 h2 => exact ⟨_, _, rfl, h1, h2⟩
  · rintro ⟨a, xs, rfl, h1, h2⟩; exact .tup h1 h2
theorem RepB.int {i : Int} : RepB K H O v (.int i) ↔ v = .int i := by
  rw [RepB.plain rfl]
  exact ⟨fun h => by cases h; rfl, fun h => by rw [h]; exact .int i⟩
theorem RepB.bool {i : Bool} : RepB K H O v (.bool i) ↔ v = .bl i := by
  rw [RepB.plain rfl]
  exact ⟨fun h => by cases h; rfl, fun h => by rw [h]; exact .bl i⟩
theorem RepB.none : RepB K H O v .none ↔ v = .non := by
  rw [RepB.plain rfl]
  exact ⟨fun h => by cases h; rfl, fun h => by rw [h]; exact .non⟩
theorem RepB.str {x : Str} : RepB K H O v (.str x) ↔ v = .str x ∧ PyData.strOk x = true ∧ x.length ≤ SL := by
  rw [RepB.plain rfl]
  exact ⟨fun h => by cases h with | str h1 h2 => exact ⟨rfl, h1, h2⟩, fun ⟨h, h1, h2⟩ => by rw [h]; exact .str h1 h2⟩
theorem LsO.sq (h : LsO K H O a xs) : SqL K H a xs := by
  rcases h with ⟨h, _⟩ | h
  · exact .inl h
  · rcases h with (h | ⟨_, h⟩) | h
    · cases h
    · cases h
    · exact .inr h
theorem TpO.sq (h : TpO H O a xs) : SqT K H a xs := SqT.of h.1
theorem LsO.of_sq (h : SqL K H a xs) (n : ¬ O a) : LsO K H O a xs := by
  rcases h with h | h
  · exact .inl ⟨h, n⟩
  · exact .inr (.inr h)
theorem LsO.none_of (h : SqL K H a xs) : LsO K H noA a xs := LsO.of_sq h fun z => z
theorem Rep.b (h : Rep K H O v d) : RepB K H O v d := by
  cases d with
  | list ds => cases h with | lst h1 h2 => exact RepB.list.mpr ⟨_, _, rfl, h1.sq, h2⟩
  | dict ds => cases h with | dic h1 h2 h3 h4 => exact RepB.dict.mpr ⟨_, _, _, rfl, h1, h3, h4⟩
  | _ => exact (RepB.plain rfl).mpr h
theorem RepL.b : ∀ {xs : List V} {ds : List D}, RepL K H O xs ds → RepBL K H O xs ds
  | _, _, .nil => .nil
  | _, _, .cons h t => .cons h.b (RepL.b t)
/-- nothing is forbidden -/
theorem RepB.rep0 (h : RepB K H O v d) (hO : ∀ b, O' b → O b) (h0 : ∀ b, ¬ O' b) : Rep K H O' v d := by
  cases d with
  | list ds =>
    obtain ⟨a, xs, rfl, h1, h2⟩ := RepB.list.mp h
    exact .lst (LsO.of_sq h1 (h0 a)) (h2.weak hO)
  | dict ds =>
    obtain ⟨a, u, kvs, rfl, h1, h3, h4⟩ := RepB.dict.mp h
    exact .dic h1 (h0 a) h3 (h4.weak hO)
  | _ => exact ((RepB.plain rfl).mp h).weak hO
theorem RepBL.rep0 : ∀ {xs : List V} {ds : List D}, RepBL K H O xs ds → (∀ b, O' b → O b) → (∀ b, ¬ O' b) → RepL K H O' xs ds
  | _, _, .nil, _, _ => .nil
  | _, _, .cons h t, h1, h2 => .cons (h.rep0 h1 h2) (RepBL.rep0 t h1 h2)
theorem SqL.ext (h : SqL K H a xs) (x : Ext H H') : SqL K H' a xs := by
  rcases h with h | h
  · exact .inl (x.rd h (fun z => z) fun _ z => by cases z)
  · exact .inr h
theorem SqT.ext (h : SqT K H a xs) (x : Ext H H') : SqT K H' a xs := by
  rcases h with h | h
  · exact .inl (x.rd h (fun z => z) fun _ z => by cases z)
  · exact .inr h
theorem RepB.ext (h : RepB K H O v d) (x : Ext H H') : RepB K H' O v d := by
  cases d with
  | list ds =>
    obtain ⟨a, xs, rfl, h1, h2⟩ := RepB.list.mp h
    exact RepB.list.mpr ⟨a, xs, rfl, SqL.ext h1 x, h2.ext x⟩
  | dict ds =>
    obtain ⟨a, u, kvs, rfl, h1, h3, h4⟩ := RepB.dict.mp h
    exact RepB.dict.mpr ⟨a, u, kvs, rfl, x.keep a u h1 (fun z => z) h3.notTab, h3, h4.ext x⟩
  | _ => exact (RepB.plain rfl).mpr (((RepB.plain rfl).mp h).ext x)
theorem RepBL.ext : ∀ {xs : List V} {ds : List D}, RepBL K H O xs ds → Ext H H' → RepBL K H' O xs ds
  | _, _, .nil, _ => .nil
  | _, _, .cons h t, x => .cons (h.ext x) (RepBL.ext t x)
theorem RepBL.length : ∀ {xs : List V} {ds : List D}, RepBL K H O xs ds → xs.length = ds.length
  | _, _, .nil => rfl
  | _, _, .cons _ t => by rw [List.length_cons, List.length_cons, RepBL.length t]
theorem Own.box (h : Own K H O a d) : Box K H O a d := by
  cases d with
  | list ds => obtain ⟨xs, h1, h2⟩ := h; exact ⟨xs, SqL.of h1, h2⟩
  | dict ds => obtain ⟨u, kvs, h1, h2, h3⟩ := h; exact ⟨u, kvs, h1, h2, h3⟩
  | _ => exact h
theorem Own.weak (h : Own K H O a d) (hO : ∀ b, O' b → O b) : Own K H O' a d := by
  cases d with
  | list ds => obtain ⟨xs, h1, h2⟩ := h; exact ⟨xs, h1, h2.weak hO⟩
  | dict ds => obtain ⟨u, kvs, h1, h2, h3⟩ := h; exact ⟨u, kvs, h1, h2, h3.weak hO⟩
  | _ => exact h
theorem Own.evo {M : Addr → Prop} (h : Own K H O a d) (x : Evo M H H') (n : ¬ M a) (hm : ∀ b, H b ≠ Option.none → ¬ O b → ¬ M b ∧ ¬ O' b) : Own K H' O' a d := by
  cases d with
  | list ds => obtain ⟨xs, h1, h2⟩ := h; exact ⟨xs, x.keep a _ h1 n (fun _ z => by cases z), RepL.evo x hm _ _ h2⟩
  | dict ds => obtain ⟨u, kvs, h1, h2, h3⟩ := h; exact ⟨u, kvs, x.keep a _ h1 n h2.notTab, h2, RepP.evo x hm _ _ h3⟩
  | _ => exact h
theorem Box.rep (h : Box K H O a d) (n : ¬ O a) : Rep K H O (.ref a) d := by
  cases d with
  | list ds => obtain ⟨xs, h1, h2⟩ := h; exact .lst (LsO.of_sq h1 n) h2
  | dict ds => obtain ⟨u, kvs, h1, h2, h3⟩ := h; exact .dic h1 n h2 h3
  | _ => exact h.elim
theorem RepF.rep (h : RepF K H0 H O v d) (hO : ∀ b, O b → H0 b ≠ Option.none) : Rep K H O v d := by
  unfold RepF at h
  by_cases e : isBox d = true
  · rw [if_pos e] at h
    obtain ⟨a, rfl, h1, h2⟩ := h
    exact (h2.weak fun b z => .inl z).box.rep fun z => hO a z h1
  · rw [if_neg e] at h
    exact h
theorem RepF.b (h : RepF K H0 H O v d) : RepB K H O v d := by
  unfold RepF at h
  unfold RepB
  by_cases e : isBox d = true
  · rw [if_pos e] at h ⊢
    obtain ⟨a, rfl, h1, h2⟩ := h
    exact ⟨a, rfl, (h2.weak fun b z => .inl z).box⟩
  · rw [if_neg e] at h ⊢
    exact h
theorem RepF.back (h : RepF K H1 H O v d) (x : Ext H0 H1) : RepF K H0 H O v d := by
  unfold RepF at h ⊢
  by_cases e : isBox d = true
  · rw [if_pos e] at h ⊢
    obtain ⟨a, rfl, h1, h2⟩ := h
    exact ⟨a, rfl, x.old h1, h2⟩
  · rw [if_neg e] at h ⊢
    exact h
theorem RepF.plain (h : isBox d = false) : RepF K H0 H O v d ↔ Rep K H O v d := by simp [RepF, h]
theorem RepF.newList {p : Addr} (hp : H p = Option.none) (r : RepL K H O xs ds) : RepF K H (upd H p (.lst xs)) O (.ref p) (.list ds) := by
  simp only [RepF, isBox, if_true, Own]
  exact ⟨p, rfl, hp, xs, upd_same, RepL.evo (M := noA) (Ext.new hp _) (fun b q n => ⟨fun z => z, fun z => z.elim n fun e => q (by rw [e]; exact hp)⟩) _ _ r⟩
theorem RepF.newTup {p : Addr} (hp : H p = Option.none) (hO : ¬ O p) (r : RepL K H O xs ds) : RepF K H (upd H p (.tup xs)) O (.ref p) (.tuple ds) :=
  (RepF.plain rfl).mpr (.tup ⟨upd_same, hO⟩ (r.ext (Ext.new hp _)))
end

/-! ### what holds while a body runs -/
def TabsOk (cs : List Addr) (H : Hp) : Prop := ∀ P, P ∈ cs → ∃ ps, H P = some (.tbl ps) ∧ TriplesOk ps.toList
theorem TabsOk.evo {cs : List Addr} {M : Addr → Prop} {H H' : Hp} (h : TabsOk cs H) (x : Evo M H H') : TabsOk cs H' := fun P hP => by
  obtain ⟨ps, e, t⟩ := h P hP
  obtain ⟨qs, e', t'⟩ := x.tab P ps e
  exact ⟨qs, e', t' t⟩
structure EnvOk (K : PySem.W.Frag) (cs : List Addr) (O : Addr → Prop) (own : List Nat) (ρ : Env) (σ : L2.St) (H : Hp) : Prop where
  tabs : TabsOk cs H
  trk : ∀ a, O a → H a ≠ none
  len : σ.length = ρ.length
  val : ∀ i d, getE ρ i = some d → ∃ v, σ[i]? = some (some v) ∧ RepB K H O v d ∧ (i ∉ own → Rep K H O v d)
theorem EnvOk.ext {K : PySem.W.Frag} {cs : List Addr} {O : Addr → Prop} {own : List Nat} {ρ : Env} {σ : L2.St} {H H' : Hp} (h : EnvOk K cs O own ρ σ H) (x : Ext H H') : EnvOk K cs O own ρ σ H' :=
  ⟨h.tabs.evo x, fun a o z => h.trk a o (x.old z), h.len, fun i d e => let ⟨v, e1, r1, r2⟩ := h.val i d e; ⟨v, e1, r1.ext x, fun n => (r2 n).ext x⟩⟩

/-- a def's promise, by what it computes -/
def spD (K : PySem.W.Frag) (cs : List Addr) (F : List D → Option D) : Sp := fun vs H Q _ =>
  TabsOk cs H ∧ ∃ (O : Addr → Prop) (ds : List D) (d : D), (∀ a, O a → H a ≠ none) ∧ RepL K H O vs ds ∧ F ds = some d ∧ ∀ v H', Ext H H' → Rep K H' O v d → Q v H'
/-- the built-ins that the program names -/
def BN : List Str := ["len", "int", "abs", "sum", "all", "any", "sorted", "list", "tuple", "min", "max", "range", "enumerate", "zip", "isinstance", "bool", "str", "set", "dict"]
/-- the defs' names -/
structure Gd (FN : List Str) (cs : List Addr) (Φ : Nat → List D → Option D) (n : Nat) (X : Cx) : Prop where
  calm : X.calm = true
  room : Room n X.A
  nd : X.N.Nodup
  fn : ∀ i x, FN[i]? = some x → ∃ f fd ps, X.mg x = some (.ref f) ∧ PySem.W.keepIn X.K (.ref f) = true ∧ Binds X.K fd ps [] ∧ FnOk X.prog X.w X.K X.mg X.base CX0 n f fd ps (spD X.K cs (Φ i))
  bn : ∀ x, x ∈ BN → X.mg x = none

inductive Md where
  | val | bor | fr
def RepM (m : Md) (K : PySem.W.Frag) (H0 H : Hp) (O : Addr → Prop) (v : V) (d : D) : Prop := match m with
  | .val => Rep K H O v d
  | .bor => RepB K H O v d
  | .fr => RepF K H0 H O v d
/-- the expression e has the value f -/
def EX (cs : List Addr) (own : List Nat) (m : Md) (X : Cx) (e : Expr) (f : Env → Option D) : Prop :=
  ∃ t, PE X e t ∧ ∀ O ρ σ H d, EnvOk X.K cs O own ρ σ H → f ρ = some d → ∀ Q : VK, (∀ v H', Ext H H' → RepM m X.K H H' O v d → Q v H') → t σ H Q
def TX (cs : List Addr) (own : List Nat) (X : Cx) (e : Expr) (f : Env → Option D) : Prop :=
  ∃ t, PT X e t ∧ ∀ O ρ σ H d, EnvOk X.K cs O own ρ σ H → f ρ = some d → ∀ k, truthy d = some k → ∀ Q : Bool → Hp → Prop, (∀ H', Ext H H' → Q k H') → t σ H Q
def AX (cs : List Addr) (own : List Nat) (X : Cx) (es : List Expr) (f : Env → Option (List D)) : Prop :=
  ∃ t, PA X es t ∧ ∀ O ρ σ H ds, EnvOk X.K cs O own ρ σ H → f ρ = some ds → ∀ Q : List V → Hp → Prop, (∀ vs H', Ext H H' → RepL X.K H' O vs ds → Q vs H') → t σ H Q
def BX (cs : List Addr) (own : List Nat) (X : Cx) (es : List Expr) (f : Env → Option (List D)) : Prop :=
  ∃ t, PA X es t ∧ ∀ O ρ σ H ds, EnvOk X.K cs O own ρ σ H → f ρ = some ds → ∀ Q : List V → Hp → Prop, (∀ vs H', Ext H H' → RepBL X.K H' O vs ds → Q vs H') → t σ H Q

section
variable {cs : List Addr} {own : List Nat} {m : Md} {X : Cx} {e a b : Expr} {es : List Expr} {f g : Env → Option D} {pos : Pos}
theorem EX.val (h : EX cs own .fr X e f) : EX cs own .val X e f := by
  obtain ⟨t, p, q⟩ := h
  exact ⟨t, p, fun O ρ σ H d E e Q k => q O ρ σ H d E e Q fun v H' x r => k v H' x (RepF.rep r E.trk)⟩
theorem EX.bor (h : EX cs own .val X e f) : EX cs own .bor X e f := by
  obtain ⟨t, p, q⟩ := h
  exact ⟨t, p, fun O ρ σ H d E e Q k => q O ρ σ H d E e Q fun v H' x r => k v H' x (Rep.b r)⟩
theorem EX.of_fr (h : EX cs own .fr X e f) : ∀ m, EX cs own m X e f
  | .val => h.val
  | .bor => h.val.bor
  | .fr => h
theorem EX.of_val (h : EX cs own .val X e f) : m ≠ .fr → EX cs own m X e f := by
  cases m with
  | val => exact fun _ => h
  | bor => exact fun _ => h.bor
  | fr => exact fun n => absurd rfl n
/-- data that are no containers are as good as new -/
theorem EX.flat (h : EX cs own .val X e f) (hf : ∀ ρ d, f ρ = some d → isBox d = false) : EX cs own .fr X e f := by
  obtain ⟨t, p, q⟩ := h
  exact ⟨t, p, fun O ρ σ H d E e Q k => q O ρ σ H d E e Q fun v H' x r => k v H' x ((RepF.plain (hf ρ d e)).mpr r)⟩
theorem ex_var {i : Nat} {x : Str} (hN : X.N[i]? = some x) (hv : Vis X.env.scope x) (hi : i ∉ own) (hd : (x == ("__debug__" : Str)) = false) (hcd : (x == ("__classdict__" : Str)) = false) : EX cs own .val X (.Name x pos) fun ρ => getE ρ i := by
  refine ⟨_, pe_var hN hv hd hcd, fun O ρ σ H d E e Q k => ?_⟩
  obtain ⟨v, e1, _, r⟩ := E.val i d e
  exact ⟨v, e1, k v H Evo.refl (r hi)⟩
theorem ex_bor {i : Nat} {x : Str} (hN : X.N[i]? = some x) (hv : Vis X.env.scope x) (hd : (x == ("__debug__" : Str)) = false) (hcd : (x == ("__classdict__" : Str)) = false) : EX cs own .bor X (.Name x pos) fun ρ => getE ρ i := by
  refine ⟨_, pe_var hN hv hd hcd, fun O ρ σ H d E e Q k => ?_⟩
  obtain ⟨v, e1, r, _⟩ := E.val i d e
  exact ⟨v, e1, k v H Evo.refl r⟩
theorem ex_int {i : Int} {j : Nat} : EX cs own .fr X (.Constant (.int i) j pos) fun _ => some (.int i) :=
  ⟨_, pe_int, fun O ρ σ H d E e Q k => by cases e; exact k _ H Evo.refl ((RepF.plain rfl).mpr (.int i))⟩
theorem ex_bl {i : Bool} {j : Nat} : EX cs own .fr X (.Constant (.bool i) j pos) fun _ => some (.bool i) :=
  ⟨_, pe_bl, fun O ρ σ H d E e Q k => by cases e; exact k _ H Evo.refl ((RepF.plain rfl).mpr (.bl i))⟩
theorem ex_non {j : Nat} : EX cs own .fr X (.Constant .none j pos) fun _ => some .none :=
  ⟨_, pe_non, fun O ρ σ H d E e Q k => by cases e; exact k _ H Evo.refl ((RepF.plain rfl).mpr .non)⟩
theorem ex_str {s : Str} {j : Nat} (h1 : PyData.strOk s = true) (h2 : s.length ≤ SL) : EX cs own .fr X (.Constant (.str s) j pos) fun _ => some (.str s) :=
  ⟨_, pe_str, fun O ρ σ H d E e Q k => by cases e; exact k _ H Evo.refl ((RepF.plain rfl).mpr (.str h1 h2))⟩
/-- two values -/
theorem ex_two {op : Expr → Expr → Expr} (ha : EX cs own .bor X a f) (hb : EX cs own .bor X b g) (z : D → D → Option D)
    (mk : ∀ ta tb, PE X a ta → PE X b tb → ∃ r : R2, PE X (op a b) (tOp r ta tb) ∧ ∀ O H x y d e w (Q : VK), (∀ c, O c → H c ≠ none) → TabsOk cs H → RepB X.K H O x d → RepB X.K H O y e → z d e = some w → (∀ v H', Ext H H' → RepM m X.K H H' O v w → Q v H') → r x y H Q)
    (hm : ∀ (H0 H1 H2 : Hp) (O : Addr → Prop) (v : V) (d : D), Ext H0 H1 → RepM m X.K H1 H2 O v d → RepM m X.K H0 H2 O v d) :
    EX cs own m X (op a b) fun ρ => (f ρ).bind fun x => (g ρ).bind fun y => z x y := by
  obtain ⟨ta, pa, qa⟩ := ha
  obtain ⟨tb, pb, qb⟩ := hb
  obtain ⟨r, pr, qr⟩ := mk ta tb pa pb
  refine ⟨_, pr, fun O ρ σ H w E e Q k => ?_⟩
  obtain ⟨d, e1, e2⟩ := Option.bind_eq_some_iff.mp e
  obtain ⟨d', e3, e4⟩ := Option.bind_eq_some_iff.mp e2
  refine qa O ρ σ H d E e1 _ fun x H1 x1 r1 => qb O ρ σ H1 d' (E.ext x1) e3 _ fun y H2 x2 r2 => ?_
  exact qr O H2 x y d d' w Q (E.ext (x1.trans x2)).trk (E.ext (x1.trans x2)).tabs (RepB.ext r1 x2) r2 e4 fun v H3 x3 r3 => k v H3 ((x1.trans x2).trans x3) (hm H H2 H3 O v w (x1.trans x2) r3)
theorem repM_back : ∀ (m : Md) (H0 H1 H2 : Hp) (O : Addr → Prop) (v : V) (d : D), Ext H0 H1 → RepM m X.K H1 H2 O v d → RepM m X.K H0 H2 O v d
  | .val, _, _, _, _, _, _, _, h => h
  | .bor, _, _, _, _, _, _, _, h => h
  | .fr, _, _, _, _, _, _, x, h => RepF.back h x
end
end PC

namespace PC
open PySem PySem.Spec PyProof.Rows L2

/-- what a two-place operation asks of its rule -/
def RuleD (X : Cx) (cs : List Addr) (r : R2) (z : D → D → Option D) : Prop :=
  ∀ (O : Addr → Prop) (H : Hp) (x y : V) (d e w : D) (Q : VK), (∀ c, O c → H c ≠ none) → TabsOk cs H → RepB X.K H O x d → RepB X.K H O y e → z d e = some w → (∀ v H', Ext H H' → RepF X.K H H' O v w → Q v H') → r x y H Q
section
variable {X : Cx} {cs : List Addr} {K : PySem.W.Frag} {H H' : Hp} {O : Addr → Prop}

theorem fr_int {Q : VK} {i : Int} (k : ∀ v H', Ext H H' → RepF K H H' O v (.int i) → Q v H') : Q (.int i) H := k _ H Evo.refl ((RepF.plain rfl).mpr (.int i))
theorem fr_bl {Q : VK} {i : Bool} (k : ∀ v H', Ext H H' → RepF K H H' O v (.bool i) → Q v H') : Q (.bl i) H := k _ H Evo.refl ((RepF.plain rfl).mpr (.bl i))
theorem strOk_append {x y : Str} (h1 : PyData.strOk x = true) (h2 : PyData.strOk y = true) : PyData.strOk (x ++ y) = true := by
  obtain ⟨x⟩ := x
  obtain ⟨y⟩ := y
  show PyData.strOk ⟨x ++ y⟩ = true
  simp only [PyData.strOk, Array.all_append, Bool.and_eq_true] at *
  exact ⟨h1, h2⟩
theorem str_len_append (x y : Str) : (x ++ y).length = x.length + y.length := by
  obtain ⟨x⟩ := x
  obtain ⟨y⟩ := y
  show (x ++ y).size = x.size + y.size
  simp

/-! ### + -/
def rCatL (K : PySem.W.Frag) : R2 := fun x y H Q => ∃ l b xs zs, x = .ref l ∧ y = .ref b ∧ SqL K H l xs ∧ SqL K H b zs ∧ xs.length + zs.length ≤ sizeLine ∧ ∀ p, H p = none → Q (.ref p) (upd H p (.lst (xs ++ zs)))
theorem op_catL : OpR X (binaryOp .Add) (rCatL X.K) := by
  intro pins s σ H x y v u Q I rx ry h
  obtain ⟨l, b, xs, zs, rfl, rfl, hH, hB, hz, q⟩ := h
  cases rx
  cases ry
  obtain ⟨its, r, ⟨⟨cls, dd, data, sl⟩, n, ho, hc, _, hd⟩, _⟩ := I.list hH
  obtain ⟨its2, r2, ⟨⟨cls2, dd2, data2, sl2⟩, n2, ho2, hc2, _, hd2⟩, _⟩ := I.list hB
  simp only at hc hd hc2 hd2
  subst hc hd hc2 hd2
  have hl := r.length
  have hl2 := r2.length
  refine concat_meets ⟨_, ho, rfl⟩ ⟨_, ho2, rfl⟩ noFill_list_add seq_list_add PySem.F.slot_list_add PySem.F.entry_list_add (PySem.F.args_list_add_2 _ _)
    (list_addW l b its.toArray its2.toArray n n2 dd dd2 sl sl2 (by rw [List.size_toArray, List.size_toArray]; omega)) ⟨ho, ho2, ?_⟩
  have ea : its.toArray ++ its2.toArray = (its ++ its2).toArray := by simp
  rw [ea]
  exact ⟨.ref _, _, I.lnew (t' := s.toks) (r.append r2) (by rw [List.length_append]; omega), rfl, q _ I.fresh⟩

theorem bin_add : ∃ r, OpR X (binaryOp .Add) r ∧ RuleD X cs r addD := by
  refine ⟨_, op_add.or (op_add_str.or (op_catL.or op_catA)), ?_⟩
  intro O H x y d e w Q hO hT rx ry ez k
  unfold addD at ez
  split at ez
  · cases ez
    rw [RepB.int] at rx ry
    exact .inl ⟨_, _, rx, ry, fr_int k⟩
  · split at ez
    · rename_i hz
      cases ez
      obtain ⟨rfl, a1, a2⟩ := RepB.str.mp rx
      obtain ⟨rfl, b1, b2⟩ := RepB.str.mp ry
      refine .inr (.inl ⟨_, _, rfl, rfl, by rw [← sl_line]; exact hz, ?_⟩)
      exact k _ H Evo.refl ((RepF.plain rfl).mpr (.str (strOk_append a1 b1) (by rw [str_len_append]; exact hz)))
    · cases ez
  · split at ez
    · rename_i hz
      cases ez
      obtain ⟨a, xs, rfl, h1, h2⟩ := RepB.list.mp rx
      obtain ⟨b, ys, rfl, h3, h4⟩ := RepB.list.mp ry
      refine .inr (.inr (.inl ⟨a, b, xs, ys, rfl, rfl, h1, h3, by rw [← sl_line, h2.length, h4.length]; exact hz, fun p hp => ?_⟩))
      exact k _ _ (Ext.new hp _) (RepF.newList hp (h2.append h4))
    · cases ez
  · split at ez
    · rename_i hz
      cases ez
      obtain ⟨a, xs, rfl, h1, h2⟩ := RepB.tuple.mp rx
      obtain ⟨b, ys, rfl, h3, h4⟩ := RepB.tuple.mp ry
      refine .inr (.inr (.inr ⟨a, b, xs, ys, rfl, rfl, h1.sq, h3.sq, by rw [← sl_line, h2.length, h4.length]; exact hz, fun e => ?_, fun _ e => ?_, fun _ _ p hp => ?_⟩))
      · subst e
        have := h2.length
        cases h2
        exact k _ H Evo.refl ((RepF.plain rfl).mpr (.tup h3 h4))
      · subst e
        cases h4
        rw [List.append_nil] at k
        exact k _ H Evo.refl ((RepF.plain rfl).mpr (.tup h1 h2))
      · exact k _ _ (Ext.new hp _) (RepF.newTup hp (fun z => hO p z hp) (h2.append h4))
    · cases ez
  · cases ez

theorem bin_int {op : Operator} {C : Int → Int → Prop} {g : Int → Int → Int} {z : D → D → Option D} (ho : OpR X (binaryOp op) (rI C fun i j => .int (g i j)))
    (hz : ∀ d e w, z d e = some w → ∃ i j, d = .int i ∧ e = .int j ∧ C i j ∧ w = .int (g i j)) : ∃ r, OpR X (binaryOp op) r ∧ RuleD X cs r z := by
  refine ⟨_, ho, ?_⟩
  intro O H x y d e w Q hO hT rx ry ez k
  obtain ⟨i, j, rfl, rfl, c, rfl⟩ := hz d e w ez
  rw [RepB.int] at rx ry
  exact ⟨i, j, rx, ry, c, fr_int k⟩
theorem bin_int0 {op : Operator} {g : Int → Int → Int} {z : D → D → Option D} (ho : OpR X (binaryOp op) (rI0 fun i j => .int (g i j)))
    (hz : ∀ d e w, z d e = some w → ∃ i j, d = .int i ∧ e = .int j ∧ w = .int (g i j)) : ∃ r, OpR X (binaryOp op) r ∧ RuleD X cs r z := by
  refine ⟨_, ho, ?_⟩
  intro O H x y d e w Q hO hT rx ry ez k
  obtain ⟨i, j, rfl, rfl, rfl⟩ := hz d e w ez
  rw [RepB.int] at rx ry
  exact ⟨i, j, rx, ry, fr_int k⟩
theorem bin_none {op : Operator} {z : D → D → Option D} (hz : ∀ d e, z d e = none) : ∃ r, OpR X (binaryOp op) r ∧ RuleD X cs r z :=
  ⟨fun _ _ _ _ => False, fun _ _ _ _ _ _ _ _ _ _ _ _ h => h.elim, fun O H x y d e w Q hO hT rx ry ez k => by rw [hz] at ez; cases ez⟩
theorem bin_ok (op : Operator) : ∃ r, OpR X (binaryOp op) r ∧ RuleD X cs r (binD op) := by
  cases op with
  | Add => exact bin_add
  | Sub => exact bin_int0 op_sub fun d e w h => by unfold binD at h; split at h <;> simp_all
  | Mult =>
    refine bin_int op_mul fun d e w h => ?_
    simp only [binD, mulD] at h
    split at h
    · rename_i i j
      split at h
      · rename_i c
        cases h
        refine ⟨i, j, rfl, rfl, ?_, rfl⟩
        simp only [small64, Bool.or_eq_true, Bool.and_eq_true, decide_eq_true_eq] at c
        exact c
      · cases h
    · cases h
  | FloorDiv =>
    refine bin_int op_fdiv fun d e w h => ?_
    cases d <;> cases e <;> simp only [binD, reduceCtorEq] at h
    rw [Option.ite_none_right_eq_some] at h
    exact ⟨_, _, rfl, rfl, h.1, (Option.some.inj h.2).symm⟩
  | Mod =>
    refine bin_int op_mod fun d e w h => ?_
    cases d <;> cases e <;> simp only [binD, reduceCtorEq] at h
    rw [Option.ite_none_right_eq_some] at h
    exact ⟨_, _, rfl, rfl, h.1, (Option.some.inj h.2).symm⟩
  | Pow =>
    refine bin_int op_pow fun d e w h => ?_
    cases d <;> cases e <;> simp only [binD, reduceCtorEq] at h
    rw [Option.ite_none_right_eq_some] at h
    exact ⟨_, _, rfl, rfl, h.1, (Option.some.inj h.2).symm⟩
  | BitXor => exact bin_int0 op_xor fun d e w h => by unfold binD at h; split at h <;> simp_all
  | _ => exact bin_none fun d e => by unfold binD; split <;> simp_all
end
end PC

namespace PC
open PySem PySem.Spec PyProof.Rows L2

/-! ### keys -/
theorem eqv_keyD (a b : Key) : PyData.eqv (keyD a) (keyD b) = decide (a = b) := by
  cases a with
  | inl i => cases b with
    | inl j =>
      simp only [keyD, PyData.eqv, Bool.beq_eq_decide_eq]
      exact decide_eq_decide.mpr ⟨fun h => by rw [h], fun h => Sum.inl.inj h⟩
    | inr j => simp [keyD, PyData.eqv]
  | inr i => cases b with
    | inl j => simp [keyD, PyData.eqv]
    | inr j =>
      simp only [keyD, PyData.eqv, Bool.beq_eq_decide_eq]
      exact decide_eq_decide.mpr ⟨fun h => by rw [h], fun h => Sum.inr.inj h⟩
theorem eqvAll_keyD : ∀ a b : List Key, PyData.eqvAll (a.map keyD) (b.map keyD) = decide (a = b)
  | [], [] => by simp [PyData.eqvAll]
  | [], _ :: _ => by simp [PyData.eqvAll]
  | _ :: _, [] => by simp [PyData.eqvAll]
  | x :: a, y :: b => by
    simp only [List.map_cons, PyData.eqvAll, eqv_keyD, eqvAll_keyD a b]
    rw [Bool.eq_iff_iff]
    simp
theorem eqv_keyT (a b : List Key) : PyData.eqv (keyT a) (keyT b) = decide (a = b) := by
  simp only [keyT, PyData.eqv]
  exact eqvAll_keyD a b
section
variable {K : PySem.W.Frag} {H : Hp} {O : Addr → Prop}
theorem flat_key : ∀ {xs : List V} {ks : List D}, RepL K H O xs ks → ks.all flatK = true → ∃ l : List Key, xs = l.map kV ∧ ks = l.map keyD
  | _, _, .nil, _ => ⟨[], rfl, rfl⟩
  | _, _, .cons (v := v) (d := d) h t, e => by
    simp only [List.all_cons, Bool.and_eq_true] at e
    obtain ⟨l, rfl, rfl⟩ := flat_key t e.2
    cases d with
    | int i => cases h; exact ⟨.inl i :: l, rfl, rfl⟩
    | str x => cases h; exact ⟨.inr x :: l, rfl, rfl⟩
    | _ => exact absurd e.1 (by simp [flatK])
/-- a datum that may be a key -/
theorem key_rep {v : V} {d : D} (h : Rep K H O v d) (e : keyK d = true) :
    (∃ k : Key, v = kV k ∧ d = keyD k) ∨ ∃ (ks : List Key) (b : Addr), v = .ref b ∧ H b = some (.tup (ks.map kV)) ∧ d = keyT ks := by
  cases d with
  | int i => cases h; exact .inl ⟨.inl i, rfl, rfl⟩
  | str x => cases h; exact .inl ⟨.inr x, rfl, rfl⟩
  | tuple ks =>
    cases h with
    | tup h1 h2 =>
      obtain ⟨l, rfl, rfl⟩ := flat_key h2 (by simpa [keyK] using e)
      exact .inr ⟨l, _, rfl, h1.1, rfl⟩
  | _ => exact absurd e (by simp [keyK])
section
variable {κ : Type} [DecidableEq κ] {f : κ → D}
theorem getK_cons_pos {kv : D × D} {es : List (D × D)} {k : D} (e : PyData.eqv kv.1 k = true) : getK (kv :: es) k = some kv.2 := by simp [getK, List.find?_cons, e]
theorem getK_cons_neg {kv : D × D} {es : List (D × D)} {k : D} (e : PyData.eqv kv.1 k = false) : getK (kv :: es) k = getK es k := by simp [getK, List.find?_cons, e]
theorem repP_get (hf : ∀ a b, PyData.eqv (f a) (f b) = decide (a = b)) (k : κ) : ∀ {l : List (κ × V)} {es : List (D × D)}, RepP K H O (l.map fun p => (f p.1, p.2)) es →
    (valV l k = none ∧ getK es (f k) = none) ∨ ∃ v d, valV l k = some v ∧ getK es (f k) = some d ∧ Rep K H O v d
  | [], _, h => by cases h; exact .inl ⟨rfl, rfl⟩
  | p :: l, _, h => by
    have h' : RepP K H O ((f p.1, p.2) :: l.map fun p => (f p.1, p.2)) _ := h
    cases h' with
    | @cons _ _ _ d ds h1 h2 =>
      by_cases e : p.1 = k
      · exact .inr ⟨p.2, d, valV_pos e, getK_cons_pos (by rw [hf]; simpa using e), h1⟩
      · rw [valV_neg e, getK_cons_neg (kv := (f p.1, d)) (by rw [hf]; simpa using e)]
        exact repP_get hf k h2
theorem repP_keys : ∀ {kvs : List (D × V)} {es : List (D × D)}, RepP K H O kvs es → es.map (·.1) = kvs.map (·.1)
  | _, _, .nil => rfl
  | _, _, .cons _ t => by rw [List.map_cons, List.map_cons, repP_keys t]
theorem RepP.length {kvs : List (D × V)} {es : List (D × D)} (h : RepP K H O kvs es) : es.length = kvs.length := by
  have := congrArg List.length (repP_keys h)
  simpa using this
theorem repP_append {es' : List (D × D)} : ∀ {kvs kvs' : List (D × V)} {es : List (D × D)}, RepP K H O kvs es → RepP K H O kvs' es' → RepP K H O (kvs ++ kvs') (es ++ es')
  | _, _, _, .nil, s => s
  | _, _, _, .cons r t, s => .cons r (repP_append t s)
theorem repP_set (hf : ∀ a b, PyData.eqv (f a) (f b) = decide (a = b)) (k : κ) {v : V} {d : D} (r : Rep K H O v d) : ∀ {l : List (κ × V)} {es : List (D × D)}, RepP K H O (l.map fun p => (f p.1, p.2)) es →
    RepP K H O ((l.map fun kv => if kv.1 = k then (kv.1, v) else kv).map fun p => (f p.1, p.2)) (es.map fun kv => if PyData.eqv kv.1 (f k) = true then (kv.1, d) else kv)
  | [], _, h => by cases h; exact .nil
  | p :: l, _, h => by
    have h' : RepP K H O ((f p.1, p.2) :: l.map fun p => (f p.1, p.2)) _ := h
    cases h' with
    | @cons _ _ _ d' ds h1 h2 =>
      have ih := repP_set hf k r h2
      rw [List.map_cons, List.map_cons, List.map_cons]
      by_cases e : p.1 = k
      · rw [if_pos e, if_pos (show PyData.eqv (f p.1) (f k) = true by rw [hf]; simpa using e)]
        exact .cons r ih
      · rw [if_neg e, if_neg (show ¬ PyData.eqv (f p.1) (f k) = true by rw [hf]; simpa using e)]
        exact .cons h1 ih
theorem repP_any (hf : ∀ a b, PyData.eqv (f a) (f b) = decide (a = b)) (k : κ) : ∀ {l : List (κ × V)} {es : List (D × D)}, RepP K H O (l.map fun p => (f p.1, p.2)) es →
    (l.any fun kv => decide (kv.1 = k)) = es.any fun kv => PyData.eqv kv.1 (f k)
  | [], _, h => by cases h; rfl
  | p :: l, _, h => by
    have h' : RepP K H O ((f p.1, p.2) :: l.map fun p => (f p.1, p.2)) _ := h
    cases h' with
    | @cons _ _ _ d' ds h1 h2 => rw [List.any_cons, List.any_cons, repP_any hf k h2, hf]
theorem repP_put (hf : ∀ a b, PyData.eqv (f a) (f b) = decide (a = b)) (k : κ) {v : V} {d : D} (r : Rep K H O v d) {l : List (κ × V)} {es : List (D × D)} (h : RepP K H O (l.map fun p => (f p.1, p.2)) es) :
    RepP K H O ((L2.putK l k v).map fun p => (f p.1, p.2)) (putK es (f k) d) := by
  unfold L2.putK putK
  rw [← repP_any hf k h]
  by_cases e : (l.any fun kv => decide (kv.1 = k)) = true
  · rw [if_pos e, if_pos e]
    exact repP_set hf k r h
  · rw [if_neg e, if_neg e, List.map_append]
    exact repP_append h (.cons r .nil)
end
theorem keyT_tup (ks : List Key) : isTupD (keyT ks) = true := rfl
theorem keyD_tup (k : Key) : isTupD (keyD k) = false := by cases k <;> rfl
/-- keys of the other kind: the dict is empty -/
theorem kind_T {l : List (Key × V)} {es : List (D × D)} {ks : List Key} (h : RepP K H O (l.map fun p => (keyD p.1, p.2)) es) (e : kindK es (keyT ks) = true) : l = [] ∧ es = [] := by
  cases l with
  | nil => cases h; exact ⟨rfl, rfl⟩
  | cons p l =>
    have h' : RepP K H O ((keyD p.1, p.2) :: l.map fun p => (keyD p.1, p.2)) es := h
    cases h'
    simp [kindK, keyT_tup, keyD_tup] at e
theorem kind_K {l : List (List Key × V)} {es : List (D × D)} {k : Key} (h : RepP K H O (l.map fun p => (keyT p.1, p.2)) es) (e : kindK es (keyD k) = true) : l = [] ∧ es = [] := by
  cases l with
  | nil => cases h; exact ⟨rfl, rfl⟩
  | cons p l =>
    have h' : RepP K H O ((keyT p.1, p.2) :: l.map fun p => (keyT p.1, p.2)) es := h
    cases h'
    simp [kindK, keyT_tup, keyD_tup] at e
end

/-! ### the empty dict is of both kinds -/
section
variable {X : Cx} {pins : List (Addr × Obj)} {σ : L2.St} {H : Hp} {s : Shared} {a : Addr}
theorem view_T (I : Inv X pins σ H s) (h : H a = some (.dK [])) : Inv X pins σ (upd H a (.dT [])) s := by
  obtain ⟨z, hd, vs, rel, dd⟩ := dk_of I.hok h
  cases rel
  obtain ⟨o, es, ep, h1, h2, h3, h4, h5, h6⟩ := id dd
  have e0 : es.toList = [] := by
    cases h7 : es.toList with
    | nil => rfl
    | cons x r => rw [h7] at h5; cases h5
  exact I.write (x := a) (e := a) (o := .dT []) (t' := s.toks) (h' := s.heap) (by rw [h]; trivial) (.inl rfl) (fun b u _ e => e) ⟨o, h1⟩
    ⟨z, hd, [], .nil, o, es, ep, h1, h2, h3, e0, List.nodup_nil⟩
theorem view_K (I : Inv X pins σ H s) (h : H a = some (.dT [])) : Inv X pins σ (upd H a (.dK [])) s := by
  obtain ⟨z, hd, xs, rel, o, es, ep, h1, h2, h3, h4, h5⟩ := (show ObjOk X.prog X.w H s.heap a (.dT []) from I.hok a _ h)
  cases rel
  have e0 : es = #[] := by
    have : es.toList = [] := h4
    exact Array.toList_eq_nil_iff.mp this
  subst e0
  exact I.write (x := a) (e := a) (o := .dK []) (t' := s.toks) (h' := s.heap) (by rw [h]; trivial) (.inl rfl) (fun b u _ e => e) ⟨o, h1⟩
    ⟨z, hd, [], .nil, o, #[], ep, h1, h2, h3, (fun e he => absurd he (by simp)), .nil, List.nodup_nil⟩
theorem upd_back {o : HO} (h : H a = some o) (u : HO) : upd (upd H a u) a o = H := by
  rw [upd_upd]
  funext b
  by_cases e : b = a
  · rw [e, upd_same, h]
  · rw [upd_ne e]
end

/-! ### comparisons -/
section
variable {X : Cx} {cs : List Addr}
theorem cmp_none {op : CmpOp} {z : D → D → Option D} (hz : ∀ d e, z d e = none) : ∃ r, OpR X (compareOp op) r ∧ RuleD X cs r z :=
  ⟨fun _ _ _ _ => False, fun _ _ _ _ _ _ _ _ _ _ _ _ h => h.elim, fun O H x y d e w Q hO hT rx ry ez k => by rw [hz] at ez; cases ez⟩
theorem RepB.dle_rep {K : PySem.W.Frag} {H : Hp} {O : Addr → Prop} {v : V} {d : D} (h : RepB K H O v d) : Rep K H noA v d := h.rep0 (fun _ z => z.elim) fun _ z => z
theorem cmp_eq (hu : X.A.units + 64 < cLine) : ∃ r, OpR X (compareOp .Eq) r ∧ RuleD X cs r fun d e => (eqD d e).map .bool := by
  refine ⟨_, op_eqD hu, ?_⟩
  intro O H x y d e w Q hO hT rx ry ez k
  dsimp only at ez
  unfold eqD at ez
  split at ez
  · rename_i c
    cases ez
    simp only [Bool.and_eq_true] at c
    obtain ⟨a1, a2⟩ := rx.dle_rep.shaped c.1 (by decide)
    obtain ⟨b1, b2⟩ := ry.dle_rep.shaped c.2 (by decide)
    exact ⟨d, e, a1, b1, a2, b2, fr_bl k⟩
  · cases ez
theorem cmp_ne (hu : X.A.units + 64 < cLine) : ∃ r, OpR X (compareOp .NotEq) r ∧ RuleD X cs r fun d e => ((eqD d e).map (!·)).map .bool := by
  refine ⟨_, op_neD hu, ?_⟩
  intro O H x y d e w Q hO hT rx ry ez k
  dsimp only at ez
  unfold eqD at ez
  split at ez
  · rename_i c
    cases ez
    simp only [Bool.and_eq_true] at c
    obtain ⟨a1, a2⟩ := rx.dle_rep.shaped c.1 (by decide)
    obtain ⟨b1, b2⟩ := ry.dle_rep.shaped c.2 (by decide)
    exact ⟨d, e, a1, b1, a2, b2, fr_bl k⟩
  · cases ez
/-- a comparison by order -/
def rOrd (K : PySem.W.Frag) (g : D → D → Bool) : R2 := fun x y H Q => ∃ d e, Dp K H x d ∧ Dp K H y e ∧ PySem.W.alike d e = true ∧ d ≠ .none ∧ d.depth ≤ 60 ∧ Q (.bl (g d e)) H
theorem op_ord {op : CmpOp} {g : D → D → Bool} (hu : X.A.units + 64 < cLine)
    (rule : ∀ (s : Shared) (d e : D) (v u : Value) (as bs : List Addr) (Q : Value → Shared → Prop), Reads s.heap v d as → Reads s.heap u e bs → PySem.W.alike d e = true → d ≠ .none → X.A.units + min d.depth e.depth < cLine → Q (.bool (g d e)) s →
      wpAny (model X.prog X.w) X.A (compareOp op v u) Q X.xe s) : OpR X (compareOp op) (rOrd X.K g) := by
  intro pins s σ H x y v u Q I rx ry h
  obtain ⟨d, e, hd, he, al, hn, dp, q⟩ := h
  obtain ⟨as, r1⟩ := Dp.reads I d x v hd rx
  obtain ⟨bs, r2⟩ := Dp.reads I e y u he ry
  exact rule s d e v u as bs _ r1 r2 al hn (by have := Nat.min_le_left d.depth e.depth; omega) ⟨.bl _, H, I, rfl, q⟩
theorem cmp_ord {op : CmpOp} {g : D → D → Bool} (ho : OpR X (compareOp op) (rOrd X.K g)) (hz : ∀ d e, cmpD op d e = if ordOk d e then some (g d e) else none) :
    ∃ r, OpR X (compareOp op) r ∧ RuleD X cs r fun d e => (cmpD op d e).map .bool := by
  refine ⟨_, ho, ?_⟩
  intro O H x y d e w Q hO hT rx ry ez k
  dsimp only at ez
  rw [hz] at ez
  split at ez
  · rename_i c
    cases ez
    simp only [ordOk, Bool.and_eq_true] at c
    obtain ⟨a1, a2, a3⟩ := Rep.dp 60 d x rx.dle_rep c.2.1
    obtain ⟨b1, b2, b3⟩ := Rep.dp 60 e y ry.dle_rep c.2.2
    exact ⟨d, e, a1, b1, c.1.1, fun z => by rw [z] at c; simp [notNone] at c, a3, fr_bl k⟩
  · cases ez
/-! ### in -/
theorem room_in {A : Around} {d e : D} (hu : A.units + 65 < cLine) (h : d.depth ≤ 60) : A.units + 1 + min e.depth d.depth < cLine := by
  have := Nat.min_le_right e.depth d.depth
  omega
theorem room_in' {A : Around} {d : D} {n : Nat} (hu : A.units + 65 < cLine) (h : d.depth ≤ 60) : A.units + 1 + min n d.depth < cLine := by
  have := Nat.min_le_right n d.depth
  omega
def rInSeq (K : PySem.W.Frag) (f : Bool → Bool) : R2 := fun x y H Q => ∃ d ds, (Dp K H y (.list ds) ∨ Dp K H y (.tuple ds)) ∧ Dp K H x d ∧ d.canLay0 = true ∧ d.depth ≤ 60 ∧ PyData.canLayAll0 ds = true ∧ Q (.bl (f (ds.any fun z => PyData.eqv z d))) H
theorem op_inSeq (hu : X.A.units + 65 < cLine) : OpR X (compareOp .In) (rInSeq X.K id) := by
  intro pins s σ H x y v u Q I rx ry h
  obtain ⟨d, ds, hy, hx, h1, h2, h3, q⟩ := h
  obtain ⟨as, r1⟩ := Dp.reads I d x v hx rx
  rcases hy with hy | hy
  · obtain ⟨bs, r2⟩ := Dp.reads I _ y u hy ry
    exact SeqAt.in_list_reads r2 r1 h3 h1 (room_in' hu h2) ⟨.bl _, H, I, rfl, q⟩
  · obtain ⟨bs, r2⟩ := Dp.reads I _ y u hy ry
    exact SeqAt.in_tuple_reads r2 r1 h3 h1 (room_in' hu h2) ⟨.bl _, H, I, rfl, q⟩
theorem op_ninSeq (hu : X.A.units + 65 < cLine) : OpR X (compareOp .NotIn) (rInSeq X.K (!·)) := by
  intro pins s σ H x y v u Q I rx ry h
  obtain ⟨d, ds, hy, hx, h1, h2, h3, q⟩ := h
  obtain ⟨as, r1⟩ := Dp.reads I d x v hx rx
  rcases hy with hy | hy
  · obtain ⟨bs, r2⟩ := Dp.reads I _ y u hy ry
    exact SeqAt.notIn_list_reads r2 r1 h3 h1 (room_in' hu h2) ⟨.bl _, H, I, rfl, q⟩
  · obtain ⟨bs, r2⟩ := Dp.reads I _ y u hy ry
    exact SeqAt.notIn_tuple_reads r2 r1 h3 h1 (room_in' hu h2) ⟨.bl _, H, I, rfl, q⟩
/-- the dict at a asked for y: what it holds there (an empty one is of both kinds) -/
def DAsk (H : Hp) (a : Addr) (y : V) (o : Option V) : Prop :=
  DGet H a y o ∨ (o = none ∧ ((H a = some (.dK []) ∧ ∃ (k : List Key) (b : Addr), y = .ref b ∧ H b = some (.tup (k.map kV))) ∨ (H a = some (.dT []) ∧ ∃ k : Key, y = kV k)))
/-- .. seen as it is asked -/
theorem DAsk.view {pins : List (Addr × Obj)} {σ : L2.St} {H : Hp} {s : Shared} {a : Addr} {y : V} {o : Option V} (g : DAsk H a y o) (I : Inv X pins σ H s) :
    ∃ H1, Inv X pins σ H1 s ∧ DGet H1 a y o ∧ ∀ s', Inv X pins σ H1 s' → Inv X pins σ H s' := by
  rcases g with g | ⟨rfl, ⟨h, k, b, rfl, hb⟩ | ⟨h, k, rfl⟩⟩
  · exact ⟨H, I, g, fun _ I' => I'⟩
  · have nb : b ≠ a := fun z => by rw [z, h] at hb; cases hb
    refine ⟨_, view_T I h, .inr ⟨[], k, b, .inl upd_same, rfl, by rw [upd_ne nb]; exact hb, rfl⟩, fun s' I' => ?_⟩
    have := view_K I' upd_same
    rw [upd_back h] at this
    exact this
  · refine ⟨_, view_K I h, .inl ⟨[], k, .inl upd_same, rfl, rfl⟩, fun s' I' => ?_⟩
    have := view_T I' upd_same
    rw [upd_back h] at this
    exact this
def rInDic (f : Bool → Bool) : R2 := fun x y H Q => ∃ a o, y = .ref a ∧ DAsk H a x o ∧ Q (.bl (f o.isSome)) H
theorem op_inDic (hu : X.A.units + 1 < cLine) : OpR X (compareOp .In) (rInDic id) := by
  intro pins s σ H x y v u Q I rx ry h
  obtain ⟨a, o, rfl, g, q⟩ := h
  cases ry
  obtain ⟨H1, I1, g1, back⟩ := g.view I
  exact d_in hu I1 g1 rx fun s' I' => ⟨.bl _, H, back s' I', rfl, q⟩
theorem op_ninDic (hu : X.A.units + 1 < cLine) : OpR X (compareOp .NotIn) (rInDic (!·)) := by
  intro pins s σ H x y v u Q I rx ry h
  obtain ⟨a, o, rfl, g, q⟩ := h
  cases ry
  obtain ⟨H1, I1, g1, back⟩ := g.view I
  exact d_notIn hu I1 g1 rx fun s' I' => ⟨.bl _, H, back s' I', rfl, q⟩
/-- what a dict that stands for es holds at a key -/
theorem dict_ask {K : PySem.W.Frag} {H : Hp} {O : Addr → Prop} {a : Addr} {u : HO} {kvs : List (D × V)} {es : List (D × D)} {v : V} {k : D} (hu : H a = some u) (hk : DKind u kvs) (hp : RepP K H O kvs es) (hv : Rep K H noA v k)
    (h1 : keyK k = true) (h2 : kindK es k = true) : (DAsk H a v none ∧ getK es k = none) ∨ ∃ x d, DAsk H a v (some x) ∧ getK es k = some d ∧ Rep K H O x d := by
  rcases key_rep hv h1 with ⟨ky, rfl, rfl⟩ | ⟨ks, b, rfl, hb, rfl⟩
  · rcases hk with ⟨l, rfl, rfl⟩ | ⟨l, rfl, rfl⟩
    · rcases repP_get eqv_keyD ky hp with ⟨g1, g2⟩ | ⟨x, d, g1, g2, g3⟩
      · exact .inl ⟨.inl (by rw [← g1]; exact DGet.k hu), g2⟩
      · exact .inr ⟨x, d, .inl (by rw [← g1]; exact DGet.k hu), g2, g3⟩
    · obtain ⟨rfl, rfl⟩ := kind_K hp h2
      exact .inl ⟨.inr ⟨rfl, .inr ⟨hu, ky, rfl⟩⟩, rfl⟩
  · rcases hk with ⟨l, rfl, rfl⟩ | ⟨l, rfl, rfl⟩
    · obtain ⟨rfl, rfl⟩ := kind_T hp h2
      exact .inl ⟨.inr ⟨rfl, .inl ⟨hu, ks, b, rfl, hb⟩⟩, rfl⟩
    · rcases repP_get eqv_keyT ks hp with ⟨g1, g2⟩ | ⟨x, d, g1, g2, g3⟩
      · exact .inl ⟨.inl (by rw [← g1]; exact DGet.t hu hb), g2⟩
      · exact .inr ⟨x, d, .inl (by rw [← g1]; exact DGet.t hu hb), g2, g3⟩
theorem in_seq {K : PySem.W.Frag} {H : Hp} {O : Addr → Prop} {x y : V} {d : D} {ds : List D} (rx : RepB K H O x d) (ry : RepB K H O y (.list ds) ∨ RepB K H O y (.tuple ds)) (c : (dle 60 d && ds.all (dle 60)) = true) :
    (Dp K H y (.list ds) ∨ Dp K H y (.tuple ds)) ∧ Dp K H x d ∧ d.canLay0 = true ∧ d.depth ≤ 60 ∧ PyData.canLayAll0 ds = true := by
  simp only [Bool.and_eq_true] at c
  obtain ⟨a1, a2, a3⟩ := Rep.dp 60 d x rx.dle_rep c.1
  rcases ry with ry | ry
  · obtain ⟨b1, b2, b3⟩ := Rep.dp 61 _ y ry.dle_rep (by simpa [dle] using c.2)
    exact ⟨.inl b1, a1, a2, a3, by simpa [PyData.canLay0] using b2⟩
  · obtain ⟨b1, b2, b3⟩ := Rep.dp 61 _ y ry.dle_rep (by simpa [dle] using c.2)
    exact ⟨.inr b1, a1, a2, a3, by simpa [PyData.canLay0] using b2⟩
theorem in_ok {op : CmpOp} {f : Bool → Bool} (h1 : OpR X (compareOp op) (rInSeq X.K f)) (h2 : OpR X (compareOp op) (rInDic f))
    (h3 : OpR X (compareOp op) (fun x y H Q => ∃ i j, x = .str i ∧ y = .str j ∧ Q (.bl (f (!(Builtin.Str.occurrences j i 0 j.length 1).isEmpty))) H)) :
    ∃ r, OpR X (compareOp op) r ∧ RuleD X cs r fun d e => ((inD d e).map f).map .bool := by
  refine ⟨_, h1.or (h2.or h3), ?_⟩
  intro O H x y d e w Q hO hT rx ry ez k
  cases e with
  | list ys =>
    simp only [inD] at ez
    split at ez
    · rename_i c
      cases ez
      obtain ⟨a1, a2, a3, a4, a5⟩ := in_seq rx (.inl ry) c
      exact .inl ⟨d, ys, a1, a2, a3, a4, a5, fr_bl k⟩
    · cases ez
  | tuple ys =>
    simp only [inD] at ez
    split at ez
    · rename_i c
      cases ez
      obtain ⟨a1, a2, a3, a4, a5⟩ := in_seq rx (.inr ry) c
      exact .inl ⟨d, ys, a1, a2, a3, a4, a5, fr_bl k⟩
    · cases ez
  | dict es =>
    simp only [inD] at ez
    split at ez
    · rename_i c
      cases ez
      simp only [Bool.and_eq_true] at c
      obtain ⟨a, u, kvs, rfl, b1, b2, b3⟩ := RepB.dict.mp ry
      rcases dict_ask b1 b2 b3 rx.dle_rep c.1 c.2 with ⟨g, e⟩ | ⟨z, d', g, e, _⟩
      · rw [e] at k
        exact .inr (.inl ⟨a, _, rfl, g, fr_bl k⟩)
      · rw [e] at k
        exact .inr (.inl ⟨a, _, rfl, g, fr_bl k⟩)
    · cases ez
  | str z =>
    simp only [inD] at ez
    split at ez
    · rename_i z'
      cases ez
      obtain ⟨rfl, _⟩ := RepB.str.mp rx
      obtain ⟨rfl, _⟩ := RepB.str.mp ry
      exact .inr (.inr ⟨_, _, rfl, rfl, fr_bl k⟩)
    · cases ez
  | _ => simp [inD] at ez
theorem cmp_ok (hu : X.A.units + 65 < cLine) (op : CmpOp) : ∃ r, OpR X (compareOp op) r ∧ RuleD X cs r fun d e => (cmpD op d e).map .bool := by
  cases op with
  | Eq => exact cmp_eq (by omega)
  | NotEq => exact cmp_ne (by omega)
  | Lt => exact cmp_ord (op_ord (g := PySem.W.dataLt) (by omega) fun _ _ _ _ _ _ _ _ r1 r2 al hn hr q => PySem.W.lt_data r1 r2 al hn hr q) fun _ _ => rfl
  | LtE => exact cmp_ord (op_ord (g := fun d e => !PySem.W.dataLt e d) (by omega) fun _ _ _ _ _ _ _ _ r1 r2 al hn hr q => PySem.W.le_data r1 r2 al hn hr q) fun _ _ => rfl
  | Gt => exact cmp_ord (op_ord (g := fun d e => PySem.W.dataLt e d) (by omega) fun _ _ _ _ _ _ _ _ r1 r2 al hn hr q => PySem.W.gt_data r1 r2 al hn hr q) fun _ _ => rfl
  | GtE => exact cmp_ord (op_ord (g := fun d e => !PySem.W.dataLt d e) (by omega) fun _ _ _ _ _ _ _ _ r1 r2 al hn hr q => PySem.W.ge_data r1 r2 al hn hr q) fun _ _ => rfl
  | In =>
    obtain ⟨r, h1, h2⟩ := in_ok (cs := cs) (op_inSeq (X := X) hu) (op_inDic (by omega)) op_in_str
    exact ⟨r, h1, by simpa [cmpD] using h2⟩
  | NotIn =>
    obtain ⟨r, h1, h2⟩ := in_ok (cs := cs) (op_ninSeq (X := X) hu) (op_ninDic (by omega)) L2.op_notin_str
    exact ⟨r, h1, by simpa [cmpD] using h2⟩
  | _ => exact cmp_none fun d e => by simp [cmpD]
end
end PC

namespace PC
open PySem PySem.Spec PyProof.Rows L2

section
variable {X : Cx} {cs : List Addr} {K : PySem.W.Frag} {H H' : Hp} {O : Addr → Prop}
/-! ### truth -/
theorem tru_of {x : V} {d : D} {k : Bool} (r : RepB K H O x d) (e : truthy d = some k) : TruV K x H k := by
  cases d with
  | none => rw [RepB.none] at r; subst r; cases e; rfl
  | bool b => rw [RepB.bool] at r; subst r; cases e; rfl
  | int i => rw [RepB.int] at r; subst r; cases e; rfl
  | str s =>
    obtain ⟨rfl, h1, h2⟩ := RepB.str.mp r
    cases e
    refine ⟨by rw [← sl_line]; exact h2, ?_⟩
    rw [Bool.eq_iff_iff]
    simp
  | list xs =>
    obtain ⟨a, ys, rfl, h1, h2⟩ := RepB.list.mp r
    cases e
    refine .inl ⟨ys, h1, ?_⟩
    cases h2 <;> rfl
  | tuple xs =>
    obtain ⟨a, ys, rfl, h1, h2⟩ := RepB.tuple.mp r
    cases e
    refine .inr (.inl ⟨ys, h1.sq, ?_⟩)
    cases h2 <;> rfl
  | dict es => cases e

/-! ### subscripts -/
/-- what a rule by values is asked of whose answer may be old -/
def RuleV (X : Cx) (cs : List Addr) (r : R2) (z : D → D → Option D) : Prop :=
  ∀ (O : Addr → Prop) (H : Hp) (x y : V) (d e w : D) (Q : VK), (∀ c, O c → H c ≠ none) → TabsOk cs H → RepB X.K H O x d → RepB X.K H O y e → z d e = some w → (∀ v H', Ext H H' → Rep X.K H' O v w → Q v H') → r x y H Q
theorem nth_atI {α : Type} (xs : List α) (i : Int) : atI xs i = nth xs i := by
  unfold atI nth ixN
  by_cases h0 : 0 ≤ i
  · rw [if_pos h0, if_pos h0]
    by_cases h1 : i < xs.length
    · rw [if_pos h1, if_pos h1]; rfl
    · rw [if_neg h1, if_neg h1]; rfl
  · rw [if_neg h0, if_neg h0]
    by_cases h1 : -(xs.length : Int) ≤ i
    · rw [if_pos h1, if_pos h1]; rfl
    · rw [if_neg h1, if_neg h1]; rfl
theorem nth_get {α : Type} {xs : List α} {i : Int} {v : α} (h : nth xs i = some v) : ∃ j, nthN xs.length i = some j ∧ xs[j]? = some v := by
  unfold nth at h
  unfold nthN
  by_cases h0 : 0 ≤ i
  · rw [if_pos h0] at h ⊢
    by_cases h1 : i < xs.length
    · rw [if_pos h1] at h ⊢; exact ⟨_, rfl, h⟩
    · rw [if_neg h1] at h; cases h
  · rw [if_neg h0] at h ⊢
    by_cases h1 : -(xs.length : Int) ≤ i
    · rw [if_pos h1] at h ⊢; exact ⟨_, rfl, h⟩
    · rw [if_neg h1] at h; cases h
theorem nth_of {α β : Type} {xs : List α} {ys : List β} {i : Int} {j : Nat} {v : β} (hl : ys.length = xs.length) (h : nthN xs.length i = some j) (e : ys[j]? = some v) : nth ys i = some v := by
  unfold nthN at h
  unfold nth
  rw [hl]
  by_cases h0 : 0 ≤ i
  · rw [if_pos h0] at h ⊢
    by_cases h1 : i < xs.length
    · rw [if_pos h1] at h ⊢; cases h; exact e
    · rw [if_neg h1] at h; cases h
  · rw [if_neg h0] at h ⊢
    by_cases h1 : -(xs.length : Int) ≤ i
    · rw [if_pos h1] at h ⊢; cases h; exact e
    · rw [if_neg h1] at h; cases h
theorem RepL.nth {xs : List V} {ds : List D} {i : Int} {d : D} (r : RepL K H O xs ds) (h : PC.nth ds i = some d) : ∃ v, atI xs i = some v ∧ Rep K H O v d := by
  obtain ⟨j, h1, h2⟩ := nth_get h
  obtain ⟨v, h3, h4⟩ := r.get h2
  refine ⟨v, ?_, h4⟩
  rw [nth_atI]
  exact nth_of (xs := ds) r.length h1 h3
def rIxD : R2 := fun x y H Q => ∃ a v, x = .ref a ∧ DGet H a y (some v) ∧ Q v H
theorem ix_dict (hu : X.A.units + 1 < cLine) : IxR X rIxD := by
  intro value slice pins s σ H x y v u Q I rx ry h hs
  obtain ⟨a, z, rfl, g, q⟩ := h
  cases rx
  exact tail_any (dict_typeIs I g) PySem.F.slot_dict_getitem.lookup (d_getItem hu I g ry fun w' s3 I3 rw' => ⟨z, H, I3, rw', q⟩) hs
theorem strOk_cps {s : Str} (h : PyData.strOk s = true) {c : Nat} (hc : c ∈ s.cps.toList) : c < 0x110000 := by
  simp only [PyData.strOk, Array.all_eq_true'] at h
  have := h c (Array.mem_toList_iff.mp hc)
  simpa using this
theorem strOk_of {l : List Nat} (h : ∀ c ∈ l, c < 0x110000) : PyData.strOk ⟨l.toArray⟩ = true := by
  simp only [PyData.strOk, Array.all_eq_true']
  intro c hc
  simpa using h c (by simpa using hc)
theorem ix_ok (hu : X.A.units + 1 < cLine) : ∃ r, IxR X r ∧ RuleV X cs r ixD := by
  refine ⟨_, ix_seq.or (ix_dict hu), ?_⟩
  intro O H x y d e w Q hO hT rx ry ez k
  cases d with
  | list ds =>
    cases e <;> simp only [ixD, reduceCtorEq] at ez
    obtain ⟨a, xs, rfl, h1, h2⟩ := RepB.list.mp rx
    rw [RepB.int] at ry
    obtain ⟨v, e1, e2⟩ := h2.nth ez
    exact .inl (.inl ⟨a, xs, _, v, rfl, ry, h1, e1, k v H Evo.refl e2⟩)
  | tuple ds =>
    cases e <;> simp only [ixD, reduceCtorEq] at ez
    obtain ⟨a, xs, rfl, h1, h2⟩ := RepB.tuple.mp rx
    rw [RepB.int] at ry
    obtain ⟨v, e1, e2⟩ := h2.nth ez
    exact .inl (.inr (.inl ⟨a, xs, _, v, rfl, ry, h1.sq, e1, k v H Evo.refl e2⟩))
  | str s =>
    cases e <;> simp only [ixD, reduceCtorEq] at ez
    obtain ⟨rfl, h1, h2⟩ := RepB.str.mp rx
    rw [RepB.int] at ry
    obtain ⟨c, e1, e2⟩ := Option.map_eq_some_iff.mp ez
    subst e2
    obtain ⟨j, _, e3⟩ := nth_get e1
    refine .inl (.inr (.inr ⟨s, _, c, rfl, ry, by rw [← sl_line]; exact h2, by rw [nth_atI]; exact e1, k _ H Evo.refl (.str ?_ (by show 1 ≤ SL; decide))⟩))
    exact strOk_of (l := [c]) fun c' hc => by
      have : c' = c := by simpa using hc
      subst this
      exact strOk_cps h1 (List.mem_of_getElem? e3)
  | dict es =>
    simp only [ixD] at ez
    split at ez
    · rename_i c
      simp only [Bool.and_eq_true] at c
      obtain ⟨a, u, kvs, rfl, b1, b2, b3⟩ := RepB.dict.mp rx
      rcases dict_ask b1 b2 b3 ry.dle_rep c.1 c.2 with ⟨g, e⟩ | ⟨z, d', g, e, r⟩
      · rw [e] at ez; cases ez
      · rw [e] at ez
        cases ez
        rcases g with g | ⟨g, _⟩
        · exact .inr ⟨a, z, rfl, g, k z H Evo.refl r⟩
        · cases g
    · cases ez
  | _ => cases e <;> simp [ixD] at ez

/-! ### slices -/
theorem cut_L {α : Type} (xs : List α) (lo hi : Option Int) : cutL xs lo hi = (xs.drop (HT.sIx xs.length 0 lo)).take (HT.sIx xs.length xs.length hi - HT.sIx xs.length 0 lo) := by
  cases lo <;> cases hi <;> rfl
theorem RepL.cut {xs : List V} {ds : List D} (r : RepL K H O xs ds) (lo hi : Option Int) : RepL K H O (cutV xs lo hi) (cutL ds lo hi) := by
  rw [cut_L]
  unfold cutV
  rw [r.length]
  exact (r.drop _).take _
theorem cutS_cut (z : Str) (lo hi : Option Int) : cutS z lo hi = ⟨(cutL z.cps.toList lo hi).toArray⟩ := by
  rw [cut_L]
  have e : z.cps.toList.length = z.length := by simp [Str.length]
  rw [e]
  rfl
theorem sl_ok : ∃ r, SlR X r ∧ ∀ (O : Addr → Prop) (H : Hp) (x : V) (d w : D) (lo hi : Option Int) (Q : VK), (∀ c, O c → H c ≠ none) → RepB X.K H O x d → sliceD d lo hi = some w → (∀ v H', Ext H H' → RepF X.K H H' O v w → Q v H') → r x lo hi H Q := by
  refine ⟨_, sl_list.or (sl_tupA.or sl_str), ?_⟩
  intro O H x d w lo hi Q hO rx ez k
  cases d with
  | list ds =>
    cases ez
    obtain ⟨a, xs, rfl, h1, h2⟩ := RepB.list.mp rx
    exact .inl ⟨a, xs, rfl, h1, fun p hp => k _ _ (Ext.new hp _) (RepF.newList hp (h2.cut lo hi))⟩
  | tuple ds =>
    cases ez
    obtain ⟨a, xs, rfl, h1, h2⟩ := RepB.tuple.mp rx
    refine .inr (.inl ⟨a, xs, rfl, h1.sq, fun hw => ?_, fun hw p hp => k _ _ (Ext.new hp _) (RepF.newTup hp (fun z => hO p z hp) (h2.cut lo hi))⟩)
    refine k _ H Evo.refl ((RepF.plain rfl).mpr (.tup h1 ?_))
    have e : cutL ds lo hi = ds := by
      rw [cut_L, ← h2.length, hw.1, hw.2]
      rw [h2.length]
      simp
    rw [e]
    exact h2
  | str s =>
    cases ez
    obtain ⟨rfl, h1, h2⟩ := RepB.str.mp rx
    refine .inr (.inr ⟨s, rfl, by rw [← sl_line]; exact h2, ?_⟩)
    rw [cutS_cut]
    refine k _ H Evo.refl ((RepF.plain rfl).mpr (.str ?_ ?_))
    · refine strOk_of fun c hc => ?_
      rw [cut_L] at hc
      exact strOk_cps h1 (List.mem_of_mem_drop (List.mem_of_mem_take hc))
    · show (cutL s.cps.toList lo hi).toArray.size ≤ SL
      rw [List.size_toArray, cut_L, List.length_take, List.length_drop, Array.length_toList]
      have : s.cps.size ≤ SL := h2
      omega
  | _ => simp [sliceD] at ez

/-! ### isinstance -/
def tyn : D → String
  | .none => "NoneType"
  | .bool _ => "bool"
  | .int _ => "int"
  | .str _ => "str"
  | .list _ => "list"
  | .tuple _ => "tuple"
  | .dict _ => "dict"
def Ty.nm : Ty → String
  | .int => "int"
  | .bool => "bool"
  | .str => "str"
  | .tuple => "tuple"
  | .list => "list"
theorem kit_isi (d : D) (t : Ty) : kitB (tyn d) t.nm = some (isiD d t) := by
  cases d <;> cases t <;> simp only [tyn, Ty.nm, isiD] <;> decide +kernel
theorem tyx_of {x : V} {d : D} (r : RepB K H O x d) : TyX K H x (.type (tyn d)) := by
  cases d with
  | none => rw [RepB.none] at r; subst r; exact .base .non
  | bool b => rw [RepB.bool] at r; subst r; exact .base (.bl b)
  | int i => rw [RepB.int] at r; subst r; exact .base (.int i)
  | str s => obtain ⟨rfl, _⟩ := RepB.str.mp r; exact .base (.str s)
  | list xs =>
    obtain ⟨a, ys, rfl, h1, h2⟩ := RepB.list.mp r
    rcases h1 with (h | ⟨o, h⟩) | ⟨o, its, n, h, hc, _⟩
    · exact .base (.lst h)
    · exact .base (.frz h)
    · exact .kList h hc
  | tuple xs => obtain ⟨a, ys, rfl, h1, h2⟩ := RepB.tuple.mp r; exact .base (.tup h1.1)
  | dict es =>
    obtain ⟨a, u, kvs, rfl, h1, h2, h3⟩ := RepB.dict.mp r
    rcases h2 with ⟨l, rfl, _⟩ | ⟨l, rfl, _⟩
    · exact .base (.dK h1)
    · exact .base (.dT h1)
end
end PC

namespace PC
open PySem PySem.Spec PyProof.Rows L2

/-! ### built-ins by values -/
def biFr : Bi → Bool
  | .min => false
  | .max => false
  | _ => true
def RepG (b : Bool) (K : PySem.W.Frag) (H0 H : Hp) (O : Addr → Prop) (v : V) (d : D) : Prop := if b = true then RepF K H0 H O v d else Rep K H O v d
/-- what a call's rule is asked -/
def RuleB (X : Cx) (r : List V → Hp → VK → Prop) (fr : Bool) (z : List D → Option D) : Prop :=
  ∀ (O : Addr → Prop) (H : Hp) (vs : List V) (ds : List D) (w : D) (Q : VK), (∀ c, O c → H c ≠ none) → RepBL X.K H O vs ds → z ds = some w → (∀ v H', Ext H H' → RepG fr X.K H H' O v w → Q v H') → r vs H Q
section
variable {X : Cx} {K : PySem.W.Frag} {H H' : Hp} {O : Addr → Prop}
theorem RepBL.one {vs : List V} {d : D} (h : RepBL K H O vs [d]) : ∃ v, vs = [v] ∧ RepB K H O v d := by
  cases h with
  | cons h1 h2 => cases h2; exact ⟨_, rfl, h1⟩
theorem RepBL.two {vs : List V} {d e : D} (h : RepBL K H O vs [d, e]) : ∃ v u, vs = [v, u] ∧ RepB K H O v d ∧ RepB K H O u e := by
  cases h with
  | cons h1 h2 =>
    cases h2 with
    | cons h3 h4 => cases h4; exact ⟨_, _, rfl, h1, h3⟩
theorem g_int {Q : VK} {i : Int} (k : ∀ v H', Ext H H' → RepG true K H H' O v (.int i) → Q v H') : Q (.int i) H := k _ H Evo.refl ((RepF.plain (H0 := H) rfl).mpr (.int i))
theorem g_bl {Q : VK} {i : Bool} (k : ∀ v H', Ext H H' → RepG true K H H' O v (.bool i) → Q v H') : Q (.bl i) H := k _ H Evo.refl ((RepF.plain (H0 := H) rfl).mpr (.bl i))
theorem g_new {Q : VK} {p : Addr} {xs : List V} {ds : List D} (k : ∀ v H', Ext H H' → RepG true K H H' O v (.list ds) → Q v H') (hp : H p = none) (r : RepL K H O xs ds) : Q (.ref p) (upd H p (.lst xs)) :=
  k _ _ (Ext.new hp _) (RepF.newList hp r)
theorem ints_of : ∀ {xs : List V} {ds : List D} {ns : List Int}, RepL K H O xs ds → intsD ds = some ns → xs = ns.map V.int
  | _, _, _, .nil, e => by cases e; rfl
  | _, _, _, .cons (d := d) h t, e => by
    cases d <;> simp only [intsD, reduceCtorEq] at e
    obtain ⟨ns', e1, e2⟩ := Option.map_eq_some_iff.mp e
    subst e2
    cases h
    rw [List.map_cons, ints_of t e1]
theorem bools_of : ∀ {xs : List V} {ds : List D} {ns : List Bool}, RepL K H O xs ds → boolsD ds = some ns → xs = ns.map V.bl
  | _, _, _, .nil, e => by cases e; rfl
  | _, _, _, .cons (d := d) h t, e => by
    cases d <;> simp only [boolsD, reduceCtorEq] at e
    obtain ⟨ns', e1, e2⟩ := Option.map_eq_some_iff.mp e
    subst e2
    cases h
    rw [List.map_cons, bools_of t e1]

def rLenK : List V → Hp → VK → Prop := fun xs H Q => ∃ a kvs, xs = [.ref a] ∧ Rd H a (.dK kvs) ∧ Q (.int (kvs.length : Nat)) H
theorem call_lenK : CallR X (.builtin "len") rLenK := by
  intro pins s σ H xs us Q I r h
  obtain ⟨a, kvs, rfl, hd, q⟩ := h
  obtain ⟨u, rfl, rx⟩ := vals1 r
  cases rx
  exact d_len I hd fun t s' I' => ⟨.int kvs.length, H, I', ⟨t, rfl⟩, q⟩
theorem bi_len : ∃ r, CallR X (.builtin "len") r ∧ RuleB X r true (biD .len) := by
  refine ⟨_, call_len.or (call_lenK.or call_len_dT), ?_⟩
  intro O H vs ds w Q hO rv ez k
  match ds, ez with
  | [d], ez =>
    obtain ⟨v, rfl, r⟩ := rv.one
    simp only [biD, Option.map_eq_some_iff] at ez
    obtain ⟨n, e1, e2⟩ := ez
    subst e2
    cases d with
    | list xs =>
      cases e1
      obtain ⟨a, ys, rfl, h1, h2⟩ := RepB.list.mp r
      exact .inl ⟨.ref a, _, rfl, .inl ⟨ys, h1, h2.length.symm⟩, g_int k⟩
    | tuple xs =>
      cases e1
      obtain ⟨a, ys, rfl, h1, h2⟩ := RepB.tuple.mp r
      exact .inl ⟨.ref a, _, rfl, .inr ⟨ys, h1.sq, h2.length.symm⟩, g_int k⟩
    | str x =>
      cases e1
      obtain ⟨rfl, h1, h2⟩ := RepB.str.mp r
      exact .inl ⟨.str x, _, rfl, ⟨by rw [← sl_line]; exact h2, rfl⟩, g_int k⟩
    | dict es =>
      cases e1
      obtain ⟨a, u, kvs, rfl, h1, h2, h3⟩ := RepB.dict.mp r
      have hl := h3.length
      rcases h2 with ⟨l, rfl, rfl⟩ | ⟨l, rfl, rfl⟩
      · rw [List.length_map] at hl
        rw [hl] at k
        exact .inr (.inl ⟨a, l, rfl, .inl h1, g_int k⟩)
      · rw [List.length_map] at hl
        rw [hl] at k
        exact .inr (.inr ⟨a, l, rfl, h1, g_int k⟩)
    | _ => cases e1
theorem bi_int : ∃ r, CallR X (.type "int") r ∧ RuleB X r true (biD .int) := by
  refine ⟨_, call_int1, ?_⟩
  intro O H vs ds w Q hO rv ez k
  match ds, ez with
  | [.int i], ez =>
    obtain ⟨v, rfl, r⟩ := rv.one
    rw [RepB.int] at r
    subst r
    cases ez
    exact .inl ⟨i, rfl, g_int k⟩
theorem bi_abs : ∃ r, CallR X (.builtin "abs") r ∧ RuleB X r true (biD .abs) := by
  refine ⟨_, call_abs, ?_⟩
  intro O H vs ds w Q hO rv ez k
  match ds, ez with
  | [.int i], ez =>
    obtain ⟨v, rfl, r⟩ := rv.one
    rw [RepB.int] at r
    subst r
    cases ez
    exact ⟨i, rfl, g_int k⟩
theorem bi_sum (hc : X.calm = true) : ∃ r, CallR X (.builtin "sum") r ∧ RuleB X r true (biD .sum) := by
  refine ⟨_, cr_sum hc, ?_⟩
  intro O H vs ds w Q hO rv ez k
  match ds, ez with
  | [.list xs], ez =>
    obtain ⟨v, rfl, r⟩ := rv.one
    obtain ⟨a, ys, rfl, h1, h2⟩ := RepB.list.mp r
    obtain ⟨ns, e1, e2⟩ := Option.map_eq_some_iff.mp (show (intsD xs).map (fun ns : List Int => (PyData.int ns.sum : D)) = some w from ez)
    subst e2
    rw [ints_of h2 e1] at h1
    exact ⟨a, ns, rfl, h1, g_int k⟩
theorem bi_all (hc : X.calm = true) : ∃ r, CallR X (.builtin "all") r ∧ RuleB X r true (biD .all) := by
  refine ⟨_, cr_all hc, ?_⟩
  intro O H vs ds w Q hO rv ez k
  match ds, ez with
  | [.list xs], ez =>
    obtain ⟨v, rfl, r⟩ := rv.one
    obtain ⟨a, ys, rfl, h1, h2⟩ := RepB.list.mp r
    obtain ⟨ns, e1, e2⟩ := Option.map_eq_some_iff.mp (show (boolsD xs).map (fun bs : List Bool => (PyData.bool (bs.all id) : D)) = some w from ez)
    subst e2
    rw [bools_of h2 e1] at h1
    exact ⟨a, ns, rfl, h1, g_bl k⟩
theorem bi_any (hc : X.calm = true) : ∃ r, CallR X (.builtin "any") r ∧ RuleB X r true (biD .any) := by
  refine ⟨_, cr_any hc, ?_⟩
  intro O H vs ds w Q hO rv ez k
  match ds, ez with
  | [.list xs], ez =>
    obtain ⟨v, rfl, r⟩ := rv.one
    obtain ⟨a, ys, rfl, h1, h2⟩ := RepB.list.mp r
    obtain ⟨ns, e1, e2⟩ := Option.map_eq_some_iff.mp (show (boolsD xs).map (fun bs : List Bool => (PyData.bool (bs.any id) : D)) = some w from ez)
    subst e2
    rw [bools_of h2 e1] at h1
    exact ⟨a, ns, rfl, h1, g_bl k⟩
theorem bi_list : ∃ r, CallR X (.type "list") r ∧ RuleB X r true (biD .list) := by
  refine ⟨_, call_list_of, ?_⟩
  intro O H vs ds w Q hO rv ez k
  match ds, ez with
  | [.list xs], ez =>
    obtain ⟨v, rfl, r⟩ := rv.one
    obtain ⟨a, ys, rfl, h1, h2⟩ := RepB.list.mp r
    cases ez
    exact ⟨a, ys, rfl, .inl h1, fun p hp => g_new k hp h2⟩
  | [.tuple xs], ez =>
    obtain ⟨v, rfl, r⟩ := rv.one
    obtain ⟨a, ys, rfl, h1, h2⟩ := RepB.tuple.mp r
    cases ez
    exact ⟨a, ys, rfl, .inr h1.sq, fun p hp => g_new k hp h2⟩
theorem bi_tuple : ∃ r, CallR X (.type "tuple") r ∧ RuleB X r true (biD .tuple) := by
  refine ⟨_, call_tuple_of, ?_⟩
  intro O H vs ds w Q hO rv ez k
  match ds, ez with
  | [.list xs], ez =>
    obtain ⟨v, rfl, r⟩ := rv.one
    obtain ⟨a, ys, rfl, h1, h2⟩ := RepB.list.mp r
    cases ez
    exact ⟨a, ys, rfl, .inl ⟨h1, fun p hp => k _ _ (Ext.new hp _) (RepF.newTup hp (fun z => hO p z hp) h2)⟩⟩
  | [.tuple xs], ez =>
    obtain ⟨v, rfl, r⟩ := rv.one
    obtain ⟨a, ys, rfl, h1, h2⟩ := RepB.tuple.mp r
    cases ez
    exact ⟨a, ys, rfl, .inr ⟨h1.sq, k _ H Evo.refl ((RepF.plain (H0 := H) rfl).mpr (.tup h1 h2))⟩⟩
theorem bi_min2 (hc : X.calm = true) : ∃ r, CallR X (.builtin "min") r ∧ RuleB X r true (biD .min2) := by
  refine ⟨_, call_min2 hc, ?_⟩
  intro O H vs ds w Q hO rv ez k
  match ds, ez with
  | [.int i, .int j], ez =>
    obtain ⟨v, u, rfl, r, r'⟩ := rv.two
    rw [RepB.int] at r r'
    subst r r'
    cases ez
    exact ⟨i, j, rfl, g_int k⟩
theorem bi_max2 (hc : X.calm = true) : ∃ r, CallR X (.builtin "max") r ∧ RuleB X r true (biD .max2) := by
  refine ⟨_, call_max2 hc, ?_⟩
  intro O H vs ds w Q hO rv ez k
  match ds, ez with
  | [.int i, .int j], ez =>
    obtain ⟨v, u, rfl, r, r'⟩ := rv.two
    rw [RepB.int] at r r'
    subst r r'
    cases ez
    exact ⟨i, j, rfl, g_int k⟩

/-! ### min, max of data -/
theorem minD_mem (x : D) : ∀ xs : List D, PySem.W.minD x xs ∈ x :: xs := by
  intro xs
  unfold PySem.W.minD
  suffices h : ∀ (xs : List D) (x : D), xs.foldl (fun a y => if PySem.W.dataLt y a then y else a) x ∈ x :: xs from h xs x
  intro xs
  induction xs with
  | nil => intro x; exact List.mem_cons_self
  | cons y r ih =>
    intro x
    rw [List.foldl_cons]
    by_cases c : PySem.W.dataLt y x = true
    · rw [if_pos c]; exact List.mem_cons_of_mem _ (ih y)
    · rw [if_neg c]
      rcases List.mem_cons.mp (ih x) with e | e
      · rw [e]; exact List.mem_cons_self
      · exact List.mem_cons_of_mem _ (List.mem_cons_of_mem _ e)
theorem maxD_mem (x : D) : ∀ xs : List D, PySem.W.maxD x xs ∈ x :: xs := by
  intro xs
  unfold PySem.W.maxD
  suffices h : ∀ (xs : List D) (x : D), xs.foldl (fun a y => if PySem.W.dataLt a y then y else a) x ∈ x :: xs from h xs x
  intro xs
  induction xs with
  | nil => intro x; exact List.mem_cons_self
  | cons y r ih =>
    intro x
    rw [List.foldl_cons]
    by_cases c : PySem.W.dataLt x y = true
    · rw [if_pos c]; exact List.mem_cons_of_mem _ (ih y)
    · rw [if_neg c]
      rcases List.mem_cons.mp (ih x) with e | e
      · rw [e]; exact List.mem_cons_self
      · exact List.mem_cons_of_mem _ (List.mem_cons_of_mem _ e)
theorem minOk_alike {ds : List D} (h : minOk ds = true) : PySem.W.AlikeAll ds ∧ ds.all (dle 60) = true := by
  simp only [minOk, allAlike, Bool.and_eq_true, List.all_eq_true] at h
  refine ⟨⟨fun x hx y hy => h.1.1 x hx y hy, fun x hx e => ?_⟩, by simpa using h.2⟩
  have := h.1.2 x hx
  rw [e] at this
  simp [notNone] at this
/-- the items and their data, side by side -/
theorem reads_rep {pins : List (Addr × Obj)} {σ : L2.St} {s : Shared} (I : Inv X pins σ H s) {xs : List V} {its : List Value} {ds : List D} {as : List Addr} (r : RepL X.K H O xs ds) (rv : Vals xs its) (rd : ReadsAll s.heap its ds as) (hd : ds.all (dle 60) = true)
    {i : Nat} {u : Value} (hu : its[i]? = some u) {m : D} (hm : m ∈ ds) (ha : ∀ x ∈ ds, ∀ y ∈ ds, PySem.W.alike x y = true) {h' : Heap} {bs : List Addr} (hk : ∀ b o, s.heap.get? b = some o → h'.get? b = some o) (hr : Reads h' u m bs) :
    ∃ x, xs[i]? = some x ∧ RelV x u ∧ Rep X.K H O x m := by
  have hi : i < its.length := (List.getElem?_eq_some_iff.mp hu).1
  have hl := rv.length
  have hl2 := r.length
  obtain ⟨x, hx⟩ : ∃ x, xs[i]? = some x := ⟨xs[i]'(by omega), List.getElem?_eq_getElem _⟩
  obtain ⟨d, hd'⟩ : ∃ d, ds[i]? = some d := ⟨ds[i]'(by omega), List.getElem?_eq_getElem _⟩
  obtain ⟨u', hu', rx⟩ := rv.get hx
  rw [hu] at hu'
  cases hu'
  obtain ⟨x', hx', rr⟩ := r.get hd'
  rw [hx] at hx'
  cases hx'
  have hmd : d ∈ ds := List.mem_of_getElem? hd'
  obtain ⟨a1, a2, a3⟩ := Rep.dp 60 d x rr (List.all_eq_true.mp hd d hmd)
  obtain ⟨cs, r1⟩ := Dp.reads I d x u a1 rx
  have e := PySem.W.alike_unique d m u _ _ (ha d hmd m hm) (PyProof.Rows.Reads.keeps hk r1) hr
  subst e
  exact ⟨x, hx, rx, rr⟩
def rBest (K : PySem.W.Frag) (f : D → List D → D) : List V → Hp → VK → Prop := fun vs H Q => ∃ (v : V) (d : D) (ds : List D), vs = [v] ∧ (∃ xs a, v = .ref a ∧ (SqL K H a xs ∨ SqT K H a xs) ∧ ∃ O, RepL K H O xs (d :: ds) ∧
  minOk (d :: ds) = true ∧ ∀ x, Rep K H O x (f d ds) → Q x H)
theorem call_best {id : String} {f : D → List D → D} (hc : X.calm = true) (hu : X.A.units + 64 < cLine) (hf : ∀ x xs, f x xs ∈ x :: xs)
    (hl : ∀ (s : Shared) (l : Addr) (vs : Array Value) (x : D) (xs : List D) (as : List Addr) (Q : Value → Shared → Prop), s.heap.IsList l vs → ReadsAll s.heap vs.toList (x :: xs) as → PySem.W.AlikeAll (x :: xs) → X.A.units + 1 + PyData.depthAll (x :: xs) < cLine →
      (∀ (i : Nat) v h' tk bs, vs[i]? = some v → Reads h' v (f x xs) bs → (∀ b o, s.heap.get? b = some o → h'.get? b = some o) → Q v { s with heap := h', toks := tk }) → wpAny (model X.prog X.w) X.A (call (.builtin id) [.ref l]) Q X.xe s)
    (ht : ∀ (s : Shared) (l : Addr) (vs : Array Value) (x : D) (xs : List D) (as : List Addr) (Q : Value → Shared → Prop), s.heap.IsTuple l vs → ReadsAll s.heap vs.toList (x :: xs) as → PySem.W.AlikeAll (x :: xs) → X.A.units + 1 + PyData.depthAll (x :: xs) < cLine →
      (∀ (i : Nat) v h' tk bs, vs[i]? = some v → Reads h' v (f x xs) bs → (∀ b o, s.heap.get? b = some o → h'.get? b = some o) → Q v { s with heap := h', toks := tk }) → wpAny (model X.prog X.w) X.A (call (.builtin id) [.ref l]) Q X.xe s) :
    CallR X (.builtin id) (rBest X.K f) := by
  intro pins s σ H vs us Q I r h
  obtain ⟨v, d, ds, rfl, xs, a, rfl, hq, O, rl, ok, q⟩ := h
  obtain ⟨u, rfl, rx⟩ := vals1 r
  cases rx
  obtain ⟨al, dl⟩ := minOk_alike ok
  obtain ⟨dp, _, hdp⟩ := RepL.dp 60 _ _ rl dl
  have room : X.A.units + 1 + PyData.depthAll (d :: ds) < cLine := by omega
  rcases hq with hq | hq
  · obtain ⟨its, rv, pl, _⟩ := I.list hq
    obtain ⟨as, ra⟩ := Dp.readsAll I _ _ _ dp rv
    refine hl s a its.toArray d ds as _ pl.isList ra al room fun i v h' tk bs hi hr hk => ?_
    obtain ⟨x, _, rx, rr⟩ := reads_rep I rl rv ra dl (by simpa using hi) (hf d ds) al.1 hk hr
    exact ⟨x, H, I.kept hk, rx, q x rr⟩
  · obtain ⟨its, rv, pl, _⟩ := I.tuple hq
    obtain ⟨as, ra⟩ := Dp.readsAll I _ _ _ dp rv
    refine ht s a its.toArray d ds as _ pl ra al room fun i v h' tk bs hi hr hk => ?_
    obtain ⟨x, _, rx, rr⟩ := reads_rep I rl rv ra dl (by simpa using hi) (hf d ds) al.1 hk hr
    exact ⟨x, H, I.kept hk, rx, q x rr⟩
theorem best_rule {f : D → List D → D} {z : List D → Option D} (hz : ∀ ds w, z ds = some w → ∃ x xs, (ds = [.list (x :: xs)] ∨ ds = [.tuple (x :: xs)]) ∧ minOk (x :: xs) = true ∧ w = f x xs) : RuleB X (rBest X.K f) false z := by
  intro O H vs ds w Q hO rv ez k
  obtain ⟨x, xs, e, ok, rfl⟩ := hz ds w ez
  rcases e with rfl | rfl
  · obtain ⟨v, rfl, r⟩ := rv.one
    obtain ⟨a, ys, rfl, h1, h2⟩ := RepB.list.mp r
    exact ⟨_, x, xs, rfl, ys, a, rfl, .inl h1, O, h2, ok, fun y ry => k y H Evo.refl ry⟩
  · obtain ⟨v, rfl, r⟩ := rv.one
    obtain ⟨a, ys, rfl, h1, h2⟩ := RepB.tuple.mp r
    exact ⟨_, x, xs, rfl, ys, a, rfl, .inr h1.sq, O, h2, ok, fun y ry => k y H Evo.refl ry⟩
theorem bi_min (hc : X.calm = true) (hu : X.A.units + 64 < cLine) (hh : X.A.handled = none) : ∃ r, CallR X (.builtin "min") r ∧ RuleB X r false (biD .min) := by
  refine ⟨_, call_best (f := PySem.W.minD) hc hu (fun x xs => minD_mem x xs) (fun s l vs x xs as Q hl hr al hu h => PySem.W.min_list_data hh hl hr al hu h) (fun s l vs x xs as Q hl hr al hu h => PySem.W.min_tuple_data hh hl hr al hu h), best_rule fun ds w e => ?_⟩
  match ds, e with
  | [.list (x :: xs)], e =>
    simp only [biD] at e
    split at e
    · rename_i c; cases e; exact ⟨x, xs, .inl rfl, c, rfl⟩
    · cases e
  | [.tuple (x :: xs)], e =>
    simp only [biD] at e
    split at e
    · rename_i c; cases e; exact ⟨x, xs, .inr rfl, c, rfl⟩
    · cases e
  | [.list []], e => simp [biD, minD] at e
  | [.tuple []], e => simp [biD, minD] at e
theorem bi_max (hc : X.calm = true) (hu : X.A.units + 64 < cLine) (hh : X.A.handled = none) : ∃ r, CallR X (.builtin "max") r ∧ RuleB X r false (biD .max) := by
  refine ⟨_, call_best (f := PySem.W.maxD) hc hu (fun x xs => maxD_mem x xs) (fun s l vs x xs as Q hl hr al hu h => PySem.W.max_list_data hh hl hr al hu h) (fun s l vs x xs as Q hl hr al hu h => PySem.W.max_tuple_data hh hl hr al hu h), best_rule fun ds w e => ?_⟩
  match ds, e with
  | [.list (x :: xs)], e =>
    simp only [biD] at e
    split at e
    · rename_i c; cases e; exact ⟨x, xs, .inl rfl, c, rfl⟩
    · cases e
  | [.tuple (x :: xs)], e =>
    simp only [biD] at e
    split at e
    · rename_i c; cases e; exact ⟨x, xs, .inr rfl, c, rfl⟩
    · cases e
  | [.list []], e => simp [biD, maxD] at e
  | [.tuple []], e => simp [biD, maxD] at e
end
end PC

namespace PC
open PySem PySem.Spec PyProof.Rows L2

/-! ### sorted -/
section
variable {X : Cx} {K : PySem.W.Frag} {H H' : Hp} {O : Addr → Prop}
theorem leD_eq : (PySem.W.dataLe false fun p : V × D => p.2) = fun p q : V × D => leD p.2 q.2 := rfl
theorem sort_snd (zs : List (V × D)) : (zs.mergeSort (PySem.W.dataLe false fun p : V × D => p.2)).map (·.2) = sortD (zs.map (·.2)) :=
  PySem.W.sort_maps (r := PySem.W.dataLe false fun p : V × D => p.2) (s := leD) (fun p : V × D => p.2) fun _ _ _ _ => rfl
theorem repL_zip : ∀ {xs : List V} {ds : List D}, RepL K H O xs ds → ∀ p ∈ xs.zip ds, Rep K H O p.1 p.2
  | _, _, .nil, _, hp => by simp at hp
  | _, _, .cons h t, p, hp => by
    rw [List.zip_cons_cons] at hp
    rcases List.mem_cons.mp hp with rfl | hp
    · exact h
    · exact repL_zip t p hp
theorem repL_of : ∀ {zs : List (V × D)}, (∀ p ∈ zs, Rep K H O p.1 p.2) → RepL K H O (zs.map (·.1)) (zs.map (·.2))
  | [], _ => .nil
  | z :: zs, h => .cons (h z List.mem_cons_self) (repL_of fun p hp => h p (List.mem_cons_of_mem _ hp))
theorem each_vals : ∀ {xs : List V} {ds : List D} {its : List Value}, RepL K H O xs ds → Vals xs its → PySem.W.EachIs (fun (u : Value) (p : V × D) => RelV p.1 u) its (xs.zip ds)
  | _, _, _, .nil, .nil => .nil
  | _, _, _, .cons _ t, .cons r s => .cons r (each_vals t s)
theorem each_reads {pins : List (Addr × Obj)} {σ : L2.St} {s : Shared} (I : Inv X pins σ H s) : ∀ {xs : List V} {ds : List D} {its : List Value}, DpAll X.K H xs ds → Vals xs its → PySem.W.EachIs (fun (u : Value) (p : V × D) => ∃ as, Reads s.heap u p.2 as) its (xs.zip ds)
  | _, _, _, .nil, .nil => .nil
  | _, _, _, .cons d t, .cons r s => .cons (Dp.reads I _ _ _ d r) (each_reads I t s)
def rSortD (K : PySem.W.Frag) : List V → Hp → VK → Prop := fun vs H Q => ∃ (a : Addr) (xs : List V) (ds : List D) (O : Addr → Prop), vs = [.ref a] ∧ SqL K H a xs ∧ RepL K H O xs ds ∧ allAlike ds = true ∧ sortable ds = true ∧ ds.all (dle 60) = true ∧
  ∀ p ys, H p = none → RepL K H O ys (sortD ds) → Q (.ref p) (upd H p (.lst ys))
theorem call_sortD (hu : X.A.units + 66 < cLine) : CallR X (.builtin "sorted") (rSortD X.K) := by
  intro pins s σ H vs us Q I r h
  obtain ⟨a, xs, ds, O, rfl, hq, rl, al, so, dl, q⟩ := h
  obtain ⟨u, rfl, rx⟩ := vals1 r
  cases rx
  obtain ⟨its, rv, pl, hz⟩ := I.list hq
  obtain ⟨dp, _, _⟩ := RepL.dp 60 _ _ rl dl
  have hl := rv.length
  have hl2 := rl.length
  have hal : PySem.W.AllAlike ds := fun d hd d' hd' => by
    have := List.all_eq_true.mp al d hd
    exact List.all_eq_true.mp this d' hd'
  have hso : PySem.W.Sortable ds := by
    simp only [sortable, Bool.or_eq_true, List.all_eq_true] at so
    rcases so with so | so
    · refine .inl fun d hd => ?_
      have := so d hd
      split at this
      · exact ⟨_, _, rfl⟩
      · cases this
    · refine .inr fun d hd => ?_
      have := so d hd
      refine ⟨fun e => ?_, fun xs e => ?_⟩ <;> (rw [e] at this; cases this)
  have eR := each_vals rl rv
  have eD := each_reads I dp rv (xs := xs)
  have em : (xs.zip ds).map (·.2) = ds := List.map_snd_zip (by omega)
  refine PySem.W.sorted_data (enc := fun p : V × D => p.2) (R := fun (u : Value) (p : V × D) => RelV p.1 u) pl.isList eR eD (by rw [em]; exact hal) (by rw [em]; exact hso) (by rw [List.length_zip]; omega) (fun p hp => ?_) fun out ho eo => ?_
  · have hm : p.2 ∈ ds := (List.of_mem_zip (a := p.1) (b := p.2) hp).2
    have := List.all_eq_true.mp dl _ hm
    obtain ⟨x, hx⟩ : ∃ x, Rep X.K H O x p.2 := ⟨p.1, repL_zip rl p hp⟩
    have := (Rep.dp 60 p.2 x hx this).2.2
    omega
  · have hnew : H (s.heap.objs.size + 1) = none := I.hok.fresh (Nat.le_succ _)
    have hperm := List.mergeSort_perm (xs.zip ds) (PySem.W.dataLe false fun p : V × D => p.2)
    have rl' : RepL X.K H O (((xs.zip ds).mergeSort (PySem.W.dataLe false fun p : V × D => p.2)).map (·.1)) (sortD ds) := by
      have e2 := sort_snd (xs.zip ds)
      rw [em] at e2
      rw [← e2]
      exact repL_of fun p hp => repL_zip rl p (hperm.mem_iff.mp hp)
    have q' := q _ _ hnew rl'
    have vo : Vals (((xs.zip ds).mergeSort (PySem.W.dataLe false fun p : V × D => p.2)).map (·.1)) out := by
      clear q' rl' hperm ho
      generalize (xs.zip ds).mergeSort (PySem.W.dataLe false fun p : V × D => p.2) = zs at eo
      induction eo with
      | nil => exact .nil
      | cons h t ih => exact .cons h ih
    obtain ⟨c, hc⟩ := sortedAll_at s.heap its out.toArray
    refine ⟨.ref (s.heap.objs.size + 1), _, I.laid (t' := s.toks) (fun b o e => sortedAll_old e) (Nat.le_succ _) ?_, rfl, q'⟩
    refine ⟨?_, out, c, vo, hc⟩
    rw [List.length_map, hperm.length_eq, List.length_zip]
    omega
theorem leD_int (a b : Int) : leD (.int a) (.int b) = decide (a ≤ b) := by
  unfold leD
  rw [PySem.W.dataLt_int]
  by_cases h : b < a
  · rw [decide_eq_true h, decide_eq_false (by omega)]; rfl
  · rw [decide_eq_false h, decide_eq_true (by omega)]; rfl
/-- the one rising list -/
theorem rising_one : ∀ {xs ys : List Int}, xs.Perm ys → xs.Pairwise (· ≤ ·) → ys.Pairwise (· ≤ ·) → xs = ys
  | [], ys, h, _, _ => by
    have := h.length_eq
    cases ys with
    | nil => rfl
    | cons _ _ => simp at this
  | x :: xs, [], h, _, _ => by
    have := h.length_eq
    simp at this
  | x :: xs, y :: ys, h, hx, hy => by
    have e : x = y := by
      have h1 : y ∈ x :: xs := h.mem_iff.mpr List.mem_cons_self
      have h2 : x ∈ y :: ys := h.mem_iff.mp List.mem_cons_self
      have a1 : x ≤ y := by
        rcases List.mem_cons.mp h1 with e | e
        · omega
        · exact (List.pairwise_cons.mp hx).1 y e
      have a2 : y ≤ x := by
        rcases List.mem_cons.mp h2 with e | e
        · omega
        · exact (List.pairwise_cons.mp hy).1 x e
      omega
    subst e
    rw [rising_one ((List.perm_cons x).mp h) (List.pairwise_cons.mp hx).2 (List.pairwise_cons.mp hy).2]
theorem sortD_ints (ns : List Int) : sortD (ns.map .int) = (ns.mergeSort fun a b => decide (a ≤ b)).map .int := by
  unfold sortD
  exact (PySem.W.sort_maps (r := fun a b : Int => decide (a ≤ b)) (s := leD) (.int : Int → D) fun a _ b _ => (leD_int a b).symm).symm
theorem sortD_rising {ns ks : List Int} (h : ks.Perm ns) (hr : ks.Pairwise (· ≤ ·)) : sortD (ns.map .int) = ks.map .int := by
  rw [sortD_ints]
  congr 1
  refine rising_one ((List.mergeSort_perm _ _).trans h.symm) ?_ hr
  have := List.pairwise_mergeSort (le := fun a b : Int => decide (a ≤ b)) (fun a b c h1 h2 => by simp at *; omega) (fun a b => by simp; omega) ns
  exact this.imp fun h => by simpa using h
/-- sorted(d) where d is an empty one of the other kind -/
theorem call_sortedE (hcalm : X.calm = true) : CallR X (.builtin "sorted") (fun xs H Q => ∃ a, xs = [.ref a] ∧ H a = some (.dT []) ∧ ∀ p, H p = none → Q (.ref p) (upd H p (.lst []))) := by
  intro pins s σ H xs us Q I r h
  obtain ⟨a, rfl, ha, q⟩ := h
  refine thn (call_sortedDI hcalm pins s σ (upd H a (.dK [])) [.ref a] us (fun v H' => ∃ p, v = .ref p ∧ p ≠ a ∧ H p = none ∧ H' = upd (upd H a (.dK [])) p (.lst [])) (view_K I ha) r ⟨a, [], [], rfl, .inl upd_same, rfl, by decide, fun ys p hp _ hn => ?_⟩) fun u s' ⟨v, H', I', ru, p, e1, np, hp, e2⟩ => ?_
  · have : ys = [] := hp.eq_nil
    subst this
    have np : p ≠ a := fun z => by rw [z, upd_same] at hn; cases hn
    rw [upd_ne np] at hn
    exact ⟨p, rfl, np, hn, rfl⟩
  · subst e1 e2
    have J := view_T I' (a := a) (by rw [upd_ne np.symm, upd_same])
    have e : upd (upd (upd H a (.dK [])) p (.lst [])) a (.dT []) = upd H p (.lst []) := by
      funext b
      by_cases h1 : b = a
      · subst h1; rw [upd_same, upd_ne np.symm, ha]
      · rw [upd_ne h1]
        by_cases h2 : b = p
        · subst h2; rw [upd_same, upd_same]
        · rw [upd_ne h2, upd_ne h1, upd_ne h2]
    rw [e] at J
    exact ⟨.ref p, _, J, ru, q p hp⟩
theorem repL_ints : ∀ ys : List Int, RepL K H O (ys.map V.int) (ys.map .int)
  | [] => .nil
  | y :: ys => .cons (.int y) (repL_ints ys)
theorem keys_ints {l : List (Key × V)} {es : List (D × D)} (hk : es.map (·.1) = l.map fun p => keyD p.1) (c : ∀ kv ∈ es, isInt kv.1 = true) : ∃ ns : List Int, l.map (·.1) = ns.map Sum.inl ∧ es.map (·.1) = ns.map .int := by
  have ha : ∀ z ∈ l.map fun p => keyD p.1, isInt z = true := fun z hz => by
    rw [← hk] at hz
    obtain ⟨kv, h4, rfl⟩ := List.mem_map.mp hz
    exact c kv h4
  rw [hk]
  clear hk c
  induction l with
  | nil => exact ⟨[], rfl, rfl⟩
  | cons p l ih =>
    obtain ⟨ns, e1, e2⟩ := ih fun z hz => ha z (by rw [List.map_cons]; exact List.mem_cons_of_mem _ hz)
    have hp := ha (keyD p.1) (by rw [List.map_cons]; exact List.mem_cons_self)
    obtain ⟨ky, v⟩ := p
    cases ky with
    | inl i => exact ⟨i :: ns, by rw [List.map_cons, e1]; rfl, by rw [List.map_cons, e2]; rfl⟩
    | inr x => cases hp
theorem bi_sorted (hc : X.calm = true) (hu : X.A.units + 66 < cLine) : ∃ r, CallR X (.builtin "sorted") r ∧ RuleB X r true (biD .sorted) := by
  refine ⟨_, (call_sortD hu).or ((call_sortedDI hc).or (call_sortedE hc)), ?_⟩
  intro O H vs ds w Q hO rv ez k
  match ds, ez with
  | [.list xs], ez =>
    simp only [biD] at ez
    split at ez
    · rename_i c
      cases ez
      simp only [Bool.and_eq_true] at c
      obtain ⟨v, rfl, r⟩ := rv.one
      obtain ⟨a, ys, rfl, h1, h2⟩ := RepB.list.mp r
      exact .inl ⟨a, ys, xs, O, rfl, h1, h2, c.1.1, c.1.2, c.2, fun p zs hp rz => g_new k hp rz⟩
    · cases ez
  | [.dict es], ez =>
    simp only [biD] at ez
    split at ez
    · rename_i c
      cases ez
      simp only [Bool.and_eq_true, decide_eq_true_eq, List.all_eq_true] at c
      obtain ⟨v, rfl, r⟩ := rv.one
      obtain ⟨a, u, kvs, rfl, h1, h2, h3⟩ := RepB.dict.mp r
      have hk := repP_keys h3
      rcases h2 with ⟨l, rfl, rfl⟩ | ⟨l, rfl, rfl⟩
      · have hl := h3.length
        rw [List.length_map] at hl
        rw [List.map_map] at hk
        obtain ⟨ns, e1, e2⟩ := keys_ints hk c.1
        have hn : ns.length = es.length := by
          have := congrArg List.length e2
          simpa using this.symm
        refine .inr (.inl ⟨a, l, ns, rfl, .inl h1, e1, by omega, fun ys p h4 h5 hp => ?_⟩)
        have e3 : sortD (es.map (·.1)) = ys.map .int := by rw [e2]; exact sortD_rising h4 h5
        rw [e3] at k
        exact g_new k hp (repL_ints ys)
      · cases l with
        | nil =>
          cases h3
          exact .inr (.inr ⟨a, rfl, h1, fun p hp => g_new k hp (by simp only [List.map_nil, sortD, List.mergeSort_nil]; exact .nil)⟩)
        | cons p l =>
          rw [List.map_cons] at h3
          cases h3 with
          | cons r1 r2 =>
            have := c.1 _ List.mem_cons_self
            simp [keyT, isInt] at this
    · cases ez
/-- every built-in's rule -/
def Bi.nm : Bi → Str
  | .len => "len"
  | .int => "int"
  | .abs => "abs"
  | .sum => "sum"
  | .all => "all"
  | .any => "any"
  | .sorted => "sorted"
  | .list => "list"
  | .tuple => "tuple"
  | .min => "min"
  | .max => "max"
  | .min2 => "min"
  | .max2 => "max"
def Bi.val : Bi → Value
  | .len => .builtin "len"
  | .int => .type "int"
  | .abs => .builtin "abs"
  | .sum => .builtin "sum"
  | .all => .builtin "all"
  | .any => .builtin "any"
  | .sorted => .builtin "sorted"
  | .list => .type "list"
  | .tuple => .type "tuple"
  | .min => .builtin "min"
  | .max => .builtin "max"
  | .min2 => .builtin "min"
  | .max2 => .builtin "max"
theorem bi_ok (hc : X.calm = true) (hu : X.A.units + 66 < cLine) (hh : X.A.handled = none) (b : Bi) : ∃ r, CallR X b.val r ∧ RuleB X r (biFr b) (biD b) := by
  cases b with
  | len => exact bi_len
  | int => exact bi_int
  | abs => exact bi_abs
  | sum => exact bi_sum hc
  | all => exact bi_all hc
  | any => exact bi_any hc
  | sorted => exact bi_sorted hc hu
  | list => exact bi_list
  | tuple => exact bi_tuple
  | min => exact bi_min hc (by omega) hh
  | max => exact bi_max hc (by omega) hh
  | min2 => exact bi_min2 hc
  | max2 => exact bi_max2 hc
theorem bi_boot (b : Bi) : bootBuiltins b.nm = some b.val := by
  cases b <;> (show _ = some _) <;> decide +kernel
theorem bi_name (b : Bi) : b.nm ∈ BN ∧ b.nm ≠ "__name__" ∧ (b.nm == ("__debug__" : Str)) = false := by
  cases b <;> decide +kernel
end
end PC

namespace PC
open PySem PySem.Spec PyProof.Rows L2

/-! ### the strongest readings -/
def tE (cs : List Addr) (own : List Nat) (m : Md) (K : PySem.W.Frag) (f : Env → Option D) : TE := fun σ H Q =>
  ∃ O ρ d, EnvOk K cs O own ρ σ H ∧ f ρ = some d ∧ ∀ v H', Ext H H' → RepM m K H H' O v d → Q v H'
def tT (cs : List Addr) (own : List Nat) (K : PySem.W.Frag) (f : Env → Option D) : TT := fun σ H Q =>
  ∃ O ρ d k, EnvOk K cs O own ρ σ H ∧ f ρ = some d ∧ truthy d = some k ∧ ∀ H', Ext H H' → Q k H'
section
variable {cs : List Addr} {own : List Nat} {m : Md} {X : Cx} {e a b c : Expr} {es : List Expr} {f g h : Env → Option D} {fs : Env → Option (List D)} {pos : Pos}
theorem EX.canon (h : EX cs own m X e f) : PE X e (tE cs own m X.K f) := by
  obtain ⟨t, p, q⟩ := h
  exact ⟨fun pins s σ H Q I ⟨O, ρ, d, E, ef, k⟩ => p.run pins s σ H Q I (q O ρ σ H d E ef Q k)⟩
theorem EX.of (h : PE X e (tE cs own m X.K f)) : EX cs own m X e f :=
  ⟨_, h, fun O ρ σ H d E ef Q k => ⟨O, ρ, d, E, ef, k⟩⟩
theorem TX.canon (h : TX cs own X e f) : PT X e (tT cs own X.K f) := by
  obtain ⟨t, p, q⟩ := h
  exact ⟨fun pins s σ H Q I ⟨O, ρ, d, k, E, ef, et, kk⟩ => p.run pins s σ H Q I (q O ρ σ H d E ef k et Q kk)⟩
def Md.le : Md → Md → Bool
  | .fr, _ => true
  | .val, .fr => false
  | .val, _ => true
  | .bor, .bor => true
  | .bor, _ => false
def Md.join : Md → Md → Md
  | .bor, _ => .bor
  | _, .bor => .bor
  | .val, _ => .val
  | _, .val => .val
  | .fr, .fr => .fr
theorem Md.le_l (a b : Md) : a.le (a.join b) = true := by cases a <;> cases b <;> rfl
theorem Md.le_r (a b : Md) : b.le (a.join b) = true := by cases a <;> cases b <;> rfl
theorem EX.weak {m' : Md} (h : EX cs own m X e f) (l : m.le m' = true) : EX cs own m' X e f := by
  cases m <;> cases m' <;> first | exact h | exact h.val | exact h.bor | exact h.val.bor | cases l
theorem EX.toBor (h : EX cs own m X e f) : EX cs own .bor X e f := h.weak (by cases m <;> rfl)
theorem AX.weak (h : AX cs own X es fs) : BX cs own X es fs := by
  obtain ⟨t, p, q⟩ := h
  exact ⟨t, p, fun O ρ σ H d E e Q k => q O ρ σ H d E e Q fun v H' x r => k v H' x (RepL.b r)⟩

/-! ### written lists -/
def noStar : Expr → Bool
  | .Starred .. => false
  | _ => true
theorem star_cons (h : noStar e = true) {env : PySem.Env} : starEach (e :: es) env = (false, eval e env) :: starEach es env := by
  cases e <;> first | rfl | cases h
theorem star_none {env : PySem.Env} : ∀ {es : List Expr}, es.all noStar = true → (backTo pos (starEach es env)).any (·.1) = false
  | [], _ => rfl
  | e :: es, h => by
    simp only [List.all_cons, Bool.and_eq_true] at h
    rw [star_cons h.1]
    exact star_none (es := es) h.2
theorem ax_nil : AX cs own X [] fun _ => some [] :=
  ⟨_, pa_nil, fun O ρ σ H d E e Q k => by cases e; exact k [] H Evo.refl .nil⟩
theorem bx_nil : BX cs own X [] fun _ => some [] :=
  ⟨_, pa_nil, fun O ρ σ H d E e Q k => by cases e; exact k [] H Evo.refl .nil⟩
theorem ax_cons (hs : noStar e = true) (ha : EX cs own .val X e f) (hr : AX cs own X es fs) : AX cs own X (e :: es) fun ρ => (f ρ).bind fun x => (fs ρ).map (x :: ·) := by
  obtain ⟨t, p, q⟩ := ha
  obtain ⟨t', p', q'⟩ := hr
  refine ⟨_, pa_cons p p' (star_cons hs), fun O ρ σ H ds E ed Q k => ?_⟩
  obtain ⟨d, e1, e2⟩ := Option.bind_eq_some_iff.mp ed
  obtain ⟨ds', e3, e4⟩ := Option.map_eq_some_iff.mp e2
  subst e4
  exact q O ρ σ H d E e1 _ fun x H1 x1 r1 => q' O ρ σ H1 ds' (E.ext x1) e3 _ fun xs H2 x2 r2 => k _ H2 (x1.trans x2) (.cons (Rep.ext r1 x2) r2)
theorem bx_cons (hs : noStar e = true) (ha : EX cs own .bor X e f) (hr : BX cs own X es fs) : BX cs own X (e :: es) fun ρ => (f ρ).bind fun x => (fs ρ).map (x :: ·) := by
  obtain ⟨t, p, q⟩ := ha
  obtain ⟨t', p', q'⟩ := hr
  refine ⟨_, pa_cons p p' (star_cons hs), fun O ρ σ H ds E ed Q k => ?_⟩
  obtain ⟨d, e1, e2⟩ := Option.bind_eq_some_iff.mp ed
  obtain ⟨ds', e3, e4⟩ := Option.map_eq_some_iff.mp e2
  subst e4
  exact q O ρ σ H d E e1 _ fun x H1 x1 r1 => q' O ρ σ H1 ds' (E.ext x1) e3 _ fun xs H2 x2 r2 => k _ H2 (x1.trans x2) (.cons (RepB.ext r1 x2) r2)
theorem x_tup {k : Nat} (ha : AX cs own X es fs) : EX cs own .fr X (.Tuple es k pos) fun ρ => (fs ρ).bind fun xs => if xs.length ≤ SL then some (.tuple xs) else none := by
  obtain ⟨t, p, q⟩ := ha
  refine ⟨_, pe_tup p, fun O ρ σ H d E ed Q k => ?_⟩
  obtain ⟨ds, e1, e2⟩ := Option.bind_eq_some_iff.mp ed
  split at e2
  · rename_i hz
    cases e2
    refine q O ρ σ H ds E e1 _ fun vs H1 x1 r1 => ⟨by rw [← sl_line, r1.length]; exact hz, fun p hp => ?_⟩
    exact k _ _ (x1.trans (Ext.new hp _)) (RepF.back (RepF.newTup hp (fun z => (E.ext x1).trk p z hp) r1) x1)
  · cases e2
theorem x_lst (ha : AX cs own X es fs) : EX cs own .fr X (.List es pos) fun ρ => (fs ρ).bind fun xs => if xs.length ≤ SL then some (.list xs) else none := by
  obtain ⟨t, p, q⟩ := ha
  refine ⟨_, pe_lst p, fun O ρ σ H d E ed Q k => ?_⟩
  obtain ⟨ds, e1, e2⟩ := Option.bind_eq_some_iff.mp ed
  split at e2
  · rename_i hz
    cases e2
    refine q O ρ σ H ds E e1 _ fun vs H1 x1 r1 => ⟨by rw [← sl_line, r1.length]; exact hz, fun p hp => ?_⟩
    exact k _ _ (x1.trans (Ext.new hp _)) (RepF.back (RepF.newList hp r1) x1)
  · cases e2
theorem x_dic0 : EX cs own .fr X (.Dict [] [] pos) fun _ => some (.dict []) := by
  refine ⟨_, pe_dnewK, fun O ρ σ H d E ed Q k p hp => ?_⟩
  cases ed
  refine k _ _ (Ext.new hp _) ?_
  simp only [RepM, RepF, isBox, if_true, Own]
  exact ⟨p, rfl, hp, _, [], upd_same, .inl ⟨[], rfl, rfl⟩, .nil⟩

/-! ### operations -/
theorem x_bin {o : Operator} (ha : EX cs own .bor X a f) (hb : EX cs own .bor X b g) : EX cs own .fr X (.BinOp a o b pos) fun ρ => (f ρ).bind fun x => (g ρ).bind fun y => binD o x y :=
  ex_two (m := .fr) (op := fun a b => .BinOp a o b pos) ha hb (binD o) (fun ta tb pa pb => by
    obtain ⟨r, hr, q⟩ := bin_ok (X := X) (cs := cs) o
    exact ⟨r, pe_op hr pa pb, fun O H x y d e w Q h1 h2 r1 r2 ez k => q O H x y d e w Q h1 h2 r1 r2 ez k⟩) (repM_back (X := X) .fr)
theorem x_cmp {o : CmpOp} (hu : X.A.units + 65 < cLine) (hm : behindInMarks o b = false) (ha : EX cs own .bor X a f) (hb : EX cs own .bor X b g) :
    EX cs own .fr X (.Compare a [o] [b] pos) fun ρ => (f ρ).bind fun x => (g ρ).bind fun y => (cmpD o x y).map .bool :=
  ex_two (m := .fr) (op := fun a b => .Compare a [o] [b] pos) ha hb (fun x y => (cmpD o x y).map .bool) (fun ta tb pa pb => by
    obtain ⟨r, hr, q⟩ := cmp_ok (X := X) (cs := cs) hu o
    exact ⟨r, pe_cmpR hr pa pb hm, fun O H x y d e w Q h1 h2 r1 r2 ez k => q O H x y d e w Q h1 h2 r1 r2 ez k⟩) (repM_back (X := X) .fr)
theorem x_ix (hu : X.A.units + 1 < cLine) (hs : PlainIx b) (ha : EX cs own .bor X a f) (hb : EX cs own .bor X b g) : EX cs own .val X (.Subscript a b pos) fun ρ => (f ρ).bind fun x => (g ρ).bind fun y => ixD x y :=
  ex_two (m := .val) (op := fun a b => .Subscript a b pos) ha hb ixD (fun ta tb pa pb => by
    obtain ⟨r, hr, q⟩ := ix_ok (X := X) (cs := cs) hu
    exact ⟨r, pe_ix hr pa pb hs, fun O H x y d e w Q h1 h2 r1 r2 ez k => q O H x y d e w Q h1 h2 r1 r2 ez k⟩) (repM_back (X := X) .val)
theorem x_neg (ha : EX cs own .bor X a f) : EX cs own .fr X (.UnaryOp .USub a pos) fun ρ => (f ρ).bind fun x => match x with
    | .int i => some (.int (-i))
    | _ => none := by
  obtain ⟨t, p, q⟩ := ha
  refine ⟨_, pe_un un_neg p, fun O ρ σ H d E ed Q k => ?_⟩
  obtain ⟨x, e1, e2⟩ := Option.bind_eq_some_iff.mp ed
  cases x <;> simp only [reduceCtorEq] at e2
  cases e2
  refine q O ρ σ H _ E e1 _ fun v H1 x1 r1 => ⟨_, RepB.int.mp r1, k _ H1 x1 ((RepF.plain rfl).mpr (.int _))⟩
theorem x_not (ha : EX cs own .bor X a f) : EX cs own .fr X (.UnaryOp .Not a pos) fun ρ => (f ρ).bind fun x => (truthy x).map fun k => .bool (!k) := by
  obtain ⟨t, p, q⟩ := ha
  refine ⟨_, pe_notT p, fun O ρ σ H d E ed Q k => ?_⟩
  obtain ⟨x, e1, e2⟩ := Option.bind_eq_some_iff.mp ed
  obtain ⟨k', e3, e4⟩ := Option.map_eq_some_iff.mp e2
  subst e4
  exact q O ρ σ H _ E e1 _ fun v H1 x1 r1 => ⟨k', tru_of r1 e3, k _ H1 x1 ((RepF.plain rfl).mpr (.bl _))⟩
theorem none_rep {K : PySem.W.Frag} {H : Hp} {O : Addr → Prop} {v : V} {d : D} (r : RepB K H O v d) : decide (v = .non) = (match d with
    | .none => true
    | _ => false) := by
  cases d with
  | none => rw [RepB.none] at r; subst r; rfl
  | bool b => rw [RepB.bool] at r; subst r; rfl
  | int i => rw [RepB.int] at r; subst r; rfl
  | str s => obtain ⟨rfl, _⟩ := RepB.str.mp r; rfl
  | list ds => obtain ⟨a, xs, rfl, _⟩ := RepB.list.mp r; rfl
  | tuple ds => obtain ⟨a, xs, rfl, _⟩ := RepB.tuple.mp r; rfl
  | dict ds => obtain ⟨a, u, kvs, rfl, _⟩ := RepB.dict.mp r; rfl
theorem p_isn {t : TE} {j : Nat} {pos' : Pos} (p : PE X a t) : PE X (.Compare a [.Is] [.Constant .none j pos'] pos) (tIsN t) := pe_cmp (pc_isN p) (nomark _)
theorem p_isnn {t : TE} {j : Nat} {pos' : Pos} (p : PE X a t) : PE X (.Compare a [.IsNot] [.Constant .none j pos'] pos) (tNotN t) := pe_cmp (pc_notN p) (nomark _)
theorem x_isn {j : Nat} {pos' : Pos} (ha : EX cs own .bor X a f) : EX cs own .fr X (.Compare a [.Is] [.Constant .none j pos'] pos) fun ρ => (f ρ).map fun x => match x with
    | .none => .bool true
    | _ => .bool false := by
  obtain ⟨t, p, q⟩ := ha
  refine ⟨_, p_isn p, fun O ρ σ H d E ed Q k => ?_⟩
  obtain ⟨x, e1, e2⟩ := Option.map_eq_some_iff.mp ed
  subst e2
  refine q O ρ σ H _ E e1 _ fun v H1 x1 r1 => ?_
  rw [none_rep r1]
  exact k _ H1 x1 (by cases x <;> exact (RepF.plain rfl).mpr (.bl _))
theorem x_isnn {j : Nat} {pos' : Pos} (ha : EX cs own .bor X a f) : EX cs own .fr X (.Compare a [.IsNot] [.Constant .none j pos'] pos) fun ρ => (f ρ).map fun x => match x with
    | .none => .bool false
    | _ => .bool true := by
  obtain ⟨t, p, q⟩ := ha
  refine ⟨_, p_isnn p, fun O ρ σ H d E ed Q k => ?_⟩
  obtain ⟨x, e1, e2⟩ := Option.map_eq_some_iff.mp ed
  subst e2
  refine q O ρ σ H _ E e1 _ fun v H1 x1 r1 => ?_
  rw [none_rep r1]
  exact k _ H1 x1 (by cases x <;> exact (RepF.plain rfl).mpr (.bl _))
def chainD (o p : CmpOp) (f g h : Env → Option D) (ρ : Env) : Option D := (f ρ).bind fun x => (g ρ).bind fun y => (cmpD o x y).bind fun k => if k = true then (h ρ).bind fun z => (cmpD p y z).map .bool else some (.bool false)
theorem chain_law {o o' : CmpOp} {r r' : R2} {ta tb tc : TE} (q : RuleD X cs r fun d e => (cmpD o d e).map .bool) (q' : RuleD X cs r' fun d e => (cmpD o' d e).map .bool)
    (qa : ∀ O ρ σ H d, EnvOk X.K cs O own ρ σ H → f ρ = some d → ∀ Q : VK, (∀ v H', Ext H H' → RepM .bor X.K H H' O v d → Q v H') → ta σ H Q)
    (qb : ∀ O ρ σ H d, EnvOk X.K cs O own ρ σ H → g ρ = some d → ∀ Q : VK, (∀ v H', Ext H H' → RepM .bor X.K H H' O v d → Q v H') → tb σ H Q)
    (qc : ∀ O ρ σ H d, EnvOk X.K cs O own ρ σ H → h ρ = some d → ∀ Q : VK, (∀ v H', Ext H H' → RepM .bor X.K H H' O v d → Q v H') → tc σ H Q) :
    ∀ O ρ σ H d, EnvOk X.K cs O own ρ σ H → chainD o o' f g h ρ = some d → ∀ Q : VK, (∀ v H', Ext H H' → RepM .fr X.K H H' O v d → Q v H') → tChain r r' ta tb tc σ H Q := by
  intro O ρ σ H d E ed Q k
  obtain ⟨x, e1, ed⟩ := Option.bind_eq_some_iff.mp ed
  obtain ⟨y, e2, ed⟩ := Option.bind_eq_some_iff.mp ed
  obtain ⟨kk, e3, ed⟩ := Option.bind_eq_some_iff.mp ed
  refine qa O ρ σ H x E e1 _ fun vx H1 x1 r1 => qb O ρ σ H1 y (E.ext x1) e2 _ fun vy H2 x2 r2 => ?_
  refine q O H2 vx vy x y (.bool kk) _ (E.ext (x1.trans x2)).trk (E.ext (x1.trans x2)).tabs (RepB.ext r1 x2) r2 (by simp [e3]) fun v H3 x3 r3 => ?_
  refine ⟨kk, by have := (RepF.plain rfl).mp r3; cases this; rfl, ?_⟩
  cases kk with
  | false =>
    cases ed
    exact k _ H3 ((x1.trans x2).trans x3) ((RepF.plain rfl).mpr (.bl _))
  | true =>
    obtain ⟨z, e4, e5⟩ := Option.bind_eq_some_iff.mp ed
    have x03 := (x1.trans x2).trans x3
    refine qc O ρ σ H3 z (E.ext x03) e4 _ fun vz H4 x4 r4 => ?_
    exact q' O H4 vy vz y z d Q (E.ext (x03.trans x4)).trk (E.ext (x03.trans x4)).tabs (RepB.ext r2 (x3.trans x4)) r4 e5 fun v H5 x5 r5 => k v H5 ((x03.trans x4).trans x5) (RepF.back r5 (x03.trans x4))
theorem x_chain {o o' : CmpOp} (hu : X.A.units + 65 < cLine) (hm : lastMarks [o, o'] [b, c] = false) (ha : EX cs own .bor X a f) (hb : EX cs own .bor X b g) (hc : EX cs own .bor X c h) :
    EX cs own .fr X (.Compare a [o, o'] [b, c] pos) (chainD o o' f g h) := by
  obtain ⟨ta, pa, qa⟩ := ha
  obtain ⟨tb, pb, qb⟩ := hb
  obtain ⟨tc, pc, qc⟩ := hc
  obtain ⟨r, hr, q⟩ := cmp_ok (X := X) (cs := cs) hu o
  obtain ⟨r', hr', q'⟩ := cmp_ok (X := X) (cs := cs) hu o'
  exact ⟨_, pe_chain hr hr' pa pb pc hm, chain_law q q' qa qb qc⟩

/-! ### tests -/
/-- the expressions whose test is another thing than their value's -/
def plainTest : Expr → Bool
  | .UnaryOp .Not _ _ => false
  | .BoolOp .. => false
  | .IfExp .. => false
  | .Compare .. => false
  | _ => true
theorem plain_test (h : plainTest e = true) {env : PySem.Env} : ∀ whole, isTrue e env whole = (do let v ← whole; standAt e.pos; holding [v] (PySem.truthy v)) := by
  intro whole
  cases e <;> first | rfl | cases h | skip
  case UnaryOp o _ _ => cases o <;> first | rfl | cases h
theorem t_plain (hp : plainTest e = true) (ha : EX cs own m X e f) : TX cs own X e f := by
  obtain ⟨t, p, q⟩ := ha.toBor
  refine ⟨_, pt_truth p (plain_test hp), fun O ρ σ H d E ed k ek Q kk => ?_⟩
  exact q O ρ σ H d E ed _ fun v H1 x1 r1 => ⟨k, tru_of r1 ek, kk H1 x1⟩
theorem t_not (ha : TX cs own X a f) : TX cs own X (.UnaryOp .Not a pos) fun ρ => (f ρ).bind fun x => (truthy x).map fun k => .bool (!k) := by
  obtain ⟨t, p, q⟩ := ha
  refine ⟨_, pt_not p, fun O ρ σ H d E ed k ek Q kk => ?_⟩
  obtain ⟨x, e1, e2⟩ := Option.bind_eq_some_iff.mp ed
  obtain ⟨k', e3, e4⟩ := Option.map_eq_some_iff.mp e2
  subst e4
  cases ek
  exact q O ρ σ H _ E e1 k' e3 _ fun H1 x1 => kk H1 x1
theorem t_cmp {o : CmpOp} (hu : X.A.units + 65 < cLine) (hm : behindInMarks o b = false) (ha : EX cs own .bor X a f) (hb : EX cs own .bor X b g) :
    TX cs own X (.Compare a [o] [b] pos) fun ρ => (f ρ).bind fun x => (g ρ).bind fun y => (cmpD o x y).map .bool := by
  obtain ⟨ta, pa, qa⟩ := ha
  obtain ⟨tb, pb, qb⟩ := hb
  obtain ⟨r, hr, q⟩ := cmp_ok (X := X) (cs := cs) hu o
  refine ⟨_, pt_cmpR hr pa pb hm, fun O ρ σ H d E ed k ek Q kk => ?_⟩
  obtain ⟨x, e1, ed⟩ := Option.bind_eq_some_iff.mp ed
  obtain ⟨y, e2, ed⟩ := Option.bind_eq_some_iff.mp ed
  refine qa O ρ σ H x E e1 _ fun vx H1 x1 r1 => qb O ρ σ H1 y (E.ext x1) e2 _ fun vy H2 x2 r2 => ?_
  refine q O H2 vx vy x y d _ (E.ext (x1.trans x2)).trk (E.ext (x1.trans x2)).tabs (RepB.ext r1 x2) r2 ed fun v H3 x3 r3 => ?_
  obtain ⟨b, _, rfl⟩ := Option.map_eq_some_iff.mp ed
  cases ek
  have := (RepF.plain rfl).mp r3
  cases this
  exact ⟨_, rfl, kk H3 ((x1.trans x2).trans x3)⟩
theorem t_chain {o o' : CmpOp} (hu : X.A.units + 65 < cLine) (hm : lastMarks [o, o'] [b, c] = false) (ha : EX cs own .bor X a f) (hb : EX cs own .bor X b g) (hc : EX cs own .bor X c h) :
    TX cs own X (.Compare a [o, o'] [b, c] pos) (chainD o o' f g h) := by
  obtain ⟨ta, pa, qa⟩ := ha
  obtain ⟨tb, pb, qb⟩ := hb
  obtain ⟨tc, pc, qc⟩ := hc
  obtain ⟨r, hr, q⟩ := cmp_ok (X := X) (cs := cs) hu o
  obtain ⟨r', hr', q'⟩ := cmp_ok (X := X) (cs := cs) hu o'
  refine ⟨_, pt_chain hr hr' pa pb pc hm, fun O ρ σ H d E ed k ek Q kk => ?_⟩
  refine chain_law q q' qa qb qc O ρ σ H d E ed _ fun v H1 x1 r1 => ?_
  have hd : ∃ b, d = .bool b := by
    obtain ⟨x, e1, ed⟩ := Option.bind_eq_some_iff.mp ed
    obtain ⟨y, e2, ed⟩ := Option.bind_eq_some_iff.mp ed
    obtain ⟨k2, e3, ed⟩ := Option.bind_eq_some_iff.mp ed
    cases k2 with
    | false => cases ed; exact ⟨_, rfl⟩
    | true =>
      obtain ⟨z, e4, e5⟩ := Option.bind_eq_some_iff.mp ed
      obtain ⟨b, _, rfl⟩ := Option.map_eq_some_iff.mp e5
      exact ⟨b, rfl⟩
  obtain ⟨b, rfl⟩ := hd
  cases ek
  have := (RepF.plain rfl).mp r1
  cases this
  exact ⟨_, rfl, kk H1 x1⟩
theorem t_isn {j : Nat} {pos' : Pos} (ha : EX cs own .bor X a f) : TX cs own X (.Compare a [.Is] [.Constant .none j pos'] pos) fun ρ => (f ρ).map fun x => match x with
    | .none => .bool true
    | _ => .bool false := by
  obtain ⟨t, p, q⟩ := ha
  refine ⟨_, pt_cmp (pc_isN p) (nomark _), fun O ρ σ H d E ed k ek Q kk => ?_⟩
  obtain ⟨x, e1, e2⟩ := Option.map_eq_some_iff.mp ed
  subst e2
  refine q O ρ σ H _ E e1 _ fun v H1 x1 r1 => ?_
  rw [none_rep r1]
  exact ⟨k, by cases x <;> cases ek <;> rfl, kk H1 x1⟩
theorem t_isnn {j : Nat} {pos' : Pos} (ha : EX cs own .bor X a f) : TX cs own X (.Compare a [.IsNot] [.Constant .none j pos'] pos) fun ρ => (f ρ).map fun x => match x with
    | .none => .bool false
    | _ => .bool true := by
  obtain ⟨t, p, q⟩ := ha
  refine ⟨_, pt_cmp (pc_notN p) (nomark _), fun O ρ σ H d E ed k ek Q kk => ?_⟩
  obtain ⟨x, e1, e2⟩ := Option.map_eq_some_iff.mp ed
  subst e2
  refine q O ρ σ H _ E e1 _ fun v H1 x1 r1 => ?_
  rw [none_rep r1]
  exact ⟨k, by cases x <;> cases ek <;> rfl, kk H1 x1⟩
def iteD (c f g : Env → Option D) (ρ : Env) : Option D := (c ρ).bind fun x => (truthy x).bind fun k => if k = true then f ρ else g ρ
theorem x_ite (hc : TX cs own X c h) (ha : EX cs own m X a f) (hb : EX cs own m X b g) : EX cs own m X (.IfExp c a b pos) (iteD h f g) := by
  obtain ⟨tc, pc, qc⟩ := hc
  obtain ⟨ta, pa, qa⟩ := ha
  obtain ⟨tb, pb, qb⟩ := hb
  refine ⟨_, pe_ifExp pc pa pb, fun O ρ σ H d E ed Q k => ?_⟩
  obtain ⟨x, e1, ed⟩ := Option.bind_eq_some_iff.mp ed
  obtain ⟨k', e2, ed⟩ := Option.bind_eq_some_iff.mp ed
  refine qc O ρ σ H x E e1 k' e2 _ fun H1 x1 => ?_
  cases k' with
  | true => exact qa O ρ σ H1 d (E.ext x1) ed _ fun v H2 x2 r2 => k v H2 (x1.trans x2) (repM_back (X := X) m _ _ _ _ _ _ x1 r2)
  | false => exact qb O ρ σ H1 d (E.ext x1) ed _ fun v H2 x2 r2 => k v H2 (x1.trans x2) (repM_back (X := X) m _ _ _ _ _ _ x1 r2)
def tIfT (t ta tb : TT) : TT := fun σ H Q => t σ H fun c H1 => if c = true then ta σ H1 Q else tb σ H1 Q
theorem pt_ite {t ta tb : TT} (hc : PT X c t) (ha : PT X a ta) (hb : PT X b tb) : PT X (.IfExp c a b pos) (tIfT t ta tb) := by
  refine ⟨fun pins s σ H Q I hq => ?_⟩
  refine isTrue_IfExp (thn (hc.run pins s σ H _ I hq) fun d s1 ⟨H1, I1, q1⟩ => ?_)
  cases d with
  | true => exact ha.run pins s1 σ H1 Q I1 q1
  | false => exact hb.run pins s1 σ H1 Q I1 q1
theorem t_ite (hc : TX cs own X c h) (ha : TX cs own X a f) (hb : TX cs own X b g) : TX cs own X (.IfExp c a b pos) (iteD h f g) := by
  obtain ⟨tc, pc, qc⟩ := hc
  obtain ⟨ta, pa, qa⟩ := ha
  obtain ⟨tb, pb, qb⟩ := hb
  refine ⟨_, pt_ite pc pa pb, fun O ρ σ H d E ed k ek Q kk => ?_⟩
  obtain ⟨x, e1, ed⟩ := Option.bind_eq_some_iff.mp ed
  obtain ⟨k', e2, ed⟩ := Option.bind_eq_some_iff.mp ed
  refine qc O ρ σ H x E e1 k' e2 _ fun H1 x1 => ?_
  cases k' with
  | true => exact qa O ρ σ H1 d (E.ext x1) ed k ek _ fun H2 x2 => kk H2 (x1.trans x2)
  | false => exact qb O ρ σ H1 d (E.ext x1) ed k ek _ fun H2 x2 => kk H2 (x1.trans x2)
/-- and, or: one more in front -/
def bopD (o : BoolOp) (f g : Env → Option D) (ρ : Env) : Option D := (f ρ).bind fun x => (truthy x).bind fun k => match o with
    | .And => if k = true then g ρ else some x
    | .Or => if k = true then some x else g ρ
theorem x_bop {o : BoolOp} {rest : List Expr} (ha : EX cs own m X a f) (hm : m ≠ .fr) (hb : EX cs own m X (.BoolOp o (b :: rest) pos) g) : EX cs own m X (.BoolOp o (a :: b :: rest) pos) (bopD o f g) := by
  obtain ⟨ta, pa, qa⟩ := ha
  obtain ⟨tb, pb, qb⟩ := hb
  have tru : ∀ {H H' : Hp} {O : Addr → Prop} {v : V} {d : D} {k : Bool}, RepM m X.K H H' O v d → truthy d = some k → TruV X.K v H' k := fun {H H' O v d k} r e => by
    cases m with
    | val => exact tru_of (Rep.b r) e
    | bor => exact tru_of r e
    | fr => exact absurd rfl hm
  have back := repM_back (X := X) m
  cases o with
  | And =>
    refine ⟨_, pe_andT pa pb, fun O ρ σ H d E ed Q k => ?_⟩
    obtain ⟨x, e1, ed⟩ := Option.bind_eq_some_iff.mp ed
    obtain ⟨k', e2, ed⟩ := Option.bind_eq_some_iff.mp ed
    refine qa O ρ σ H x E e1 _ fun v H1 x1 r1 => ⟨k', tru r1 e2, ?_⟩
    cases k' with
    | true => exact qb O ρ σ H1 d (E.ext x1) ed _ fun v H2 x2 r2 => k v H2 (x1.trans x2) (back _ _ _ _ _ _ x1 r2)
    | false => cases ed; exact k v H1 x1 r1
  | Or =>
    refine ⟨_, pe_orT pa pb, fun O ρ σ H d E ed Q k => ?_⟩
    obtain ⟨x, e1, ed⟩ := Option.bind_eq_some_iff.mp ed
    obtain ⟨k', e2, ed⟩ := Option.bind_eq_some_iff.mp ed
    refine qa O ρ σ H x E e1 _ fun v H1 x1 r1 => ⟨k', tru r1 e2, ?_⟩
    cases k' with
    | false => exact qb O ρ σ H1 d (E.ext x1) ed _ fun v H2 x2 r2 => k v H2 (x1.trans x2) (back _ _ _ _ _ _ x1 r2)
    | true => cases ed; exact k v H1 x1 r1
theorem x_bop1 {o : BoolOp} (ha : EX cs own m X a f) : EX cs own m X (.BoolOp o [a] pos) f := by
  obtain ⟨ta, pa, qa⟩ := ha
  exact ⟨_, pe_one pa, qa⟩
/-- a test whatever its whole -/
def WX (cs : List Addr) (own : List Nat) (X : Cx) (e : Expr) (f : Env → Option D) : Prop :=
  ∃ t, PW X e t ∧ ∀ O ρ σ H d, EnvOk X.K cs O own ρ σ H → f ρ = some d → ∀ k, truthy d = some k → ∀ Q : Bool → Hp → Prop, (∀ H', Ext H H' → Q k H') → t σ H Q
theorem WX.t (h : WX cs own X e f) : TX cs own X e f := by
  obtain ⟨t, p, q⟩ := h
  exact ⟨t, p.pt, q⟩
theorem w_bop1 {o : BoolOp} (ha : TX cs own X a f) : WX cs own X (.BoolOp o [a] pos) f := by
  obtain ⟨ta, pa, qa⟩ := ha
  cases o with
  | And => exact ⟨_, pw_and1 pa, qa⟩
  | Or => exact ⟨_, pw_or1 pa, qa⟩
theorem w_bop {o : BoolOp} {rest : List Expr} (ha : TX cs own X a f) (hb : WX cs own X (.BoolOp o (b :: rest) pos) g) : WX cs own X (.BoolOp o (a :: b :: rest) pos) (bopD o f g) := by
  obtain ⟨ta, pa, qa⟩ := ha
  obtain ⟨tb, pb, qb⟩ := hb
  cases o with
  | And =>
    refine ⟨_, pw_and pa pb, fun O ρ σ H d E ed k ek Q kk => ?_⟩
    obtain ⟨x, e1, ed⟩ := Option.bind_eq_some_iff.mp ed
    obtain ⟨k', e2, ed⟩ := Option.bind_eq_some_iff.mp ed
    refine qa O ρ σ H x E e1 k' e2 _ fun H1 x1 => ?_
    cases k' with
    | true => exact qb O ρ σ H1 d (E.ext x1) ed k ek _ fun H2 x2 => kk H2 (x1.trans x2)
    | false => cases ed; rw [e2] at ek; cases ek; exact kk H1 x1
  | Or =>
    refine ⟨_, pw_or pa pb, fun O ρ σ H d E ed k ek Q kk => ?_⟩
    obtain ⟨x, e1, ed⟩ := Option.bind_eq_some_iff.mp ed
    obtain ⟨k', e2, ed⟩ := Option.bind_eq_some_iff.mp ed
    refine qa O ρ σ H x E e1 k' e2 _ fun H1 x1 => ?_
    cases k' with
    | false => exact qb O ρ σ H1 d (E.ext x1) ed k ek _ fun H2 x2 => kk H2 (x1.trans x2)
    | true => cases ed; rw [e2] at ek; cases ek; exact kk H1 x1
end
end PC

namespace PC
open PySem PySem.Spec PyProof.Rows L2

section
variable {FN : List Str} {Φ : Nat → List D → Option D} {n : Nat} {cs : List Addr} {own : List Nat} {m : Md} {X : Cx} {e a b c : Expr} {es : List Expr} {f g h : Env → Option D} {fs : Env → Option (List D)} {pos p p2 : Pos}
theorem Gd.u65 (G : Gd FN cs Φ n X) : X.A.units + 65 < cLine := by have := G.room.un; omega
theorem Gd.u66 (G : Gd FN cs Φ n X) : X.A.units + 66 < cLine := by have := G.room.un; omega
theorem Gd.u1 (G : Gd FN cs Φ n X) : X.A.units + 1 < cLine := by have := G.room.un; omega

/-! ### calls of the program's defs -/
theorem x_call {x : Str} {i : Nat} (G : Gd FN cs Φ n X) (hx : FN[i]? = some x) (hg : Gl X x) (hs : (e :: es).all noStar = true) (hdb : (x == ("__debug__" : Str)) = false) (ha : AX cs own X (e :: es) fs) :
    EX cs own .val X (.Call (.Name x p) (e :: es) [] pos) fun ρ => (fs ρ).bind (Φ i) := by
  obtain ⟨t, pa, q⟩ := ha
  obtain ⟨fa, fd, ps, hm, hk, hb, F⟩ := G.fn i x hx
  simp only [List.all_cons, Bool.and_eq_true] at hs
  refine ⟨_, pe_call (E := E0) F G.room hg hm hk hb .nil pass0 pa hdb (star_cons hs.1) (star_none hs.2), fun O ρ σ H d E ed Q k => ?_⟩
  obtain ⟨ds, e1, e2⟩ := Option.bind_eq_some_iff.mp ed
  refine q O ρ σ H ds E e1 _ fun vs H1 x1 r1 => ?_
  rw [List.append_nil]
  exact ⟨(E.ext x1).tabs, O, ds, d, (E.ext x1).trk, r1, e2, fun v H2 x2 r2 => k v H2 (x1.trans x2) r2⟩
theorem x_call0 {x : Str} {i : Nat} (G : Gd FN cs Φ n X) (hx : FN[i]? = some x) (hg : Gl X x) (hdb : (x == ("__debug__" : Str)) = false) :
    EX cs own .val X (.Call (.Name x p) [] [] pos) fun _ => Φ i [] := by
  obtain ⟨fa, fd, ps, hm, hk, hb, F⟩ := G.fn i x hx
  refine ⟨_, pe_call0 (E := E0) F G.room hg hm hk hb .nil pass0 hdb, fun O ρ σ H d E ed Q k => ?_⟩
  exact ⟨E.tabs, O, [], d, E.trk, .nil, ed, fun v H2 x2 r2 => k v H2 x2 r2⟩
theorem flat_any {K : PySem.W.Frag} {H : Hp} {O O' : Addr → Prop} {v : V} {d : D} (h : isFlat d = true) (r : Rep K H O v d) : Rep K H O' v d ∧ isBox d = false := by
  cases d with
  | none => cases r; exact ⟨.non, rfl⟩
  | bool b => cases r; exact ⟨.bl _, rfl⟩
  | int i => cases r; exact ⟨.int _, rfl⟩
  | str s => cases r with | str h1 h2 => exact ⟨.str h1 h2, rfl⟩
  | _ => cases h
theorem x_callb {x : Str} {i : Nat} (G : Gd FN cs Φ n X) (hx : FN[i]? = some x) (hg : Gl X x) (hs : (e :: es).all noStar = true) (hdb : (x == ("__debug__" : Str)) = false) (ha : BX cs own X (e :: es) fs) :
    EX cs own .fr X (.Call (.Name x p) (e :: es) [] pos) fun ρ => (fs ρ).bind fun xs => (Φ i xs).bind fun d => if isFlat d = true then some d else none := by
  obtain ⟨t, pa, q⟩ := ha
  obtain ⟨fa, fd, ps, hm, hk, hb, F⟩ := G.fn i x hx
  simp only [List.all_cons, Bool.and_eq_true] at hs
  refine ⟨_, pe_call (E := E0) F G.room hg hm hk hb .nil pass0 pa hdb (star_cons hs.1) (star_none hs.2), fun O ρ σ H d E ed Q k => ?_⟩
  obtain ⟨ds, e1, e2⟩ := Option.bind_eq_some_iff.mp ed
  obtain ⟨d', e3, e4⟩ := Option.bind_eq_some_iff.mp e2
  split at e4
  · rename_i hf
    cases e4
    refine q O ρ σ H ds E e1 _ fun vs H1 x1 r1 => ?_
    rw [List.append_nil]
    refine ⟨(E.ext x1).tabs, noA, ds, d, fun _ z => z.elim, RepBL.rep0 r1 (fun _ z => z.elim) (fun _ z => z), e3, fun v H2 x2 r2 => k v H2 (x1.trans x2) ?_⟩
    obtain ⟨r3, hb⟩ := flat_any (O' := O) hf r2
    exact (RepF.plain hb).mpr r3
  · cases e4

/-! ### built-ins -/
theorem pe_calV {x : Str} {u : Value} {r : List V → Hp → VK → Prop} {t : TA} (hu : (∃ id, u = .builtin id) ∨ ∃ T, u = .type T) (hc : CallR X u r) (hg : Gl X x) (hm : X.mg x = none) (hv : bootBuiltins x = some u) (ha : PA X (e :: es) t) (hn : x ≠ "__name__") (hdb : (x == ("__debug__" : Str)) = false)
    (hs : (e :: es).all noStar = true) : PE X (.Call (.Name x p) (e :: es) [] pos) (tCB r t) := by
  simp only [List.all_cons, Bool.and_eq_true] at hs
  rcases hu with ⟨id, rfl⟩ | ⟨T, rfl⟩
  · exact pe_callB hc hg hm hv ha hn hdb (star_cons hs.1) (star_none hs.2)
  · exact pe_callTy hc hg hm hv ha hn hdb (star_cons hs.1) (star_none hs.2)
theorem x_bi {b : Bi} (G : Gd FN cs Φ n X) (hg : Gl X b.nm) (hs : (e :: es).all noStar = true) (ha : BX cs own X (e :: es) fs) :
    EX cs own (if biFr b = true then .fr else .val) X (.Call (.Name b.nm p) (e :: es) [] pos) fun ρ => (fs ρ).bind (biD b) := by
  obtain ⟨t, pa, q⟩ := ha
  obtain ⟨r, hr, qr⟩ := bi_ok G.calm G.u66 G.room.hd b
  obtain ⟨n1, n2, n3⟩ := bi_name b
  refine ⟨_, pe_calV (by cases b <;> first | exact .inl ⟨_, rfl⟩ | exact .inr ⟨_, rfl⟩) hr hg (G.bn _ n1) (bi_boot b) pa n2 n3 hs, fun O ρ σ H d E ed Q k => ?_⟩
  obtain ⟨ds, e1, e2⟩ := Option.bind_eq_some_iff.mp ed
  refine q O ρ σ H ds E e1 _ fun vs H1 x1 r1 => qr O H1 vs ds d Q (E.ext x1).trk r1 e2 fun v H2 x2 r2 => k v H2 (x1.trans x2) ?_
  unfold RepG at r2
  split at r2
  · rename_i hb
    rw [if_pos hb]
    exact RepF.back r2 x1
  · rename_i hb
    rw [if_neg hb]
    exact r2
theorem ty_boot (t : Ty) : bootBuiltins (Str.ofString t.nm) = some (.type t.nm) ∧ Str.ofString t.nm ∈ BN ∧ Str.ofString t.nm ≠ "__name__" ∧ (Str.ofString t.nm == ("__debug__" : Str)) = false := by
  cases t <;> (refine ⟨?_, ?_⟩ <;> first | decide +kernel | (show _ = some _; decide +kernel))
theorem isi_name : bootBuiltins "isinstance" = some (.builtin "isinstance") := by
  show _ = some _
  decide +kernel
theorem x_isi {t : Ty} (G : Gd FN cs Φ n X) (hg : Gl X "isinstance") (hg2 : Gl X (Str.ofString t.nm)) (hs : noStar a = true) (ha : EX cs own .bor X a f) :
    EX cs own .fr X (.Call (.Name "isinstance" p) [a, .Name (Str.ofString t.nm) p2] [] pos) fun ρ => (f ρ).map fun x => .bool (isiD x t) := by
  obtain ⟨ta, pa, q⟩ := ha
  obtain ⟨b1, b2, b3, b4⟩ := ty_boot t
  have pt : PE X (.Name (Str.ofString t.nm) p2) (tC (.ty t.nm)) := pe_bltn hg2 (G.bn _ b2) b1 rfl b3 b4
  refine ⟨_, pe_callB call_isi hg (G.bn _ (by decide +kernel)) isi_name (pa_cons pa (pa_cons pt pa_nil (star_cons rfl)) (star_cons hs)) (by decide) (by decide) (star_cons hs) (star_none rfl), fun O ρ σ H d E ed Q k => ?_⟩
  obtain ⟨x, e1, e2⟩ := Option.map_eq_some_iff.mp ed
  subst e2
  refine q O ρ σ H x E e1 _ fun v H1 x1 r1 => ⟨v, .ty t.nm, _, _, isiD x t, rfl, .ty _, tyx_of r1, kit_ty (kit_isi x t), k _ H1 x1 ((RepF.plain rfl).mpr (.bl _))⟩

/-! ### slices -/
/-- a slice's bound -/
def OX (cs : List Addr) (own : List Nat) (X : Cx) (o : Option Expr) (f : Env → Option (Option Int)) : Prop :=
  ∃ t, PO X o t ∧ ∀ O ρ σ H i, EnvOk X.K cs O own ρ σ H → f ρ = some i → ∀ Q : Option Int → Hp → Prop, (∀ H', Ext H H' → Q i H') → t σ H Q
theorem o_none : OX cs own X none fun _ => some none := ⟨_, po_none, fun O ρ σ H i E e Q k => by cases e; exact k H Evo.refl⟩
theorem o_some (ha : EX cs own .bor X a f) : OX cs own X (some a) fun ρ => optI (f ρ) := by
  obtain ⟨t, pa, q⟩ := ha
  refine ⟨_, po_some pa, fun O ρ σ H i E ed Q k => ?_⟩
  replace ed : optI (f ρ) = some i := ed
  unfold optI at ed
  split at ed
  · rename_i j hj
    cases ed
    exact q O ρ σ H _ E hj _ fun v H1 x1 r1 => ⟨j, RepB.int.mp r1, k H1 x1⟩
  · cases ed
theorem x_sl {lo hi : Option Expr} {fl fh : Env → Option (Option Int)} (ha : EX cs own .bor X a f) (hl : OX cs own X lo fl) (hh : OX cs own X hi fh) :
    EX cs own .fr X (.Subscript a (.Slice lo hi none p2) pos) fun ρ => (f ρ).bind fun x => (fl ρ).bind fun l => (fh ρ).bind fun h => sliceD x l h := by
  obtain ⟨ta, pa, qa⟩ := ha
  obtain ⟨tl, pl, ql⟩ := hl
  obtain ⟨th, ph, qh⟩ := hh
  obtain ⟨r, hr, q⟩ := sl_ok (X := X)
  refine ⟨_, pe_slice hr pa pl ph, fun O ρ σ H d E ed Q k => ?_⟩
  obtain ⟨x, e1, ed⟩ := Option.bind_eq_some_iff.mp ed
  obtain ⟨l, e2, ed⟩ := Option.bind_eq_some_iff.mp ed
  obtain ⟨u, e3, ed⟩ := Option.bind_eq_some_iff.mp ed
  refine qa O ρ σ H x E e1 _ fun v H1 x1 r1 => ql O ρ σ H1 l (E.ext x1) e2 _ fun H2 x2 => qh O ρ σ H2 u (E.ext (x1.trans x2)) e3 _ fun H3 x3 => ?_
  have x03 := (x1.trans x2).trans x3
  exact q O H3 v x d l u Q (E.ext x03).trk (RepB.ext r1 (x2.trans x3)) ed fun w H4 x4 r4 => k w H4 (x03.trans x4) (RepF.back r4 x03)
theorem plainIx (h : (match b with
    | .Slice .. => false
    | _ => true) = true) : PlainIx b := by
  intro o i
  cases b <;> first | rfl | cases h

/-! ### [..] * k -/
theorem x_rpt (ha : AX cs own X es fs) (hb : EX cs own .bor X b g) : EX cs own .fr X (.BinOp (.List es p) .Mult b pos) fun ρ => (fs ρ).bind fun xs => (g ρ).bind fun y => if xs.length ≤ SL then mulL (.list xs) y else none := by
  obtain ⟨ta, pa, qa⟩ := ha
  obtain ⟨tb, pb, qb⟩ := hb
  refine ⟨_, pe_op op_rep (pe_lst pa) pb, fun O ρ σ H d E ed Q k => ?_⟩
  obtain ⟨xs, e1, ed⟩ := Option.bind_eq_some_iff.mp ed
  obtain ⟨y, e2, ed⟩ := Option.bind_eq_some_iff.mp ed
  split at ed
  · rename_i hz
    unfold mulL at ed
    split at ed
    · rename_i xs' kk hxs
      cases hxs
      split at ed
      · rename_i hk
        cases ed
        simp only [small62, Bool.and_eq_true, decide_eq_true_eq] at hk
        refine qa O ρ σ H xs E e1 _ fun vs H1 x1 r1 => ⟨by rw [← sl_line, r1.length]; exact hz, fun p hp => ?_⟩
        have x01 := x1.trans (Ext.new hp (.lst vs))
        refine qb O ρ σ _ _ (E.ext x01) e2 _ fun w H2 x2 r2 => ?_
        refine ⟨p, kk, vs, rfl, RepB.int.mp r2, x2.keep p _ upd_same (fun z => z) (fun _ z => by cases z), by omega, by omega, by rw [← sl_line, r1.length]; exact hk.2, fun q hq => ?_⟩
        have x02 := x01.trans x2
        exact k _ _ (x02.trans (Ext.new hq _)) (RepF.back (RepF.newList hq ((r1.ext ((Ext.new hp (.lst vs)).trans x2)).rep _)) x02)
      · cases ed
    · cases ed
  · cases ed
end
end PC

namespace PC
open PySem PySem.Spec PyProof.Rows L2

/-! ### what is walked -/
structure Wk (K : PySem.W.Frag) (J : It) (ds : List D) (B : Addr → Prop) (G : (Addr → Prop) → Hp → Prop) : Prop where
  goes : ∀ i O H, i < ds.length → G O H → J.go i H
  stops : ∀ O H, G O H → J.stop ds.length H
  yields : ∀ i O H x H', i < ds.length → G O H → (∀ a, O a → H a ≠ none) → J.yld i H x H' → Ext H H' ∧ ∃ d, ds[i]? = some d ∧ Rep K H' O x d
  stay : ∀ (M O O' : Addr → Prop) H H', G O H → Evo M H H' → (∀ b, H b ≠ none → ¬ O b → ¬ M b ∧ ¬ O' b) → (∀ b, B b → ¬ M b) → G O' H'
def tI (cs : List Addr) (own : List Nat) (bo : Bool) (K : PySem.W.Frag) (f : Env → Option (List D)) : TI := fun σ H R =>
  ∃ O ρ ds, EnvOk K cs O own ρ σ H ∧ f ρ = some ds ∧ ∀ J H' B G, Ext H H' → Wk K J ds B G → G O H' → (∀ b, B b → H' b ≠ none ∧ (bo = false → ¬ O b)) → R J H'
abbrev IX (cs : List Addr) (own : List Nat) (bo : Bool) (X : Cx) (tg iter : Expr) (f : Env → Option (List D)) : Prop := PI X tg iter (tI cs own bo X.K f)

section
variable {K : PySem.W.Frag} {a : Addr} {xs : List V} {ds : List D}
theorem getI {xs : List V} {ds : List D} {O : Addr → Prop} {H : Hp} {i : Nat} {x : V} (r : RepL K H O xs ds) (e : xs[i]? = some x) (hi : i < ds.length) : ∃ d, ds[i]? = some d ∧ Rep K H O x d := by
  obtain ⟨y, h1, h2⟩ := r.get (List.getElem?_eq_getElem hi)
  rw [e] at h1
  cases h1
  exact ⟨_, List.getElem?_eq_getElem hi, h2⟩
theorem wk_list : Wk K (Itl K a) ds (fun b => b = a) (fun O H => ∃ xs, Rd H a (.lst xs) ∧ RepL K H O xs ds) where
  goes := fun i O H hi ⟨xs, h1, h2⟩ => ⟨xs, xs[i]'(by rw [h2.length]; exact hi), .inl h1, List.getElem?_eq_getElem _⟩
  stops := fun O H ⟨xs, h1, h2⟩ => ⟨xs, .inl h1, by rw [h2.length]; exact Nat.le_refl _⟩
  yields := fun i O H x H' hi ⟨xs, h1, h2⟩ _ y => by
    obtain ⟨rfl, y⟩ := y
    exact ⟨Evo.refl, getI h2 (y xs (.inl h1)) hi⟩
  stay := fun M O O' H H' ⟨xs, h1, h2⟩ x hm hb => ⟨xs, x.rd h1 (hb a rfl) (fun _ z => by cases z), RepL.evo x hm _ _ h2⟩
theorem wk_klist (k : KLs K a xs) : Wk K (Itl K a) ds noA (fun O H => RepL K H O xs ds) where
  goes := fun i O H hi h2 => ⟨xs, xs[i]'(by rw [h2.length]; exact hi), LsO.sq (O := noA) (.inr k), List.getElem?_eq_getElem _⟩
  stops := fun O H h2 => ⟨xs, LsO.sq (O := noA) (.inr k), by rw [h2.length]; exact Nat.le_refl _⟩
  yields := fun i O H x H' hi h2 _ y => by
    obtain ⟨rfl, y⟩ := y
    exact ⟨Evo.refl, getI h2 (y xs (LsO.sq (O := noA) (.inr k))) hi⟩
  stay := fun M O O' H H' h2 x hm _ => RepL.evo x hm _ _ h2
theorem wk_tup : Wk K (Itt K a) ds (fun b => b = a) (fun O H => ∃ xs, H a = some (.tup xs) ∧ RepL K H O xs ds) where
  goes := fun i O H hi ⟨xs, h1, h2⟩ => ⟨xs, xs[i]'(by rw [h2.length]; exact hi), SqT.of h1, List.getElem?_eq_getElem _⟩
  stops := fun O H ⟨xs, h1, h2⟩ => ⟨xs, SqT.of h1, by rw [h2.length]; exact Nat.le_refl _⟩
  yields := fun i O H x H' hi ⟨xs, h1, h2⟩ _ y => by
    obtain ⟨rfl, y⟩ := y
    exact ⟨Evo.refl, getI h2 (y xs (SqT.of h1)) hi⟩
  stay := fun M O O' H H' ⟨xs, h1, h2⟩ x hm hb => ⟨xs, x.keep a _ h1 (hb a rfl) (fun _ z => by cases z), RepL.evo x hm _ _ h2⟩
theorem wk_str {z : Str} (h1 : PyData.strOk z = true) : Wk K (Its z) (z.cps.toList.map fun c => .str ⟨#[c]⟩) noA (fun _ _ => True) where
  goes := fun i O H hi _ => by
    show i < z.cps.size
    simpa using hi
  stops := fun O H _ => by
    show z.cps.size ≤ _
    simp
  yields := fun i O H x H' hi _ _ y => by
    obtain ⟨rfl, c, e1, rfl⟩ := y
    refine ⟨Evo.refl, .str ⟨#[c]⟩, by simp [e1], .str (strOk_of (l := [c]) fun c' hc => ?_) (by show 1 ≤ SL; decide)⟩
    have e : c' = c := by simpa using hc
    subst e
    refine strOk_cps h1 ?_
    rw [Array.getElem?_eq_some_iff] at e1
    obtain ⟨hlt, e1⟩ := e1
    rw [← e1]
    simp
  stay := fun _ _ _ _ _ _ _ _ _ => trivial
theorem wk_range {lo : Int} {n : Nat} (e : ds = (List.range n).map fun i => .int (lo + (i : Nat))) : Wk K (Itr lo n) ds noA (fun _ _ => True) where
  goes := fun i O H hi _ => by
    subst e
    show i < n
    simpa using hi
  stops := fun O H _ => by subst e; simp [Itr]
  yields := fun i O H x H' hi _ _ y => by
    subst e
    obtain ⟨rfl, rfl⟩ := y
    have hi' : i < n := by simpa using hi
    exact ⟨Evo.refl, .int (lo + (i : Nat)), by simp [hi'], .int _⟩
  stay := fun _ _ _ _ _ _ _ _ _ => trivial
theorem enum_len (ds : List D) : (enumL ds).length = ds.length := by simp [enumL]
theorem enum_get {ds : List D} {i : Nat} (hi : i < ds.length) : (enumL ds)[i]? = some (.tuple [.int (i : Nat), ds[i]]) := by
  unfold enumL
  rw [List.getElem?_zipWith]
  simp [hi]
theorem pair_rep {H H' : Hp} {O : Addr → Prop} {T : Addr} {x : V} {i : Nat} {d : D} (hO : ∀ a, O a → H a ≠ none) (hT : H T = none) (r : Rep K H O x d) :
    Ext H (upd H T (.tup [.int (i : Nat), x])) ∧ Rep K (upd H T (.tup [.int (i : Nat), x])) O (.ref T) (.tuple [.int (i : Nat), d]) :=
  ⟨Ext.new hT _, .tup ⟨upd_same, fun z => hO T z hT⟩ (.cons (.int _) (.cons (r.ext (Ext.new hT _)) .nil))⟩
theorem enum_yield {O : Addr → Prop} {H H' : Hp} {i : Nat} {v : V} (h1 : SqL K H a xs) (h2 : RepL K H O xs ds) (hi : i < (enumL ds).length) (hO : ∀ a, O a → H a ≠ none) (y : (Ite K a).yld i H v H') :
    Ext H H' ∧ ∃ d, (enumL ds)[i]? = some d ∧ Rep K H' O v d := by
  obtain ⟨T, x, rfl, hT, rfl, y⟩ := y
  rw [enum_len] at hi
  obtain ⟨d, e1, r1⟩ := getI h2 (y xs h1) hi
  rw [List.getElem?_eq_getElem hi] at e1
  cases e1
  obtain ⟨x1, x2⟩ := pair_rep (H' := H) (i := i) hO hT r1
  exact ⟨x1, _, enum_get hi, x2⟩
theorem wk_enum : Wk K (Ite K a) (enumL ds) (fun b => b = a) (fun O H => ∃ xs, Rd H a (.lst xs) ∧ RepL K H O xs ds) where
  goes := fun i O H hi ⟨xs, h1, h2⟩ => ⟨xs, xs[i]'(by rw [h2.length]; rw [enum_len] at hi; exact hi), .inl h1, List.getElem?_eq_getElem _⟩
  stops := fun O H ⟨xs, h1, h2⟩ => ⟨xs, .inl h1, by rw [h2.length, enum_len]; exact Nat.le_refl _⟩
  yields := fun i O H x H' hi ⟨xs, h1, h2⟩ hO y => enum_yield (.inl h1) h2 hi hO y
  stay := fun M O O' H H' ⟨xs, h1, h2⟩ x hm hb => ⟨xs, x.rd h1 (hb a rfl) (fun _ z => by cases z), RepL.evo x hm _ _ h2⟩
theorem wk_kenum (k : KLs K a xs) : Wk K (Ite K a) (enumL ds) noA (fun O H => RepL K H O xs ds) where
  goes := fun i O H hi h2 => ⟨xs, xs[i]'(by rw [h2.length]; rw [enum_len] at hi; exact hi), LsO.sq (O := noA) (.inr k), List.getElem?_eq_getElem _⟩
  stops := fun O H h2 => ⟨xs, LsO.sq (O := noA) (.inr k), by rw [h2.length, enum_len]; exact Nat.le_refl _⟩
  yields := fun i O H x H' hi h2 hO y => enum_yield (LsO.sq (O := noA) (.inr k)) h2 hi hO y
  stay := fun M O O' H H' h2 x hm _ => RepL.evo x hm _ _ h2
end

section
variable {FN : List Str} {Φ : Nat → List D → Option D} {n : Nat} {cs : List Addr} {own : List Nat} {m : Md} {X : Cx} {e a b c tg : Expr} {es : List Expr} {f g h : Env → Option D} {pos p : Pos}
/-- a list, a tuple, a text -/
def iAny (K : PySem.W.Frag) (tl : TE) : TI := fun σ H R => tl σ H fun x H1 =>
  (∃ a, x = .ref a ∧ (∃ xs, SqL K H1 a xs) ∧ R (Itl K a) H1) ∨ (∃ a, x = .ref a ∧ (∃ xs, SqT K H1 a xs) ∧ R (Itt K a) H1) ∨ ∃ z, x = .str z ∧ R (Its z) H1
theorem pi_any {tl : TE} (hl : PE X e tl) : PI X tg e (iAny X.K tl) := by
  refine ⟨fun pins s σ H R I hw => thn (hl.run pins s σ H _ I hw) fun v s1 ⟨x, H1, I1, r1, q1⟩ => ?_⟩
  rcases q1 with ⟨a, rfl, ⟨xs, hq⟩, q⟩ | ⟨a, rfl, ⟨xs, hq⟩, q⟩ | ⟨z, rfl, q⟩
  · cases r1
    obtain ⟨its, rv, pl, hz⟩ := I1.list hq
    exact wpAny_pyIter_list pl.isList (pi_one (tk := s1.toks) I1 _ (turn_list a _) ⟨_, Heap.get?_push_size _ rfl, rfl, rfl⟩ q)
  · cases r1
    obtain ⟨its, rv, pl, hz⟩ := I1.tuple hq
    exact wpAny_pyIter_tuple (show s1.heap.IsTuple a its.toArray from pl) (pi_one (tk := s1.toks) I1 _ (turn_tuple a _) ⟨_, Heap.get?_push_size _ rfl, rfl, rfl⟩ q)
  · obtain ⟨t, rfl⟩ := r1
    cases ha : z.cps.all (· < 128)
    · exact wpAny_pyIter_wide ha (pi_one (tk := s1.toks) I1 _ (turn_str _ z t "str_iterator" (.inr rfl)) ⟨_, Heap.get?_push_size _ rfl, rfl, rfl⟩ q)
    · exact wpAny_pyIter_ascii ha (pi_one (tk := s1.toks) I1 _ (turn_str _ z t "str_ascii_iterator" (.inl rfl)) ⟨_, Heap.get?_push_size _ rfl, rfl, rfl⟩ q)
def isBorM : Md → Bool
  | .bor => true
  | _ => false
theorem i_it (ha : EX cs own m X a f) : IX cs own (isBorM m) X tg a fun ρ => (f ρ).bind itemsD := by
  have ha' : EX cs own (if isBorM m = true then .bor else .val) X a f := by
    cases m
    · exact ha
    · exact ha
    · exact ha.val
  obtain ⟨t, pa, q⟩ := ha'
  refine ⟨fun pins s σ H R I hw => (pi_any pa).run pins s σ H R I ?_⟩
  obtain ⟨O, ρ, ds, E, ed, k⟩ := hw
  obtain ⟨d, e1, e2⟩ := Option.bind_eq_some_iff.mp ed
  refine q O ρ σ H d E e1 _ fun v H1 x1 r1 => ?_
  have rb : RepB X.K H1 O v d := by
    cases hb : isBorM m <;> rw [hb] at r1
    · exact Rep.b r1
    · exact r1
  cases d with
  | list xs =>
    cases e2
    obtain ⟨a, ys, rfl, h1, h2⟩ := RepB.list.mp rb
    refine .inl ⟨a, rfl, ⟨ys, h1⟩, ?_⟩
    cases hb : isBorM m <;> rw [hb] at r1 k
    · cases (show Rep X.K H1 O (.ref a) (.list ds) from r1) with
      | @lst _ ys2 _ g1 g2 =>
        rcases g1 with ⟨g1, n1⟩ | g1
        · refine k _ H1 _ _ x1 wk_list ⟨ys2, g1, g2⟩ fun b hb => ?_
          subst hb
          exact ⟨by rcases g1 with g | ⟨o, g⟩ <;> (rw [g]; exact fun z => by cases z), fun _ => n1⟩
        · exact k _ H1 _ _ x1 (wk_klist g1) g2 fun b hb => hb.elim
    · rcases h1 with h1 | h1
      · refine k _ H1 _ _ x1 wk_list ⟨ys, h1, h2⟩ fun b hb => ?_
        subst hb
        exact ⟨by rcases h1 with g | ⟨o, g⟩ <;> (rw [g]; exact fun z => by cases z), fun z => by cases z⟩
      · exact k _ H1 _ _ x1 (wk_klist (.inr h1)) h2 fun b hb => hb.elim
  | tuple xs =>
    cases e2
    obtain ⟨a, ys, rfl, h1, h2⟩ := RepB.tuple.mp rb
    refine .inr (.inl ⟨a, rfl, ⟨ys, h1.sq⟩, k _ H1 _ _ x1 wk_tup ⟨ys, h1.1, h2⟩ fun b hb => ?_⟩)
    subst hb
    exact ⟨by (rw [h1.1]; exact fun z => by cases z), fun _ => h1.2⟩
  | str z =>
    cases e2
    obtain ⟨rfl, h1, h2⟩ := RepB.str.mp rb
    exact .inr (.inr ⟨z, rfl, k _ H1 _ _ x1 (wk_str h1) trivial fun b hb => hb.elim⟩)
  | _ => cases e2
theorem i_rng1 (G : Gd FN cs Φ n X) (hg : Gl X "range") (hs : noStar a = true) (ha : EX cs own .bor X a f) : IX cs own false X tg (.Call (.Name "range" p) [a] [] pos) fun ρ => (f ρ).bind fun x => match x with
    | .int n => if small62 n then some (rangeL 0 n) else none
    | _ => none := by
  obtain ⟨t, pa, q⟩ := ha
  refine ⟨fun pins s σ H R I hw => (pi_range1 hg (G.bn _ (by decide +kernel)) (pa_cons pa pa_nil (star_cons hs)) (star_cons hs)).run pins s σ H R I ?_⟩
  obtain ⟨O, ρ, ds, E, ed, k⟩ := hw
  obtain ⟨d, e1, e2⟩ := Option.bind_eq_some_iff.mp ed
  refine q O ρ σ H d E e1 _ fun v H1 x1 r1 => ?_
  cases d <;> simp only [reduceCtorEq] at e2
  rename_i j
  split at e2
  · rename_i hk
    cases e2
    simp only [small62, Bool.and_eq_true, decide_eq_true_eq] at hk
    rw [show v = .int j from RepB.int.mp r1]
    exact ⟨j, rfl, hk.1, hk.2, k _ H1 _ _ x1 (wk_range (by simp [rangeL])) trivial fun b hb => hb.elim⟩
  · cases e2
theorem i_rng2 (G : Gd FN cs Φ n X) (hg : Gl X "range") (hs : noStar a = true) (hs2 : noStar b = true) (ha : EX cs own .bor X a f) (hb : EX cs own .bor X b g) : IX cs own false X tg (.Call (.Name "range" p) [a, b] [] pos) fun ρ => (f ρ).bind fun x => (g ρ).bind fun y => match x, y with
    | .int m, .int n => if small62 m && small62 n then some (rangeL m n) else none
    | _, _ => none := by
  obtain ⟨t, pa, q⟩ := ha
  obtain ⟨t', pb, q'⟩ := hb
  refine ⟨fun pins s σ H R I hw => (pi_range2 hg (G.bn _ (by decide +kernel)) (pa_cons pa (pa_cons pb pa_nil (star_cons hs2)) (star_cons hs)) ((star_cons hs).trans (by rw [star_cons hs2]; rfl)) (star_cons hs2)).run pins s σ H R I ?_⟩
  obtain ⟨O, ρ, ds, E, ed, k⟩ := hw
  obtain ⟨d, e1, e2⟩ := Option.bind_eq_some_iff.mp ed
  obtain ⟨d', e3, e4⟩ := Option.bind_eq_some_iff.mp e2
  refine q O ρ σ H d E e1 _ fun v H1 x1 r1 => q' O ρ σ H1 d' (E.ext x1) e3 _ fun v' H2 x2 r2 => ?_
  cases d <;> cases d' <;> simp only [reduceCtorEq] at e4
  rename_i i j
  split at e4
  · rename_i hk
    cases e4
    simp only [small62, Bool.and_eq_true, decide_eq_true_eq] at hk
    rw [show v = .int i from RepB.int.mp r1, show v' = .int j from RepB.int.mp r2]
    exact ⟨i, j, rfl, ⟨hk.1.1, hk.1.2, hk.2.1, hk.2.2⟩, k _ H2 _ _ (x1.trans x2) (wk_range rfl) trivial fun b hb => hb.elim⟩
  · cases e4
end
end PC

namespace PC
open PySem PySem.Spec PyProof.Rows L2
/-! ### enumerate of a tuple -/
theorem meets_enum1 {v : Value} {o : Obj} {Hh : Heap → Prop} (B : Begins v o Hh) :
    Meets (Builtin.«enumerate.__new__» ⟨[.type "enumerate", v], []⟩) (fun _ R s => Hh s.heap ∧
      R (.ok (.ret (.ref (s.heap.push o).objs.size))) { s with heap := (s.heap.push o).push { cls := .type "enumerate", data := .fields #[.none, .bool false, .ref s.heap.objs.size, rawInt 0, .none, .none] } }) :=
  .of_wp fun prg wd Ar Rr st0 hyp => by
    obtain ⟨hp, gg, dd, tk, oo⟩ := st0
    obtain ⟨h1, hyp⟩ := hyp
    have hsub0 := sub_enumerate
    have begin1 : ∀ {A' : Around} {E : Value → Shared → Prop} {Q : Value → Shared → Prop}, Q (.ref hp.objs.size) ⟨hp.push o, gg, dd, tk, oo⟩ → wpAny (model prg wd) A' (pyIter v) Q E ⟨hp, gg, dd, tk, oo⟩ :=
      fun q => B.iter prg wd _ _ ⟨hp, gg, dd, tk, oo⟩ _ h1 q
    wp_walk using begin1
    refine wpAny_stack_any fun stk => wpAny_pure ?_
    split
    · rename_i cc _ _ _ _ _
      by_cases hcc : (cc == Value.type "enumerate") = true
      · rw [hcc]
        wp_walk using begin1
        exact ⟨_, rfl, hyp⟩
      · rw [Bool.not_eq_true] at hcc
        rw [hcc]
        wp_walk using begin1
        exact ⟨_, rfl, hyp⟩
    · wp_walk using begin1
      exact ⟨_, rfl, hyp⟩
section
variable {prog : Program} {w : World} {A : Around} {E : Value → Shared → Prop} {s : Shared}
theorem enum_tup {t : Addr} {items : Array Value} {Q : Value → Shared → Prop} (hT : s.heap.IsTuple t items)
    (hq : ∀ h', IsEnum h' (s.heap.objs.size + 1) s.heap.objs.size ((0 : Nat) : Int) .none → h'.IsTupleIter s.heap.objs.size t 0 →
      (∀ b o, s.heap.get? b = some o → h'.get? b = some o) → Q (.ref (s.heap.objs.size + 1)) { s with heap := h' }) :
    wpAny (model prog w) A (call (.type "enumerate") [.ref t]) Q E s := by
  refine callType_new F.called_enumerate (by decide) (F.typeCall_enumerate_1 _) (F.newCall_enumerate_1 _) (fun obj => F.args_object_init_2 obj _) F.entry_enumerate_new (meets_enum1 (begins_tuple t items)) ⟨hT, ?_⟩
  have sz : (s.heap.push { cls := .type "tuple_iterator", data := .fields #[.ref t, .int 0 0] }).objs.size = s.heap.objs.size + 1 := Heap.size_push ..
  show _ ∧ _
  rw [sz]
  have isE : IsEnum ((s.heap.push { cls := .type "tuple_iterator", data := .fields #[.ref t, .int 0 0] }).push { cls := .type "enumerate", data := .fields #[.none, .bool false, .ref s.heap.objs.size, rawInt 0, .none, .none] }) (s.heap.objs.size + 1) s.heap.objs.size ((0 : Nat) : Int) .none := by
    have q := Heap.get?_push_size (s.heap.push { cls := .type "tuple_iterator", data := .fields #[.ref t, .int 0 0] }) (o := { cls := .type "enumerate", data := .fields #[.none, .bool false, .ref s.heap.objs.size, rawInt 0, .none, .none] }) rfl
    rw [sz] at q
    exact q
  exact ⟨⟨_, isE, rfl⟩, hq _ isE ⟨_, Heap.get?_push_of_some _ (Heap.get?_push_size _ rfl), rfl, rfl⟩ fun b ob x => Heap.get?_push_of_some _ (Heap.get?_push_of_some _ x)⟩
end
/-- the tuple at a, its items in new pairs with their places -/
def IteT (a : Addr) : It :=
  ⟨fun i H => ∃ (xs : List V) (x : V), H a = some (.tup xs) ∧ xs[i]? = some x, fun i H v H' => ∃ T x, v = .ref T ∧ H T = none ∧ H' = upd H T (.tup [.int (i : Nat), x]) ∧ ∀ xs, H a = some (.tup xs) → xs[i]? = some x,
    fun i H => ∃ xs : List V, H a = some (.tup xs) ∧ xs.length = i⟩
theorem turn_enumT {P : Program} {w : World} {K : PySem.W.Frag} {elts : List Expr} {kk : Nat} {tpos : Pos} (a e it : Addr) :
    Turn P w K (.Tuple elts kk tpos) (IteT a) [e, it] e (fun i h => (∃ old, IsEnum h e it ((i : Nat) : Int) old) ∧ h.IsTupleIter it a i ∧ e ≠ it) where
  mem := List.mem_cons_self
  obj := fun i h st b hb => by
    obtain ⟨⟨old, he⟩, ⟨o, ho, hc, hd⟩, _⟩ := st
    rcases List.mem_cons.mp hb with z | z
    · rw [z]; exact ⟨_, he, fun v q => nomatch q⟩
    · rw [List.mem_singleton.mp z]; exact ⟨o, ho, fun v q => by rw [hd] at q; cases q⟩
  keep := fun i h h' st k => by
    obtain ⟨⟨old, he⟩, hi, hne⟩ := st
    exact ⟨⟨old, k e List.mem_cons_self _ he⟩, hi.at fun o q => k it (by simp) o q, hne⟩
  item := by
    intro X hP hw hK hc i pins s σ H E I hf st hg
    subst hP hw hK
    obtain ⟨⟨old, he⟩, hit, hne⟩ := st
    obtain ⟨xs, x, hq, hx⟩ := hg
    obtain ⟨its, rv, pt, hz⟩ := I.tuple (SqT.of hq)
    obtain ⟨u, hu, ru⟩ := rv.get hx
    have hi : i < its.toArray.size := by
      have := (List.getElem?_eq_some_iff.mp hu).1
      simpa using this
    have nai : a ≠ it := ne_of_none hq (hf it (by simp)).1
    have nae : e ≠ a := (ne_of_none hq (hf e List.mem_cons_self).1).symm
    have hel : e < s.heap.objs.size := Heap.lt_size he
    have hil : it < s.heap.objs.size := by obtain ⟨_, q, _⟩ := hit; exact Heap.lt_size q
    have pt' : s.heap.IsTuple a its.toArray := pt
    refine wpAny_pyNext_enum_itemD (Draws.tuple (A := X.A.in1) (show X.A.in1.handled = none from I.ok.hd hc) it a nai its.toArray) he ⟨hit, pt'⟩ hi hne (by simp [hne, nae]) fun v h' tk hv ho hst hT hsz hk => ?_
    have hv' : v = u := by
      have : its.toArray[i]? = some u := by simpa using hu
      rw [this] at hv
      exact (Option.some.inj hv).symm
    subst hv'
    refine ⟨_, rfl, wpAny_letOwnedTupleGo_enum (s := { s with heap := h', toks := tk + 1 }) ho fun h'' he' sb => ?_⟩
    have hT2 : h''.get? s.heap.objs.size = some { cls := .type "tuple", data := .seq #[.int i tk, v] } := (sb.2 _ (Nat.ne_of_gt hel)).trans hT
    have made : ObjOk X.prog X.w (upd H s.heap.objs.size (.tup [.int (i : Nat), x])) h'' s.heap.objs.size (.tup [.int (i : Nat), x]) :=
      ⟨by show 2 ≤ sizeLine; decide, [.int i tk, v], .cons ⟨_, rfl⟩ (.cons ru .nil), ⟨_, hT2, rfl, _, rfl⟩⟩
    have I1 : Inv X pins σ (upd H s.heap.objs.size (.tup [.int (i : Nat), x])) { s with heap := h'', toks := tk + 1 } := by
      refine I.turnedNew (ch := [e, it]) (fun b ob hb q => ?_) hf (Nat.le_refl _) made
      simp only [List.mem_cons, List.not_mem_nil, or_false, not_or] at hb
      exact (sb.2 b hb.1).trans (hk b ob hb.1 hb.2 q)
    refine ⟨.ref s.heap.objs.size, _, I1, rfl, ⟨_, x, rfl, I.hok.fresh (Nat.le_refl _), rfl, fun ys hy => ?_⟩, ⟨⟨v, ?_⟩, hst.1.at fun o q => (sb.2 it (Ne.symm hne)).trans q, hne⟩, fun b hb => ?_⟩
    · rw [hq] at hy
      cases hy
      exact hx
    · have e1 : ((i + 1 : Nat) : Int) = (i : Int) + 1 := by omega
      rw [e1]
      exact he'
    · have hb' : b < s.heap.objs.size := by
        rcases List.mem_cons.mp hb with z | z
        · rw [z]; exact hel
        · rw [List.mem_singleton.mp z]; exact hil
      rw [upd_ne (Nat.ne_of_lt hb')]
      exact (hf b hb).1
  done := by
    intro X hP hw hK hc i pins s σ H E I hf st hg
    subst hP hw hK
    obtain ⟨⟨old, he⟩, hit, hne⟩ := st
    obtain ⟨xs, hq, hx⟩ := hg
    obtain ⟨its, rv, pt, hz⟩ := I.tuple (SqT.of hq)
    obtain ⟨f0, f1, f2, f3, f4, f5⟩ := hf it (by simp)
    have hl := rv.length
    have pt' : s.heap.IsTuple a its.toArray := pt
    have nai : a ≠ it := ne_of_none hq (hf it (by simp)).1
    have hlen : i = its.toArray.size := by rw [← hx, hl, List.size_toArray]
    exact wpAny_pyNext_enum_endD (Draws.tuple (A := X.A.in1) (show X.A.in1.handled = none from I.ok.hd hc) it a nai its.toArray) he (by rw [← hlen]; exact ⟨hit, pt'⟩) fun h' eb => ⟨rfl, I.turned (t' := s.toks) (fun b o hb q => eb b o hb q) f0 f1 f3 f4 f5⟩
  self := fun A i s Q E st h => by
    obtain ⟨⟨_, he⟩, _⟩ := st
    exact wpAny_pyIter_enum he h
section
variable {K : PySem.W.Frag} {a : Addr} {ds : List D}
theorem wk_enumT : Wk K (IteT a) (enumL ds) (fun b => b = a) (fun O H => ∃ xs, H a = some (.tup xs) ∧ RepL K H O xs ds) where
  goes := fun i O H hi ⟨xs, h1, h2⟩ => ⟨xs, xs[i]'(by rw [h2.length]; rw [enum_len] at hi; exact hi), h1, List.getElem?_eq_getElem _⟩
  stops := fun O H ⟨xs, h1, h2⟩ => ⟨xs, h1, by rw [h2.length, enum_len]⟩
  yields := fun i O H v H' hi ⟨xs, h1, h2⟩ hO y => by
    obtain ⟨T, x, rfl, hT, rfl, y⟩ := y
    rw [enum_len] at hi
    obtain ⟨d, e1, r1⟩ := getI h2 (y xs h1) hi
    rw [List.getElem?_eq_getElem hi] at e1
    cases e1
    obtain ⟨x1, x2⟩ := pair_rep (H' := H) (i := i) hO hT r1
    exact ⟨x1, _, enum_get hi, x2⟩
  stay := fun M O O' H H' ⟨xs, h1, h2⟩ x hm hb => ⟨xs, x.keep a _ h1 (hb a rfl) (fun _ z => by cases z), RepL.evo x hm _ _ h2⟩
end
section
variable {FN : List Str} {Φ : Nat → List D → Option D} {n : Nat} {cs : List Addr} {own : List Nat} {m : Md} {X : Cx} {a : Expr} {f : Env → Option D} {pos p tpos : Pos} {elts : List Expr} {kk : Nat}
/-- enumerate of a list or a tuple -/
def iEnumA (K : PySem.W.Frag) (ta : TA) : TI := fun σ H R => ta σ H fun vs H1 => ∃ a xs, vs = [.ref a] ∧ ((SqL K H1 a xs ∧ R (Ite K a) H1) ∨ (H1 a = some (.tup xs) ∧ R (IteT a) H1))
theorem pi_enumA {ta : TA} (hg : Gl X "enumerate") (hm : X.mg "enumerate" = none) (ha : PA X [a] ta) (hs : noStar a = true) : PI X (.Tuple elts kk tpos) (.Call (.Name "enumerate" p) [a] [] pos) (iEnumA X.K ta) := by
  refine ⟨fun pins s σ H R I hw => ?_⟩
  refine Call_ (ld_blt I hg hm boot_enumerate (PyProof.Rows.callWith_type1 (thn (ha.run pos pins s σ H _ I hw) fun us s1 ⟨vs, H1, I1, r1, q1⟩ => ?_) (star_cons hs) rfl))
  obtain ⟨a, xs, ex, q1⟩ := q1
  subst ex
  obtain ⟨u, rfl, ru⟩ := r1.one
  cases (show u = Value.ref a from ru)
  rcases q1 with ⟨hq, q⟩ | ⟨hq, q⟩
  · obtain ⟨its, rv, pl, hz⟩ := I1.list hq
    refine call_enumerate_list pl.isList fun h' he hit hsz hk => wpAny_pyIter_enum he ?_
    refine ⟨s1.heap.objs.size + 1, [s1.heap.objs.size + 1, s1.heap.objs.size], _, _, H1, rfl, I1.kept (h' := h') (t' := s1.toks) hk, turn_enum a (s1.heap.objs.size + 1) s1.heap.objs.size, ⟨⟨.none, he⟩, hit, Nat.succ_ne_self _⟩, fun b hb => ?_, q⟩
    have hb' : s1.heap.objs.size ≤ b := by
      rcases List.mem_cons.mp hb with z | z
      · rw [z]; exact Nat.le_succ _
      · rw [List.mem_singleton.mp z]; exact Nat.le_refl _
    exact I1.fpOk hb' (I1.hok.fresh hb')
  · obtain ⟨its, rv, pl, hz⟩ := I1.tuple (SqT.of hq)
    refine enum_tup (items := its.toArray) (show s1.heap.IsTuple a its.toArray from pl) fun h' he hit hk => wpAny_pyIter_enum he ?_
    refine ⟨s1.heap.objs.size + 1, [s1.heap.objs.size + 1, s1.heap.objs.size], _, _, H1, rfl, I1.kept (h' := h') (t' := s1.toks) hk, turn_enumT a (s1.heap.objs.size + 1) s1.heap.objs.size, ⟨⟨.none, he⟩, hit, Nat.succ_ne_self _⟩, fun b hb => ?_, q⟩
    have hb' : s1.heap.objs.size ≤ b := by
      rcases List.mem_cons.mp hb with z | z
      · rw [z]; exact Nat.le_succ _
      · rw [List.mem_singleton.mp z]; exact Nat.le_refl _
    exact I1.fpOk hb' (I1.hok.fresh hb')
theorem i_enm {elts : List Expr} {kk : Nat} {tpos : Pos} (G : Gd FN cs Φ n X) (hg : Gl X "enumerate") (hs : noStar a = true) (ha : EX cs own m X a f) : IX cs own (isBorM m) X (.Tuple elts kk tpos) (.Call (.Name "enumerate" p) [a] [] pos) fun ρ => (f ρ).bind fun x => match x with
    | .list xs => some (enumL xs)
    | .tuple xs => some (enumL xs)
    | _ => none := by
  have ha' : EX cs own (if isBorM m = true then .bor else .val) X a f := by
    cases m
    · exact ha
    · exact ha
    · exact ha.val
  obtain ⟨t, pa, q⟩ := ha'
  refine ⟨fun pins s σ H R I hw => (pi_enumA hg (G.bn _ (by decide +kernel)) (pa_cons pa pa_nil (star_cons hs)) hs).run pins s σ H R I ?_⟩
  obtain ⟨O, ρ, ds, E, ed, k⟩ := hw
  obtain ⟨d, e1, e2⟩ := Option.bind_eq_some_iff.mp ed
  refine q O ρ σ H d E e1 _ fun v H1 x1 r1 => ?_
  have rb : RepB X.K H1 O v d := by
    cases hb : isBorM m <;> rw [hb] at r1
    · exact Rep.b r1
    · exact r1
  cases d <;> simp only [reduceCtorEq] at e2
  · cases e2
    obtain ⟨a, ys, rfl, h1, h2⟩ := RepB.list.mp rb
    refine ⟨a, ys, rfl, .inl ⟨h1, ?_⟩⟩
    cases hb : isBorM m <;> rw [hb] at r1 k
    · cases (show Rep X.K H1 O (.ref a) (.list _) from r1) with
      | @lst _ ys2 _ g1 g2 =>
        rcases g1 with ⟨g1, n1⟩ | g1
        · refine k _ H1 _ _ x1 wk_enum ⟨ys2, g1, g2⟩ fun b hb => ?_
          subst hb
          exact ⟨by rcases g1 with g | ⟨o, g⟩ <;> (rw [g]; exact fun z => by cases z), fun _ => n1⟩
        · exact k _ H1 _ _ x1 (wk_kenum g1) g2 fun b hb => hb.elim
    · rcases h1 with h1 | h1
      · refine k _ H1 _ _ x1 wk_enum ⟨ys, h1, h2⟩ fun b hb => ?_
        subst hb
        exact ⟨by rcases h1 with g | ⟨o, g⟩ <;> (rw [g]; exact fun z => by cases z), fun z => by cases z⟩
      · exact k _ H1 _ _ x1 (wk_kenum (.inr h1)) h2 fun b hb => hb.elim
  · cases e2
    obtain ⟨a, ys, rfl, h1, h2⟩ := RepB.tuple.mp rb
    refine ⟨a, ys, rfl, .inr ⟨h1.1, k _ H1 _ _ x1 wk_enumT ⟨ys, h1.1, h2⟩ fun b hb => ?_⟩⟩
    subst hb
    exact ⟨by (rw [h1.1]; exact fun z => by cases z), fun _ => h1.2⟩
end
end PC

namespace PC
open PySem PySem.Spec PyProof.Rows L2

/-! ### targets -/
def T.vars : T → List Nat
  | .n i => [i]
  | .nil => []
  | .cons a b => a.vars ++ b.vars
def setsE (l : List (Nat × V × D)) (ρ : Env) : Env := l.foldl (fun ρ p => ρ.set p.1 (some p.2.2)) ρ
def setsV (l : List (Nat × V × D)) (σ : L2.St) : L2.St := l.foldl (fun σ p => σ.set p.1 (some p.2.1)) σ
theorem setsE_app (l l' : List (Nat × V × D)) (ρ : Env) : setsE (l ++ l') ρ = setsE l' (setsE l ρ) := List.foldl_append ..
theorem setsV_app (l l' : List (Nat × V × D)) (σ : L2.St) : setsV (l ++ l') σ = setsV l' (setsV l σ) := List.foldl_append ..
structure Stores (K : PySem.W.Frag) (H : Hp) (O : Addr → Prop) (t : T) (f : Env → Option Env) (l : List (Nat × V × D)) : Prop where
  all : ∀ p ∈ l, p.1 ∈ t.vars ∧ Rep K H O p.2.1 p.2.2
  eq : ∀ ρ, f ρ = some (setsE l ρ)
def tG (K : PySem.W.Frag) (t : T) : TG := fun v σ H Q => ∃ O d, Rep K H O v d ∧ (∃ ρ ρ', bindT t d ρ = some ρ') ∧ ∀ l, Stores K H O t (bindT t d) l → Q (setsV l σ) H
def tGs (K : PySem.W.Frag) (t : T) : TGs := fun vs σ H Q => ∃ O ds, RepL K H O vs ds ∧ (∃ ρ ρ', bindTs t ds ρ = some ρ') ∧ ∀ l, Stores K H O t (bindTs t ds) l → Q (setsV l σ) H
section
variable {X : Cx} {x : Str} {pos : Pos} {i : Nat} {a b : T} {e : Expr} {es : List Expr}
theorem g_name (hN : X.N.Nodup) (hi : X.N[i]? = some x) (hx : Loc X.env.scope x) (hf : X.fn x = true ∨ X.env.scope.names.lookup x = some .local) : PG X (.Name x pos) (tG X.K (.n i)) := by
  refine ⟨fun pins s σ H v u Q I r h => (pg_name hN hi hx hf).run pins s σ H v u Q I r ?_⟩
  obtain ⟨O, d, rd, _, k⟩ := h
  exact k [(i, v, d)] ⟨fun p hp => by
    have e : p = (i, v, d) := by simpa using hp
    subst e
    exact ⟨by simp [T.vars], rd⟩, fun ρ => by simp [bindT, setsE]⟩
theorem gs_nil : PGs X [] (tGs X.K .nil) := by
  refine ⟨fun pins s σ H vs us Q I r h => pgs_nil.run pins s σ H vs us Q I r ?_⟩
  obtain ⟨O, ds, rd, ⟨ρ, ρ', hb⟩, k⟩ := h
  cases rd with
  | nil => exact ⟨rfl, k [] ⟨fun p hp => absurd hp (by simp), fun ρ => by simp [bindTs, setsE]⟩⟩
  | cons _ _ => simp [bindTs] at hb
theorem gs_cons (h1 : PG X e (tG X.K a)) (h2 : PGs X es (tGs X.K b)) (hs : (assignEach (e :: es) X.env).map (·.2) = assign e X.env :: (assignEach es X.env).map (·.2)) : PGs X (e :: es) (tGs X.K (.cons a b)) := by
  refine ⟨fun pins s σ H vs us Q I r h => (pgs_cons h1 h2 hs).run pins s σ H vs us Q I r ?_⟩
  obtain ⟨O, ds, rd, ⟨ρ, ρ', hb⟩, k⟩ := h
  cases rd with
  | nil => simp [bindTs] at hb
  | @cons v vs d ds r1 r2 =>
    simp only [bindTs] at hb
    obtain ⟨ρ1, e1, e2⟩ := Option.bind_eq_some_iff.mp hb
    refine ⟨v, vs, rfl, O, d, r1, ⟨ρ, ρ1, e1⟩, fun l hl => ⟨O, ds, r2, ⟨ρ1, ρ', e2⟩, fun l' hl' => ?_⟩⟩
    rw [← setsV_app]
    refine k (l ++ l') ⟨fun p hp => ?_, fun ρ => ?_⟩
    · rcases List.mem_append.mp hp with h | h
      · exact ⟨List.mem_append_left _ (hl.all p h).1, (hl.all p h).2⟩
      · exact ⟨List.mem_append_right _ (hl'.all p h).1, (hl'.all p h).2⟩
    · simp only [bindTs]
      rw [hl.eq]
      show bindTs b ds (setsE l ρ) = _
      rw [hl'.eq, setsE_app]
theorem g_tup {k : Nat} (hc : X.calm = true) (h : PGs X es (tGs X.K (.cons a b))) (hl : ∀ xs ρ ρ', bindTs (.cons a b) xs ρ = some ρ' → xs.length = es.length) (hn : (assignEach es X.env).length = es.length) (hst : (assignEach es X.env).findIdx? (·.1) = none) :
    PG X (.Tuple es k pos) (tG X.K (.cons a b)) := by
  refine ⟨fun pins s σ H v u Q I r hw => (pg_tup hc h hn hst).run pins s σ H v u Q I r ?_⟩
  obtain ⟨O, d, rd, ⟨ρ, ρ', hb⟩, kk⟩ := hw
  cases d with
  | tuple ds =>
    cases rd with
    | tup h1 h2 =>
      have hb' : bindTs (.cons a b) ds ρ = some ρ' := by simpa [bindT] using hb
      refine ⟨_, _, rfl, h1.sq, by rw [h2.length]; exact hl ds ρ ρ' hb', O, ds, h2, ⟨ρ, ρ', hb'⟩, fun l hl' => kk l ⟨hl'.all, fun ρ => ?_⟩⟩
      rw [← hl'.eq ρ]
      simp [bindT]
  | _ => simp [bindT] at hb

/-! ### the checks of targets -/
def locB (sc : Scope) (fnb : Str → Bool) (x : Str) : Bool := decide (sc.names.lookup x = some .local) || (decide (sc.names.lookup x = some .cell) && fnb x)
mutual
def ckT (N : List Str) (sc : Scope) (fnb : Str → Bool) : T → Expr → Bool
  | .n i, e => match e with
    | .Name x _ => decide (N[i]? = some x) && locB sc fnb x
    | _ => false
  | .nil, _ => false
  | .cons a b, e => match e with
    | .Tuple es _ _ => match es with
      | e :: es => ckT N sc fnb a e && ckTs N sc fnb b es
      | _ => false
    | _ => false
def ckTs (N : List Str) (sc : Scope) (fnb : Str → Bool) : T → List Expr → Bool
  | .nil, es => es.isEmpty
  | .cons a b, es => match es with
    | e :: es => ckT N sc fnb a e && ckTs N sc fnb b es
    | _ => false
  | .n _, _ => false
end
theorem ckT_star {N : List Str} {sc : Scope} {fnb : Str → Bool} : ∀ {t : T} {e : Expr}, ckT N sc fnb t e = true → noStar e = true
  | .n i, e, h => by
    unfold ckT at h
    split at h
    · rfl
    · cases h
  | .nil, e, h => by simp [ckT] at h
  | .cons a b, e, h => by
    unfold ckT at h
    split at h
    · rfl
    · cases h
theorem each_cons {env : PySem.Env} (h : noStar e = true) : assignEach (e :: es) env = (false, assign e env) :: assignEach es env := by
  cases e <;> first | rfl | cases h
theorem ckTs_each {N : List Str} {sc : Scope} {fnb : Str → Bool} {env : PySem.Env} : ∀ {t : T} {es : List Expr}, ckTs N sc fnb t es = true → (assignEach es env).length = es.length ∧ (assignEach es env).findIdx? (·.1) = none ∧ ∀ xs ρ ρ', bindTs t xs ρ = some ρ' → xs.length = es.length
  | .n i, es, h => by simp [ckTs] at h
  | .nil, es, h => by
    have e : es = [] := by simpa [ckTs] using h
    subst e
    refine ⟨rfl, rfl, fun xs ρ ρ' hb => ?_⟩
    cases xs with
    | nil => rfl
    | cons _ _ => simp [bindTs] at hb
  | .cons a b, es, h => by
    unfold ckTs at h
    split at h
    · rename_i e es
      simp only [Bool.and_eq_true] at h
      obtain ⟨h1, h2, h3⟩ := ckTs_each (env := env) h.2
      rw [each_cons (ckT_star h.1)]
      refine ⟨by simp [h1], ?_, fun xs ρ ρ' hb => ?_⟩
      · rw [List.findIdx?_cons]
        simp [h2]
      · cases xs with
        | nil => simp [bindTs] at hb
        | cons x xs =>
          simp only [bindTs] at hb
          obtain ⟨ρ1, e1, e2⟩ := Option.bind_eq_some_iff.mp hb
          simp [h3 xs ρ1 ρ' e2]
    · cases h
mutual
theorem ckT_ok {fnb : Str → Bool} (hc : X.calm = true) (hN : X.N.Nodup) (hf : ∀ x, fnb x = true → X.fn x = true) : ∀ {t : T} {e : Expr}, ckT X.N X.env.scope fnb t e = true → PG X e (tG X.K t)
  | .n i, e, h => by
    unfold ckT at h
    split at h
    · rename_i x p
      simp only [Bool.and_eq_true, decide_eq_true_eq, locB, Bool.or_eq_true] at h
      obtain ⟨h1, h2 | ⟨h2, h3⟩⟩ := h
      · exact g_name hN h1 (.inl h2) (.inr h2)
      · exact g_name hN h1 (.inr h2) (.inl (hf x h3))
    · cases h
  | .nil, e, h => by simp [ckT] at h
  | .cons a b, e, h => by
    unfold ckT at h
    split at h
    · rename_i es k p
      split at h
      · rename_i e es
        have h' : ckTs X.N X.env.scope fnb (.cons a b) (e :: es) = true := by unfold ckTs; exact h
        obtain ⟨h1, h2, h3⟩ := ckTs_each (env := X.env) h'
        simp only [Bool.and_eq_true] at h
        refine g_tup hc (gs_cons (ckT_ok hc hN hf h.1) (ckTs_ok hc hN hf h.2) (by rw [each_cons (ckT_star h.1)]; rfl)) h3 h1 h2
      · cases h
    · cases h
theorem ckTs_ok {fnb : Str → Bool} (hc : X.calm = true) (hN : X.N.Nodup) (hf : ∀ x, fnb x = true → X.fn x = true) : ∀ {t : T} {es : List Expr}, ckTs X.N X.env.scope fnb t es = true → PGs X es (tGs X.K t)
  | .n i, es, h => by simp [ckTs] at h
  | .nil, es, h => by
    have e : es = [] := by simpa [ckTs] using h
    subst e
    exact gs_nil
  | .cons a b, es, h => by
    unfold ckTs at h
    split at h
    · rename_i e es
      simp only [Bool.and_eq_true] at h
      exact gs_cons (ckT_ok hc hN hf h.1) (ckTs_ok hc hN hf h.2) (by rw [each_cons (ckT_star h.1)]; rfl)
    · cases h
end

/-! ### a comprehension -/
theorem wipe_set {σ : L2.St} {i : Nat} {x : Option V} : ∀ {vs : List Nat}, i ∈ vs → wipe (σ.set i x) vs = wipe σ vs
  | [], h => absurd h (by simp)
  | v :: vs, h => by
    unfold wipe
    by_cases hi : i ∈ vs
    · rw [wipe_set hi]
    · have e : i = v := by
        rcases List.mem_cons.mp h with e | h
        · exact e
        · exact absurd h hi
      subst e
      have q : ∀ (vs : List Nat), i ∉ vs → wipe (σ.set i x) vs = (wipe σ vs).set i x := by
        intro vs
        induction vs with
        | nil => intro _; rfl
        | cons u us ih =>
          intro hu
          simp only [List.mem_cons, not_or] at hu
          unfold wipe
          rw [ih hu.2, List.set_comm _ _ hu.1]
      rw [q vs hi, List.set_set]
theorem wipe_wipe (σ : L2.St) : ∀ vs : List Nat, wipe (wipe σ vs) vs = wipe σ vs := by
  intro vs
  have q : ∀ (us vs : List Nat) (σ : L2.St), (∀ u ∈ us, u ∈ vs) → wipe (wipe σ us) vs = wipe σ vs := by
    intro us
    induction us with
    | nil => intros; rfl
    | cons u us ih =>
      intro vs σ h
      show wipe ((wipe σ us).set u none) vs = _
      rw [wipe_set (h u (by simp)), ih vs σ fun w hw => h w (by simp [hw])]
  exact q vs vs σ fun _ h => h
theorem wipe_sets {t : T} {l : List (Nat × V × D)} {vs : List Nat} (hv : ∀ i ∈ t.vars, i ∈ vs) : ∀ {σ : L2.St}, (∀ p ∈ l, p.1 ∈ t.vars) → wipe (setsV l (wipe σ vs)) vs = wipe σ vs := by
  intro σ hl
  have q : ∀ (l : List (Nat × V × D)) (τ : L2.St), (∀ p ∈ l, p.1 ∈ t.vars) → wipe (setsV l τ) vs = wipe τ vs := by
    intro l
    induction l with
    | nil => intros; rfl
    | cons p l ih =>
      intro τ h
      show wipe (setsV l (τ.set p.1 (some p.2.1))) vs = _
      rw [ih _ fun q hq => h q (by simp [hq]), wipe_set (hv _ (h p (by simp)))]
  rw [q l _ hl, wipe_wipe]
variable {K : PySem.W.Frag} {cs : List Addr} {own : List Nat} {O O' : Addr → Prop} {ρ : Env} {σ : L2.St} {H H' : Hp}
theorem getE_set_self {d : D} {i : Nat} {ρ : Env} {x : Option D} (h : getE (ρ.set i x) i = some d) : x = some d ∧ i < ρ.length := by
  unfold getE at h
  by_cases hi : i < ρ.length
  · rw [List.getElem?_set_self hi] at h
    exact ⟨h, hi⟩
  · rw [List.getElem?_eq_none (by simpa using hi)] at h; cases h
theorem getE_set_ne {i j : Nat} {ρ : Env} {x : Option D} (h : i ≠ j) : getE (ρ.set i x) j = getE ρ j := by
  unfold getE
  rw [List.getElem?_set_ne h]
theorem EnvOk.set (E : EnvOk K cs O own ρ σ H) {i : Nat} {v : V} {d : D} (r : Rep K H O v d) : EnvOk K cs O own (ρ.set i (some d)) (σ.set i (some v)) H :=
  ⟨E.tabs, E.trk, by simp [E.len], fun j e h => by
    by_cases hj : i = j
    · subst hj
      obtain ⟨h1, h2⟩ := getE_set_self h
      cases h1
      exact ⟨v, by rw [List.getElem?_set_self (by rw [E.len]; exact h2)], Rep.b r, fun _ => r⟩
    · rw [getE_set_ne hj] at h
      rw [List.getElem?_set_ne hj]
      exact E.val j e h⟩
theorem EnvOk.sets : ∀ {l : List (Nat × V × D)} {ρ : Env} {σ : L2.St}, EnvOk K cs O own ρ σ H → (∀ p ∈ l, Rep K H O p.2.1 p.2.2) → EnvOk K cs O own (setsE l ρ) (setsV l σ) H
  | [], _, _, E, _ => E
  | p :: l, _, _, E, h => EnvOk.sets (l := l) (E.set (h p (by simp))) fun q hq => h q (by simp [hq])
theorem EnvOk.wipe1 (E : EnvOk K cs O own ρ σ H) (i : Nat) : EnvOk K cs O own (ρ.set i none) (σ.set i none) H :=
  ⟨E.tabs, E.trk, by simp [E.len], fun j e h => by
    by_cases hj : i = j
    · subst hj
      cases (getE_set_self h).1
    · rw [getE_set_ne hj] at h
      rw [List.getElem?_set_ne hj]
      exact E.val j e h⟩
theorem EnvOk.wipe (E : EnvOk K cs O own ρ σ H) : ∀ vs : List Nat, EnvOk K cs O own (wipeE ρ vs) (L2.wipe σ vs) H
  | [] => E
  | v :: vs => (EnvOk.wipe E vs).wipe1 v
theorem RepB.go {v : V} {d : D} (h : RepB K H O v d) (x : Ext H H') (hm : ∀ b, H b ≠ Option.none → ¬ O b → ¬ O' b) : RepB K H' O' v d := by
  cases d with
  | list ds =>
    obtain ⟨a, xs, rfl, h1, h2⟩ := RepB.list.mp h
    exact RepB.list.mpr ⟨a, xs, rfl, SqL.ext h1 x, RepL.evo x (fun b h1 h2 => ⟨fun z => z, hm b h1 h2⟩) _ _ h2⟩
  | dict ds =>
    obtain ⟨a, u, kvs, rfl, h1, h2, h3⟩ := RepB.dict.mp h
    exact RepB.dict.mpr ⟨a, u, kvs, rfl, x.keep a u h1 (fun z => z) h2.notTab, h2, RepP.evo x (fun b h1 h2 => ⟨fun z => z, hm b h1 h2⟩) _ _ h3⟩
  | _ => exact (RepB.plain rfl).mpr (Rep.evo x (fun b h1 h2 => ⟨fun z => z, hm b h1 h2⟩) _ _ ((RepB.plain rfl).mp h))
theorem EnvOk.go (E : EnvOk K cs O own ρ σ H) (x : Ext H H') (hm : ∀ b, H b ≠ none → ¬ O b → ¬ O' b) (ht : ∀ b, O' b → H' b ≠ none) : EnvOk K cs O' own ρ σ H' :=
  ⟨E.tabs.evo x, ht, E.len, fun i d e => let ⟨v, e1, r1, r2⟩ := E.val i d e; ⟨v, e1, r1.go x hm, fun n => Rep.evo x (fun b h1 h2 => ⟨fun z => z, hm b h1 h2⟩) _ _ (r2 n)⟩⟩
/-- what was new may be written -/
theorem Evo.ofNew {M : Addr → Prop} (x : Evo M H H') (h : ∀ b, M b → H b = none) : Ext H H' :=
  ⟨fun a o e _ n => x.keep a o e (fun z => by rw [h a z] at e; cases e) n, x.tab⟩
def compF (fc : Env → Option D) (fe : Env → Option D) (t : T) (vs : List Nat) (ρ : Env) : D → Option (Option D) := fun x => (bindT t x (wipeE ρ vs)).bind fun ρ1 => (fc ρ1).bind fun c => (truthy c).bind fun k => if k = true then (fe ρ1).map some else some none
theorem compL_step {f : D → Option (Option D)} {ds full : List D} {i : Nat} {d : D} {rest : List D} (hd : ds[i]? = some d) (h : compL f (ds.drop i) = some rest) :
    ∃ o, f d = some o ∧ ∃ rest', compL f (ds.drop (i + 1)) = some rest' ∧ rest = o.toList ++ rest' := by
  obtain ⟨hi, e⟩ := List.getElem?_eq_some_iff.mp hd
  rw [List.drop_eq_getElem_cons hi, e] at h
  unfold compL at h
  cases hf : f d with
  | none => rw [hf] at h; cases h
  | some o =>
    rw [hf] at h
    cases o with
    | none => exact ⟨none, rfl, rest, h, rfl⟩
    | some y =>
      obtain ⟨r', h1, h2⟩ := Option.map_eq_some_iff.mp h
      exact ⟨some y, rfl, r', h1, h2.symm⟩
theorem compL_len {f : D → Option (Option D)} : ∀ {ds full : List D}, compL f ds = some full → full.length ≤ ds.length
  | [], _, h => by cases h; exact Nat.le_refl _
  | d :: ds, full, h => by
    unfold compL at h
    split at h
    · cases h
    · exact Nat.le_succ_of_le (compL_len h)
    · obtain ⟨r, h1, h2⟩ := Option.map_eq_some_iff.mp h
      subst h2
      exact Nat.succ_le_succ (compL_len h1)
theorem lc_law {bo : Bool} {fi : Env → Option (List D)} {fc fe : Env → Option D} {t : T} {vs : List Nat} (htv : ∀ i ∈ t.vars, i ∈ vs) :
    ∀ O ρ σ H0 d, EnvOk K cs O own ρ σ H0 → ((fi ρ).bind fun xs => if xs.length ≤ SL then (compL (compF fc fe t vs ρ) xs).map PyData.list else none) = some d →
      ∀ Q : VK, (∀ v H', Ext H0 H' → RepM .fr K H0 H' O v d → Q v H') → tLc (tI cs own bo K fi) (tG K t) (tT cs own K fc) (tE cs own .val K fe) vs σ H0 Q := by
  intro O ρ σ H0 d E ed Q k
  obtain ⟨ds, e1, ed⟩ := Option.bind_eq_some_iff.mp ed
  split at ed
  case isFalse => cases ed
  rename_i hz
  obtain ⟨full, e2, e3⟩ := Option.map_eq_some_iff.mp ed
  subst e3
  refine ⟨O, ρ, ds, E, e1, fun J H1 B G x1 wk hG hB D hD => ?_⟩
  -- D's heap
  have nD : ∀ b, H1 b ≠ none → b ≠ D := fun b h z => h (by rw [z]; exact hD)
  refine ⟨fun i mm H => mm = ds.length - i ∧ i ≤ ds.length ∧ Evo (fun b => b = D) (upd H1 D (.lst [])) H ∧ ∃ acc dacc rest, H D = some (.lst acc) ∧ RepL K H (fun b => O b ∨ b = D) acc dacc ∧ compL (compF fc fe t vs ρ) (ds.drop i) = some rest ∧ full = dacc ++ rest ∧ dacc.length ≤ i,
    ⟨ds.length, rfl, Nat.zero_le _, Evo.refl, [], [], full, upd_same, .nil, e2, rfl, Nat.le_refl _⟩, ?_⟩
  rintro i mm H ⟨rfl, hi', xv, acc, dacc, rest, hacc, racc, hrest, hfull, hlen⟩
  have xD : Evo (fun b => b = D) H1 H := (Evo.of (Ext.new hD _)).trans xv
  have x1H : Ext H1 H := xD.ofNew fun b z => by rw [z]; exact hD
  have x0H : Ext H0 H := x1.trans x1H
  have hG' : G (fun b => O b ∨ b = D) H := wk.stay noA O _ H1 H hG x1H (fun b h1 h2 => ⟨fun z => z, fun z => z.elim h2 (nD b h1)⟩) fun b _ z => z
  have E' : EnvOk K cs (fun b => O b ∨ b = D) own ρ σ H := (E.ext x1).go x1H (fun b h1 h2 z => z.elim h2 (nD b h1)) fun b z => z.elim (fun z => (E.ext x0H).trk b z) fun z => by
    rw [z, hacc]
    exact fun z => by cases z
  by_cases hlt : i < ds.length
  · refine .inr ⟨wk.goes i _ H hlt hG', fun H' => (i + 1 ≤ ds.length ∧ Evo (fun b => b = D) (upd H1 D (.lst [])) H' ∧ ∃ acc dacc rest, H' D = some (.lst acc) ∧ RepL K H' (fun b => O b ∨ b = D) acc dacc ∧ compL (compF fc fe t vs ρ) (ds.drop (i + 1)) = some rest ∧ full = dacc ++ rest ∧ dacc.length ≤ i + 1),
      fun H' p' => ⟨ds.length - (i + 1), by omega, rfl, p'⟩, fun x H' y => ?_⟩
    obtain ⟨xy, dx, hdx, rx⟩ := wk.yields i _ H x H' hlt hG' E'.trk y
    obtain ⟨o, ho, rest', hrest', hro⟩ := compL_step (full := full) hdx hrest
    obtain ⟨ρ1, b1, ho⟩ := Option.bind_eq_some_iff.mp ho
    obtain ⟨c, b2, ho⟩ := Option.bind_eq_some_iff.mp ho
    obtain ⟨kk, b3, ho⟩ := Option.bind_eq_some_iff.mp ho
    refine ⟨_, dx, rx, ⟨_, _, b1⟩, fun l hl => ?_⟩
    have b1' := hl.eq (wipeE ρ vs)
    rw [b1] at b1'
    cases b1'
    have E1 : EnvOk K cs (fun b => O b ∨ b = D) own (setsE l (wipeE ρ vs)) (setsV l (wipe σ vs)) H' := ((E'.ext xy).wipe _).sets fun p hp => (hl.all p hp).2
    refine ⟨wipe_sets htv fun p hp => (hl.all p hp).1, _, _, c, kk, E1, b2, b3, fun H3 x3 => ?_⟩
    cases kk with
    | false =>
      simp only [Bool.false_eq_true, if_false] at ho ⊢
      cases ho
      have xx := xy.trans x3
      exact ⟨hlt, xv.trans (Evo.of xx), acc, dacc, rest', xx.keep D _ hacc (fun z => z) (fun _ z => by cases z), racc.ext xx, hrest', by rw [hfull, hro]; rfl, by omega⟩
    | true =>
      simp only [if_true] at ho ⊢
      obtain ⟨y', b4, b5⟩ := Option.map_eq_some_iff.mp ho
      subst b5
      refine ⟨_, _, y', E1.ext x3, b4, fun w H4 x4 r4 => ?_⟩
      have xx := (xy.trans x3).trans x4
      have hD4 := xx.keep D _ hacc (fun z => z) (fun _ z => by cases z)
      have up : Evo (fun b => b = D) H4 (upd H4 D (.lst (acc ++ [w]))) := Evo.put hD4 (fun _ z => by cases z) rfl
      have hst : ∀ b, H4 b ≠ none → ¬ (O b ∨ b = D) → ¬ (b = D) ∧ ¬ (O b ∨ b = D) := fun b _ h => ⟨fun z => h (.inr z), h⟩
      refine ⟨acc, hD4, ?_, hlt, (xv.trans (Evo.of xx)).trans up, acc ++ [w], dacc ++ [y'], rest', upd_same, ?_, hrest', by rw [hfull, hro]; simp, by simp; omega⟩
      · rw [← sl_line, racc.length]
        omega
      · exact (RepL.evo up hst _ _ (racc.ext xx)).append (.cons (Rep.evo up hst _ _ r4) .nil)
  · have e : i = ds.length := by omega
    subst e
    refine .inl ⟨wk.stops _ H hG', k (.ref D) H x0H ?_⟩
    rw [List.drop_length] at hrest
    cases hrest
    rw [List.append_nil] at hfull
    subst hfull
    simp only [RepM, RepF, isBox, if_true, Own]
    exact ⟨D, rfl, x1.old hD, acc, hacc, racc⟩
theorem x_lc {bo : Bool} {tg iter elt : Expr} {ifs : List Expr} {scope : Scope} {ow : List (Str × Nat)} {fi : Env → Option (List D)} {fc fe : Env → Option D} {t : T} {vs : List Nat} (hc : X.calm = true) (hN : X.N.Nodup) (hi : IX cs own bo X tg iter fi) (ok : BlkOk X.N X.env.scope scope ow) (hvs : ow.map (·.2) = vs) (htv : ∀ i ∈ t.vars, i ∈ vs)
    (hg : ∀ (s : Shared) (H : Hp) (C : Addr) (cl : List (Str × Addr)) (fp : List Addr), PG (X.blk s H scope (compEnvC scope cl C X.env) fp) tg (tG X.K t))
    (ht : ∀ (s : Shared) (H : Hp) (C : Addr) (cl : List (Str × Addr)) (fp : List Addr), PTs (X.blk s H scope (compEnvC scope cl C X.env) fp) ifs (tT cs own X.K fc))
    (he : ∀ (s : Shared) (H : Hp) (C : Addr) (cl : List (Str × Addr)) (fp : List Addr), PE (X.blk s H scope (compEnvC scope cl C X.env) fp) elt (tE cs own .val X.K fe))
    (hs : ∀ x, foldedSetIterable iter X.env x = pure x) :
    EX cs own .fr X (.ListComp elt [⟨tg, iter, ifs, 0⟩] scope pos) fun ρ => (fi ρ).bind fun xs => if xs.length ≤ SL then (compL (compF fc fe t vs ρ) xs).map .list else none := by
  subst hvs
  exact ⟨_, pe_lc hc hN hi ok hg ht he hs, lc_law htv⟩
end
end PC

namespace PC
open PySem PySem.Spec PyProof.Rows L2

def visB (sc : Scope) (x : Str) : Bool := match sc.names.lookup x with
  | some .local => true
  | some .cell => true
  | some .free => true
  | _ => false
def glB (sc : Scope) (x : Str) : Bool := decide (sc.names.lookup x = some .globalImplicit)
def nameOk (N : List Str) (sc : Scope) (i : Nat) (x : Str) : Bool := decide (N[i]? = some x) && (visB sc x && (!(x == ("__debug__" : Str)) && !(x == ("__classdict__" : Str))))
def notSet : Expr → Bool
  | .Set .. => false
  | _ => true
def isTupE : Expr → Bool
  | .Tuple .. => true
  | _ => false
def isYes : C → Bool
  | .yes => true
  | _ => false
def notSlice : Expr → Bool
  | .Slice .. => false
  | _ => true
/-- the best mode of a core text -/
def md : C → Md
  | .var _ => .val
  | .bor _ => .bor
  | .call _ _ => .val
  | .ix _ _ => .val
  | .ite _ a b => (md a).join (md b)
  | .bop _ as => Md.val.join (md as)
  | .cons a b => (md a).join (md b)
  | .bi b _ => if biFr b = true then .fr else .val
  | _ => .fr
def mdI : C → Bool
  | .it a => isBorM (md a)
  | .enm a => isBorM (md a)
  | _ => false
def ownOf (N : List Str) (vs : List Nat) : List (Str × Nat) := vs.map fun i => (N.getD i "", i)
theorem ownOf_ix (N : List Str) (vs : List Nat) : (ownOf N vs).map (·.2) = vs := by
  unfold ownOf
  rw [List.map_map]
  exact List.map_id' vs
section
variable (FN N : List Str) (own : List Nat)
mutual
/-- is the expression that core text? -/
def ckE (sc : Scope) : C → Expr → Bool
  | .var i, e => match e with
    | .Name x _ => nameOk N sc i x && !own.contains i
    | _ => false
  | .bor i, e => match e with
    | .Name x _ => nameOk N sc i x
    | _ => false
  | .int i, e => match e with
    | .Constant (.int j) _ _ => decide (j = i)
    | _ => false
  | .bl i, e => match e with
    | .Constant (.bool j) _ _ => decide (j = i)
    | _ => false
  | .non, e => match e with
    | .Constant .none _ _ => true
    | _ => false
  | .str s, e => match e with
    | .Constant (.str t) _ _ => decide (t = s) && (PyData.strOk s && decide (s.length ≤ SL))
    | _ => false
  | .bin o a b, e => match e with
    | .BinOp a' o' b' _ => decide (o' = o) && (ckE sc a a' && ckE sc b b')
    | _ => false
  | .rpt as b, e => match e with
    | .BinOp (.List es _) o' b' _ => decide (o' = .Mult) && (ckA false sc as es && ckE sc b b')
    | _ => false
  | .neg a, e => match e with
    | .UnaryOp o' a' _ => decide (o' = .USub) && ckE sc a a'
    | _ => false
  | .nt a, e => match e with
    | .UnaryOp o' a' _ => decide (o' = .Not) && ckE sc a a'
    | _ => false
  | .isn a, e => match e with
    | .Compare a' [o'] [.Constant .none _ _] _ => decide (o' = .Is) && ckE sc a a'
    | _ => false
  | .isnn a, e => match e with
    | .Compare a' [o'] [.Constant .none _ _] _ => decide (o' = .IsNot) && ckE sc a a'
    | _ => false
  | .cmp o a b, e => match e with
    | .Compare a' [o'] [b'] _ => decide (o' = o) && (!behindInMarks o b' && (ckE sc a a' && ckE sc b b'))
    | _ => false
  | .chain o p a b c, e => match e with
    | .Compare a' [o', p'] [b', c'] _ => decide (o' = o) && (decide (p' = p) && (!lastMarks [o, p] [b', c'] && (ckE sc a a' && (ckE sc b b' && ckE sc c c'))))
    | _ => false
  | .bop o as, e => match e with
    | .BoolOp o' es _ => decide (o' = o) && ckb sc as es
    | _ => false
  | .ite c a b, e => match e with
    | .IfExp c' a' b' _ => ckE sc c c' && (ckE sc a a' && ckE sc b b')
    | _ => false
  | .call f as, e => match e with
    | .Call (.Name x _) es [] _ => decide (FN[f]? = some x) && (glB sc x && (!(x == ("__debug__" : Str)) && ckA false sc as es))
    | _ => false
  | .callb f as, e => match e with
    | .Call (.Name x _) es [] _ => decide (FN[f]? = some x) && (glB sc x && (!(x == ("__debug__" : Str)) && (!es.isEmpty && ckA true sc as es)))
    | _ => false
  | .bi b as, e => match e with
    | .Call (.Name x _) es [] _ => decide (x = b.nm) && (glB sc x && (!es.isEmpty && ckA true sc as es))
    | _ => false
  | .isi a t, e => match e with
    | .Call (.Name x _) [a', .Name y _] [] _ => decide (x = "isinstance") && (decide (y = Str.ofString t.nm) && (glB sc x && (glB sc y && (noStar a' && ckE sc a a'))))
    | _ => false
  | .ix a b, e => match e with
    | .Subscript a' b' _ => notSlice b' && (ckE sc a a' && ckE sc b b')
    | _ => false
  | .sl a lo hi, e => match e with
    | .Subscript a' (.Slice lo' hi' none _) _ => ckE sc a a' && (cko sc lo lo' && cko sc hi hi')
    | _ => false
  | .tup as, e => match e with
    | .Tuple es _ _ => ckA false sc as es
    | _ => false
  | .lst as, e => match e with
    | .List es _ => ckA false sc as es
    | _ => false
  | .dic0, e => match e with
    | .Dict [] [] _ => true
    | _ => false
  | .lc tg it cond elt vs, e => match e with
    | .ListComp elt' [⟨tg', iter', ifs', 0⟩] scope _ => blkC N sc scope (ownOf N vs) && (tg.vars.all (fun i => vs.contains i) && (ckT N (relS scope sc) (fun x => scope.names.lookup x == some .cell) tg tg' && (ckI sc it tg' iter' &&
        ((match ifs' with
          | [] => isYes cond
          | [c'] => ckE (relS scope sc) cond c'
          | _ => false) && (ckE (relS scope sc) elt elt' && (!isBorM (md elt) && notSet iter'))))))
    | _ => false
  | _, _ => false
def ckA (bo : Bool) (sc : Scope) : C → List Expr → Bool
  | .nil, es => es.isEmpty
  | .cons a b, es => match es with
    | e :: es => noStar e && ((bo || !isBorM (md a)) && (ckE sc a e && ckA bo sc b es))
    | _ => false
  | _, _ => false
def ckb (sc : Scope) : C → List Expr → Bool
  | .cons a .nil, es => match es with
    | [e] => ckE sc a e
    | _ => false
  | .cons a b, es => match es with
    | e :: e' :: es => ckE sc a e && ckb sc b (e' :: es)
    | _ => false
  | _, _ => false
def cko (sc : Scope) : C → Option Expr → Bool
  | .nil, o => o.isNone
  | .cons a _, o => match o with
    | some e => ckE sc a e
    | _ => false
  | _, _ => false
def ckI (sc : Scope) : C → Expr → Expr → Bool
  | .it a, _, e => ckE sc a e
  | .rng1 a, _, e => match e with
    | .Call (.Name x _) [a'] [] _ => decide (x = "range") && (glB sc x && (noStar a' && ckE sc a a'))
    | _ => false
  | .rng2 a b, _, e => match e with
    | .Call (.Name x _) [a', b'] [] _ => decide (x = "range") && (glB sc x && (noStar a' && (noStar b' && (ckE sc a a' && ckE sc b b'))))
    | _ => false
  | .enm a, tg, e => match e with
    | .Call (.Name x _) [a'] [] _ => isTupE tg && (decide (x = "enumerate") && (glB sc x && (noStar a' && ckE sc a a')))
    | _ => false
  | _, _, _ => false
end
end
theorem vis_of {sc : Scope} {x : Str} (h : visB sc x = true) : Vis sc x := by
  unfold visB at h
  split at h
  · exact .inl (by assumption)
  · exact .inr (.inl (by assumption))
  · exact .inr (.inr (by assumption))
  · cases h
theorem fold_of {e : Expr} {env : PySem.Env} (h : notSet e = true) : ∀ x, foldedSetIterable e env x = pure x := by
  intro x
  cases e <;> first | rfl | cases h
theorem nb {m : Md} (h : (!isBorM m) = true) : m.le .val = true := by cases m <;> first | rfl | cases h
end PC

namespace PC
open PySem PySem.Spec PyProof.Rows L2

section
variable {FN N : List Str} {own : List Nat} {Φ : Nat → List D → Option D} {n : Nat} {cs : List Addr}
theorem Gd.blk {X : Cx} {s : Shared} {H : Hp} {scope : Scope} {ce : PySem.Env} {fp : List Addr} (G : Gd FN cs Φ n X) : Gd FN cs Φ n (X.blk s H scope ce fp) := ⟨G.calm, G.room, G.nd, G.fn, G.bn⟩
abbrev Snd (cs : List Addr) (own : List Nat) (X : Cx) (e : Expr) (m : Md) (f : Env → Option D) : Prop := EX cs own m X e f ∧ TX cs own X e f
theorem Snd.plain {X : Cx} {e : Expr} {m : Md} {f : Env → Option D} (h : EX cs own m X e f) (p : plainTest e = true) : Snd cs own X e m f := ⟨h, t_plain p h⟩
theorem lstar {X : Cx} {c : C} {bo : Bool} {sc : Scope} : ∀ {c : C} {es : List Expr}, ckA FN N own bo sc c es = true → es.all noStar = true
  | .nil, es, h => by
    have e : es = [] := by simpa [ckA] using h
    subst e; rfl
  | .cons a b, es, h => by
    unfold ckA at h
    split at h
    · simp only [Bool.and_eq_true] at h
      simp only [List.all_cons, Bool.and_eq_true]
      exact ⟨h.1, lstar (X := X) (c := c) h.2.2.2⟩
    · cases h
  | .var _, es, h => by simp [ckA] at h
  | .bor _, es, h => by simp [ckA] at h
  | .int _, es, h => by simp [ckA] at h
  | .bl _, es, h => by simp [ckA] at h
  | .non, es, h => by simp [ckA] at h
  | .str _, es, h => by simp [ckA] at h
  | .bin .., es, h => by simp [ckA] at h
  | .rpt .., es, h => by simp [ckA] at h
  | .neg .., es, h => by simp [ckA] at h
  | .nt .., es, h => by simp [ckA] at h
  | .isn .., es, h => by simp [ckA] at h
  | .isnn .., es, h => by simp [ckA] at h
  | .cmp .., es, h => by simp [ckA] at h
  | .chain .., es, h => by simp [ckA] at h
  | .bop .., es, h => by simp [ckA] at h
  | .ite .., es, h => by simp [ckA] at h
  | .call .., es, h => by simp [ckA] at h
  | .callb .., es, h => by simp [ckA] at h
  | .bi .., es, h => by simp [ckA] at h
  | .isi .., es, h => by simp [ckA] at h
  | .ix .., es, h => by simp [ckA] at h
  | .sl .., es, h => by simp [ckA] at h
  | .tup .., es, h => by simp [ckA] at h
  | .lst .., es, h => by simp [ckA] at h
  | .dic0, es, h => by simp [ckA] at h
  | .lc .., es, h => by simp [ckA] at h
  | .yes, es, h => by simp [ckA] at h
  | .it .., es, h => by simp [ckA] at h
  | .rng1 .., es, h => by simp [ckA] at h
  | .rng2 .., es, h => by simp [ckA] at h
  | .enm .., es, h => by simp [ckA] at h
theorem pts_yes {X : Cx} {f : Env → Option D} (hf : ∀ ρ, f ρ = some (.bool true)) : PTs X [] (tT cs own X.K f) := by
  refine ⟨fun pins s σ H Q I h => pts_nil.run pins s σ H Q I ?_⟩
  obtain ⟨O, ρ, d, k, E, e1, e2, q⟩ := h
  rw [hf] at e1
  cases e1
  cases e2
  exact q H Evo.refl

mutual
theorem snd_E : ∀ (c : C) (X : Cx) (e : Expr), Gd FN cs Φ n X → X.N = N → ckE FN N own X.env.scope c e = true → Snd cs own X e (md c) (ev Φ c)
  | .var i, X, e, G, hN, h => by
    unfold ckE at h
    split at h
    · rename_i x p
      simp only [nameOk, Bool.and_eq_true, decide_eq_true_eq, Bool.not_eq_true'] at h
      refine .plain (ex_var (by rw [hN]; exact h.1.1) (vis_of h.1.2.1) ?_ h.1.2.2.1 h.1.2.2.2) rfl
      intro z
      have := h.2
      simp [z] at this
    · cases h
  | .bor i, X, e, G, hN, h => by
    unfold ckE at h
    split at h
    · rename_i x p
      simp only [nameOk, Bool.and_eq_true, decide_eq_true_eq, Bool.not_eq_true'] at h
      exact .plain (ex_bor (by rw [hN]; exact h.1) (vis_of h.2.1) h.2.2.1 h.2.2.2) rfl
    · cases h
  | .int i, X, e, G, hN, h => by
    unfold ckE at h
    split at h
    · simp only [decide_eq_true_eq] at h
      subst h
      exact .plain ex_int rfl
    · cases h
  | .bl i, X, e, G, hN, h => by
    unfold ckE at h
    split at h
    · simp only [decide_eq_true_eq] at h
      subst h
      exact .plain ex_bl rfl
    · cases h
  | .non, X, e, G, hN, h => by
    unfold ckE at h
    split at h
    · exact .plain ex_non rfl
    · cases h
  | .str s, X, e, G, hN, h => by
    unfold ckE at h
    split at h
    · simp only [Bool.and_eq_true, decide_eq_true_eq] at h
      obtain ⟨rfl, h1, h2⟩ := h
      exact .plain (ex_str h1 h2) rfl
    · cases h
  | .bin o a b, X, e, G, hN, h => by
    unfold ckE at h
    split at h
    · simp only [Bool.and_eq_true, decide_eq_true_eq] at h
      obtain ⟨rfl, h1, h2⟩ := h
      exact .plain (x_bin (snd_E a X _ G hN h1).1.toBor (snd_E b X _ G hN h2).1.toBor) rfl
    · cases h
  | .rpt as b, X, e, G, hN, h => by
    unfold ckE at h
    split at h
    · simp only [Bool.and_eq_true, decide_eq_true_eq] at h
      obtain ⟨rfl, h1, h2⟩ := h
      exact .plain (x_rpt (snd_A as X _ G hN h1) (snd_E b X _ G hN h2).1.toBor) rfl
    · cases h
  | .neg a, X, e, G, hN, h => by
    unfold ckE at h
    split at h
    · simp only [Bool.and_eq_true, decide_eq_true_eq] at h
      obtain ⟨rfl, h1⟩ := h
      exact .plain (x_neg (snd_E a X _ G hN h1).1.toBor) rfl
    · cases h
  | .nt a, X, e, G, hN, h => by
    unfold ckE at h
    split at h
    · simp only [Bool.and_eq_true, decide_eq_true_eq] at h
      obtain ⟨rfl, h1⟩ := h
      exact ⟨x_not (snd_E a X _ G hN h1).1.toBor, t_not (snd_E a X _ G hN h1).2⟩
    · cases h
  | .isn a, X, e, G, hN, h => by
    unfold ckE at h
    split at h
    · simp only [Bool.and_eq_true, decide_eq_true_eq] at h
      obtain ⟨rfl, h1⟩ := h
      exact ⟨x_isn (snd_E a X _ G hN h1).1.toBor, t_isn (snd_E a X _ G hN h1).1.toBor⟩
    · cases h
  | .isnn a, X, e, G, hN, h => by
    unfold ckE at h
    split at h
    · simp only [Bool.and_eq_true, decide_eq_true_eq] at h
      obtain ⟨rfl, h1⟩ := h
      exact ⟨x_isnn (snd_E a X _ G hN h1).1.toBor, t_isnn (snd_E a X _ G hN h1).1.toBor⟩
    · cases h
  | .cmp o a b, X, e, G, hN, h => by
    unfold ckE at h
    split at h
    · simp only [Bool.and_eq_true, decide_eq_true_eq, Bool.not_eq_true'] at h
      obtain ⟨rfl, h0, h1, h2⟩ := h
      exact ⟨x_cmp G.u65 h0 (snd_E a X _ G hN h1).1.toBor (snd_E b X _ G hN h2).1.toBor, t_cmp G.u65 h0 (snd_E a X _ G hN h1).1.toBor (snd_E b X _ G hN h2).1.toBor⟩
    · cases h
  | .chain o p a b c, X, e, G, hN, h => by
    unfold ckE at h
    split at h
    · simp only [Bool.and_eq_true, decide_eq_true_eq, Bool.not_eq_true'] at h
      obtain ⟨rfl, rfl, h0, h1, h2, h3⟩ := h
      exact ⟨x_chain G.u65 h0 (snd_E a X _ G hN h1).1.toBor (snd_E b X _ G hN h2).1.toBor (snd_E c X _ G hN h3).1.toBor, t_chain G.u65 h0 (snd_E a X _ G hN h1).1.toBor (snd_E b X _ G hN h2).1.toBor (snd_E c X _ G hN h3).1.toBor⟩
    · cases h
  | .bop o as, X, e, G, hN, h => by
    unfold ckE at h
    split at h
    · rename_i o' es p
      simp only [Bool.and_eq_true, decide_eq_true_eq] at h
      obtain ⟨rfl, h1⟩ := h
      have q := snd_b o' p as X es (Md.val.join (md as)) G hN h1 (Md.le_r _ _) (by cases md as <;> exact fun z => by cases z)
      exact ⟨q.1, q.2.t⟩
    · cases h
  | .ite c a b, X, e, G, hN, h => by
    unfold ckE at h
    split at h
    · simp only [Bool.and_eq_true] at h
      obtain ⟨h0, h1, h2⟩ := h
      exact ⟨x_ite (snd_E c X _ G hN h0).2 ((snd_E a X _ G hN h1).1.weak (Md.le_l _ _)) ((snd_E b X _ G hN h2).1.weak (Md.le_r _ _)), t_ite (snd_E c X _ G hN h0).2 (snd_E a X _ G hN h1).2 (snd_E b X _ G hN h2).2⟩
    · cases h
  | .call f as, X, e, G, hN, h => by
    unfold ckE at h
    split at h
    · rename_i x p es p2
      simp only [Bool.and_eq_true, decide_eq_true_eq, Bool.not_eq_true', glB] at h
      obtain ⟨h1, h2, h3, h4⟩ := h
      cases es with
      | nil =>
        cases as <;> simp [ckA] at h4
        exact .plain (x_call0 G h1 h2 h3) rfl
      | cons e es => exact .plain (x_call G h1 h2 (lstar (X := X) (c := .nil) h4) h3 (snd_A as X _ G hN h4)) rfl
    · cases h
  | .callb f as, X, e, G, hN, h => by
    unfold ckE at h
    split at h
    · rename_i x p es p2
      simp only [Bool.and_eq_true, decide_eq_true_eq, Bool.not_eq_true', glB] at h
      obtain ⟨h1, h2, h3, h0, h4⟩ := h
      cases es with
      | nil => cases h0
      | cons e es => exact .plain (x_callb G h1 h2 (lstar (X := X) (c := .nil) h4) h3 (snd_B as X _ G hN h4)) rfl
    · cases h
  | .bi b as, X, e, G, hN, h => by
    unfold ckE at h
    split at h
    · rename_i x p es p2
      simp only [Bool.and_eq_true, decide_eq_true_eq, Bool.not_eq_true', glB] at h
      obtain ⟨rfl, h2, h0, h4⟩ := h
      cases es with
      | nil => cases h0
      | cons e es => exact .plain (x_bi G h2 (lstar (X := X) (c := .nil) h4) (snd_B as X _ G hN h4)) rfl
    · cases h
  | .isi a t, X, e, G, hN, h => by
    unfold ckE at h
    split at h
    · simp only [Bool.and_eq_true, decide_eq_true_eq, glB] at h
      obtain ⟨rfl, rfl, h1, h2, h3, h4⟩ := h
      exact .plain (x_isi G h1 h2 h3 (snd_E a X _ G hN h4).1.toBor) rfl
    · cases h
  | .ix a b, X, e, G, hN, h => by
    unfold ckE at h
    split at h
    · simp only [Bool.and_eq_true] at h
      obtain ⟨h0, h1, h2⟩ := h
      exact .plain (x_ix G.u1 (plainIx (by unfold notSlice at h0; exact h0)) (snd_E a X _ G hN h1).1.toBor (snd_E b X _ G hN h2).1.toBor) rfl
    · cases h
  | .sl a lo hi, X, e, G, hN, h => by
    unfold ckE at h
    split at h
    · simp only [Bool.and_eq_true] at h
      obtain ⟨h0, h1, h2⟩ := h
      exact .plain (x_sl (snd_E a X _ G hN h0).1.toBor (snd_o lo X _ G hN h1) (snd_o hi X _ G hN h2)) rfl
    · cases h
  | .tup as, X, e, G, hN, h => by
    unfold ckE at h
    split at h
    · exact .plain (x_tup (snd_A as X _ G hN h)) rfl
    · cases h
  | .lst as, X, e, G, hN, h => by
    unfold ckE at h
    split at h
    · exact .plain (x_lst (snd_A as X _ G hN h)) rfl
    · cases h
  | .dic0, X, e, G, hN, h => by
    unfold ckE at h
    split at h
    · exact .plain x_dic0 rfl
    · cases h
  | .lc tg it cond elt vs, X, e, G, hN, h => by
    unfold ckE at h
    split at h
    · rename_i elt' tg' iter' ifs' scope p
      simp only [Bool.and_eq_true] at h
      obtain ⟨h1, h2, h3, h4, h5, h6, h7, h8⟩ := h
      refine .plain (x_lc (ow := ownOf N vs) (fc := ev Φ cond) (fe := ev Φ elt) G.calm G.nd (snd_I it X tg' iter' G hN h4) (by rw [hN]; exact blkOk_by h1) (ownOf_ix _ _) (fun i hi => ?_) (fun s H C cl fp => ?_) (fun s H C cl fp => ?_) (fun s H C cl fp => ?_) (fold_of h8)) rfl
      · have := List.all_eq_true.mp h2 i hi
        simpa using this
      · exact ckT_ok (X := X.blk s H scope (compEnvC scope cl C X.env) fp) G.calm G.nd (fun x hx => hx) (by show ckT X.N _ _ _ _ = true; rw [hN]; exact h3)
      · split at h5
        · cases cond <;> first | exact pts_yes (fun _ => rfl) | cases h5
        · exact pts_one (snd_E cond (X.blk s H scope (compEnvC scope cl C X.env) fp) _ G.blk hN h5).2.canon
        · cases h5
      · exact ((snd_E elt (X.blk s H scope (compEnvC scope cl C X.env) fp) _ G.blk hN h6).1.weak (nb h7)).canon
    · cases h
  | .yes, X, e, G, hN, h => by simp [ckE] at h
  | .nil, X, e, G, hN, h => by simp [ckE] at h
  | .cons _ _, X, e, G, hN, h => by simp [ckE] at h
  | .it _, X, e, G, hN, h => by simp [ckE] at h
  | .rng1 _, X, e, G, hN, h => by simp [ckE] at h
  | .rng2 _ _, X, e, G, hN, h => by simp [ckE] at h
  | .enm _, X, e, G, hN, h => by simp [ckE] at h
theorem snd_A : ∀ (c : C) (X : Cx) (es : List Expr), Gd FN cs Φ n X → X.N = N → ckA FN N own false X.env.scope c es = true → AX cs own X es (evs Φ c)
  | .nil, X, es, G, hN, h => by
    have e : es = [] := by simpa [ckA] using h
    subst e
    exact ax_nil
  | .cons a b, X, es, G, hN, h => by
    unfold ckA at h
    split at h
    · simp only [Bool.and_eq_true, Bool.false_or] at h
      exact ax_cons h.1 ((snd_E a X _ G hN h.2.2.1).1.weak (nb h.2.1)) (snd_A b X _ G hN h.2.2.2)
    · cases h
  | .var _, X, es, G, hN, h => by simp [ckA] at h
  | .bor _, X, es, G, hN, h => by simp [ckA] at h
  | .int _, X, es, G, hN, h => by simp [ckA] at h
  | .bl _, X, es, G, hN, h => by simp [ckA] at h
  | .non, X, es, G, hN, h => by simp [ckA] at h
  | .str _, X, es, G, hN, h => by simp [ckA] at h
  | .bin .., X, es, G, hN, h => by simp [ckA] at h
  | .rpt .., X, es, G, hN, h => by simp [ckA] at h
  | .neg .., X, es, G, hN, h => by simp [ckA] at h
  | .nt .., X, es, G, hN, h => by simp [ckA] at h
  | .isn .., X, es, G, hN, h => by simp [ckA] at h
  | .isnn .., X, es, G, hN, h => by simp [ckA] at h
  | .cmp .., X, es, G, hN, h => by simp [ckA] at h
  | .chain .., X, es, G, hN, h => by simp [ckA] at h
  | .bop .., X, es, G, hN, h => by simp [ckA] at h
  | .ite .., X, es, G, hN, h => by simp [ckA] at h
  | .call .., X, es, G, hN, h => by simp [ckA] at h
  | .callb .., X, es, G, hN, h => by simp [ckA] at h
  | .bi .., X, es, G, hN, h => by simp [ckA] at h
  | .isi .., X, es, G, hN, h => by simp [ckA] at h
  | .ix .., X, es, G, hN, h => by simp [ckA] at h
  | .sl .., X, es, G, hN, h => by simp [ckA] at h
  | .tup .., X, es, G, hN, h => by simp [ckA] at h
  | .lst .., X, es, G, hN, h => by simp [ckA] at h
  | .dic0, X, es, G, hN, h => by simp [ckA] at h
  | .lc .., X, es, G, hN, h => by simp [ckA] at h
  | .yes, X, es, G, hN, h => by simp [ckA] at h
  | .it .., X, es, G, hN, h => by simp [ckA] at h
  | .rng1 .., X, es, G, hN, h => by simp [ckA] at h
  | .rng2 .., X, es, G, hN, h => by simp [ckA] at h
  | .enm .., X, es, G, hN, h => by simp [ckA] at h
theorem snd_B : ∀ (c : C) (X : Cx) (es : List Expr), Gd FN cs Φ n X → X.N = N → ckA FN N own true X.env.scope c es = true → BX cs own X es (evs Φ c)
  | .nil, X, es, G, hN, h => by
    have e : es = [] := by simpa [ckA] using h
    subst e
    exact bx_nil
  | .cons a b, X, es, G, hN, h => by
    unfold ckA at h
    split at h
    · simp only [Bool.and_eq_true, Bool.true_or] at h
      exact bx_cons h.1 (snd_E a X _ G hN h.2.2.1).1.toBor (snd_B b X _ G hN h.2.2.2)
    · cases h
  | .var _, X, es, G, hN, h => by simp [ckA] at h
  | .bor _, X, es, G, hN, h => by simp [ckA] at h
  | .int _, X, es, G, hN, h => by simp [ckA] at h
  | .bl _, X, es, G, hN, h => by simp [ckA] at h
  | .non, X, es, G, hN, h => by simp [ckA] at h
  | .str _, X, es, G, hN, h => by simp [ckA] at h
  | .bin .., X, es, G, hN, h => by simp [ckA] at h
  | .rpt .., X, es, G, hN, h => by simp [ckA] at h
  | .neg .., X, es, G, hN, h => by simp [ckA] at h
  | .nt .., X, es, G, hN, h => by simp [ckA] at h
  | .isn .., X, es, G, hN, h => by simp [ckA] at h
  | .isnn .., X, es, G, hN, h => by simp [ckA] at h
  | .cmp .., X, es, G, hN, h => by simp [ckA] at h
  | .chain .., X, es, G, hN, h => by simp [ckA] at h
  | .bop .., X, es, G, hN, h => by simp [ckA] at h
  | .ite .., X, es, G, hN, h => by simp [ckA] at h
  | .call .., X, es, G, hN, h => by simp [ckA] at h
  | .callb .., X, es, G, hN, h => by simp [ckA] at h
  | .bi .., X, es, G, hN, h => by simp [ckA] at h
  | .isi .., X, es, G, hN, h => by simp [ckA] at h
  | .ix .., X, es, G, hN, h => by simp [ckA] at h
  | .sl .., X, es, G, hN, h => by simp [ckA] at h
  | .tup .., X, es, G, hN, h => by simp [ckA] at h
  | .lst .., X, es, G, hN, h => by simp [ckA] at h
  | .dic0, X, es, G, hN, h => by simp [ckA] at h
  | .lc .., X, es, G, hN, h => by simp [ckA] at h
  | .yes, X, es, G, hN, h => by simp [ckA] at h
  | .it .., X, es, G, hN, h => by simp [ckA] at h
  | .rng1 .., X, es, G, hN, h => by simp [ckA] at h
  | .rng2 .., X, es, G, hN, h => by simp [ckA] at h
  | .enm .., X, es, G, hN, h => by simp [ckA] at h
theorem snd_b (o : BoolOp) (p : Pos) : ∀ (c : C) (X : Cx) (es : List Expr) (m : Md), Gd FN cs Φ n X → X.N = N → ckb FN N own X.env.scope c es = true → (md c).le m = true → m ≠ .fr → EX cs own m X (.BoolOp o es p) (evb Φ o c) ∧ WX cs own X (.BoolOp o es p) (evb Φ o c)
  | .cons a b, X, es, m, G, hN, h, hm, hm' => by
    have la : (md a).le m = true := by
      have := Md.le_l (md a) (md b)
      revert this hm
      show ((md a).join (md b)).le m = true → _ → _
      cases md a <;> cases md b <;> cases m <;> first | (intro _ _; rfl) | (intro h _; cases h)
    have lb : (md b).le m = true := by
      revert hm
      show ((md a).join (md b)).le m = true → _
      cases md a <;> cases md b <;> cases m <;> first | (intro _; rfl) | (intro h; cases h)
    by_cases hb : b = .nil
    · subst hb
      unfold ckb at h
      split at h
      · have q := snd_E a X _ G hN h
        exact ⟨x_bop1 (q.1.weak la), w_bop1 q.2⟩
      · cases h
    · have e1 : ckb FN N own X.env.scope (.cons a b) es = (match (generalizing := false) es with
          | e :: e' :: es => ckE FN N own X.env.scope a e && ckb FN N own X.env.scope b (e' :: es)
          | _ => false) := by
        cases b <;> first | exact absurd rfl hb | rfl
      have e2 : evb Φ o (.cons a b) = bopD o (ev Φ a) (evb Φ o b) := by
        cases b <;> first | exact absurd rfl hb | rfl
      rw [e1] at h
      rw [e2]
      split at h
      · simp only [Bool.and_eq_true] at h
        have q := snd_E a X _ G hN h.1
        have r := snd_b o p b X _ m G hN h.2 lb hm'
        exact ⟨x_bop (q.1.weak la) hm' r.1, w_bop q.2 r.2⟩
      · cases h
  | .nil, X, es, m, G, hN, h, _, _ => by simp [ckb] at h
  | .var _, X, es, m, G, hN, h, _, _ => by simp [ckb] at h
  | .bor _, X, es, m, G, hN, h, _, _ => by simp [ckb] at h
  | .int _, X, es, m, G, hN, h, _, _ => by simp [ckb] at h
  | .bl _, X, es, m, G, hN, h, _, _ => by simp [ckb] at h
  | .non, X, es, m, G, hN, h, _, _ => by simp [ckb] at h
  | .str _, X, es, m, G, hN, h, _, _ => by simp [ckb] at h
  | .bin .., X, es, m, G, hN, h, _, _ => by simp [ckb] at h
  | .rpt .., X, es, m, G, hN, h, _, _ => by simp [ckb] at h
  | .neg .., X, es, m, G, hN, h, _, _ => by simp [ckb] at h
  | .nt .., X, es, m, G, hN, h, _, _ => by simp [ckb] at h
  | .isn .., X, es, m, G, hN, h, _, _ => by simp [ckb] at h
  | .isnn .., X, es, m, G, hN, h, _, _ => by simp [ckb] at h
  | .cmp .., X, es, m, G, hN, h, _, _ => by simp [ckb] at h
  | .chain .., X, es, m, G, hN, h, _, _ => by simp [ckb] at h
  | .bop .., X, es, m, G, hN, h, _, _ => by simp [ckb] at h
  | .ite .., X, es, m, G, hN, h, _, _ => by simp [ckb] at h
  | .call .., X, es, m, G, hN, h, _, _ => by simp [ckb] at h
  | .callb .., X, es, m, G, hN, h, _, _ => by simp [ckb] at h
  | .bi .., X, es, m, G, hN, h, _, _ => by simp [ckb] at h
  | .isi .., X, es, m, G, hN, h, _, _ => by simp [ckb] at h
  | .ix .., X, es, m, G, hN, h, _, _ => by simp [ckb] at h
  | .sl .., X, es, m, G, hN, h, _, _ => by simp [ckb] at h
  | .tup .., X, es, m, G, hN, h, _, _ => by simp [ckb] at h
  | .lst .., X, es, m, G, hN, h, _, _ => by simp [ckb] at h
  | .dic0, X, es, m, G, hN, h, _, _ => by simp [ckb] at h
  | .lc .., X, es, m, G, hN, h, _, _ => by simp [ckb] at h
  | .yes, X, es, m, G, hN, h, _, _ => by simp [ckb] at h
  | .it .., X, es, m, G, hN, h, _, _ => by simp [ckb] at h
  | .rng1 .., X, es, m, G, hN, h, _, _ => by simp [ckb] at h
  | .rng2 .., X, es, m, G, hN, h, _, _ => by simp [ckb] at h
  | .enm .., X, es, m, G, hN, h, _, _ => by simp [ckb] at h
theorem snd_o : ∀ (c : C) (X : Cx) (o : Option Expr), Gd FN cs Φ n X → X.N = N → cko FN N own X.env.scope c o = true → OX cs own X o (evo Φ c)
  | .nil, X, o, G, hN, h => by
    have e : o = none := by simpa [cko] using h
    subst e
    exact o_none
  | .cons a b, X, o, G, hN, h => by
    unfold cko at h
    split at h
    · exact o_some (snd_E a X _ G hN h).1.toBor
    · cases h
  | .var _, X, o, G, hN, h => by simp [cko] at h
  | .bor _, X, o, G, hN, h => by simp [cko] at h
  | .int _, X, o, G, hN, h => by simp [cko] at h
  | .bl _, X, o, G, hN, h => by simp [cko] at h
  | .non, X, o, G, hN, h => by simp [cko] at h
  | .str _, X, o, G, hN, h => by simp [cko] at h
  | .bin .., X, o, G, hN, h => by simp [cko] at h
  | .rpt .., X, o, G, hN, h => by simp [cko] at h
  | .neg .., X, o, G, hN, h => by simp [cko] at h
  | .nt .., X, o, G, hN, h => by simp [cko] at h
  | .isn .., X, o, G, hN, h => by simp [cko] at h
  | .isnn .., X, o, G, hN, h => by simp [cko] at h
  | .cmp .., X, o, G, hN, h => by simp [cko] at h
  | .chain .., X, o, G, hN, h => by simp [cko] at h
  | .bop .., X, o, G, hN, h => by simp [cko] at h
  | .ite .., X, o, G, hN, h => by simp [cko] at h
  | .call .., X, o, G, hN, h => by simp [cko] at h
  | .callb .., X, o, G, hN, h => by simp [cko] at h
  | .bi .., X, o, G, hN, h => by simp [cko] at h
  | .isi .., X, o, G, hN, h => by simp [cko] at h
  | .ix .., X, o, G, hN, h => by simp [cko] at h
  | .sl .., X, o, G, hN, h => by simp [cko] at h
  | .tup .., X, o, G, hN, h => by simp [cko] at h
  | .lst .., X, o, G, hN, h => by simp [cko] at h
  | .dic0, X, o, G, hN, h => by simp [cko] at h
  | .lc .., X, o, G, hN, h => by simp [cko] at h
  | .yes, X, o, G, hN, h => by simp [cko] at h
  | .it .., X, o, G, hN, h => by simp [cko] at h
  | .rng1 .., X, o, G, hN, h => by simp [cko] at h
  | .rng2 .., X, o, G, hN, h => by simp [cko] at h
  | .enm .., X, o, G, hN, h => by simp [cko] at h
theorem snd_I : ∀ (c : C) (X : Cx) (tg e : Expr), Gd FN cs Φ n X → X.N = N → ckI FN N own X.env.scope c tg e = true → IX cs own (mdI c) X tg e (evs Φ c)
  | .it a, X, tg, e, G, hN, h => by
    unfold ckI at h
    exact i_it (snd_E a X _ G hN h).1
  | .rng1 a, X, tg, e, G, hN, h => by
    unfold ckI at h
    split at h
    · simp only [Bool.and_eq_true, decide_eq_true_eq, glB] at h
      obtain ⟨rfl, h1, h2, h3⟩ := h
      exact i_rng1 G h1 h2 (snd_E a X _ G hN h3).1.toBor
    · cases h
  | .rng2 a b, X, tg, e, G, hN, h => by
    unfold ckI at h
    split at h
    · simp only [Bool.and_eq_true, decide_eq_true_eq, glB] at h
      obtain ⟨rfl, h1, h2, h3, h4, h5⟩ := h
      exact i_rng2 G h1 h2 h3 (snd_E a X _ G hN h4).1.toBor (snd_E b X _ G hN h5).1.toBor
    · cases h
  | .enm a, X, tg, e, G, hN, h => by
    unfold ckI at h
    split at h
    · simp only [Bool.and_eq_true, decide_eq_true_eq, glB] at h
      obtain ⟨h0, rfl, h1, h2, h3⟩ := h
      cases tg <;> first | cases h0 | skip
      exact i_enm G h1 h2 (snd_E a X _ G hN h3).1
    · cases h
  | .nil, X, tg, e, G, hN, h => by simp [ckI] at h
  | .cons .., X, tg, e, G, hN, h => by simp [ckI] at h
  | .var _, X, tg, e, G, hN, h => by simp [ckI] at h
  | .bor _, X, tg, e, G, hN, h => by simp [ckI] at h
  | .int _, X, tg, e, G, hN, h => by simp [ckI] at h
  | .bl _, X, tg, e, G, hN, h => by simp [ckI] at h
  | .non, X, tg, e, G, hN, h => by simp [ckI] at h
  | .str _, X, tg, e, G, hN, h => by simp [ckI] at h
  | .bin .., X, tg, e, G, hN, h => by simp [ckI] at h
  | .rpt .., X, tg, e, G, hN, h => by simp [ckI] at h
  | .neg .., X, tg, e, G, hN, h => by simp [ckI] at h
  | .nt .., X, tg, e, G, hN, h => by simp [ckI] at h
  | .isn .., X, tg, e, G, hN, h => by simp [ckI] at h
  | .isnn .., X, tg, e, G, hN, h => by simp [ckI] at h
  | .cmp .., X, tg, e, G, hN, h => by simp [ckI] at h
  | .chain .., X, tg, e, G, hN, h => by simp [ckI] at h
  | .bop .., X, tg, e, G, hN, h => by simp [ckI] at h
  | .ite .., X, tg, e, G, hN, h => by simp [ckI] at h
  | .call .., X, tg, e, G, hN, h => by simp [ckI] at h
  | .callb .., X, tg, e, G, hN, h => by simp [ckI] at h
  | .bi .., X, tg, e, G, hN, h => by simp [ckI] at h
  | .isi .., X, tg, e, G, hN, h => by simp [ckI] at h
  | .ix .., X, tg, e, G, hN, h => by simp [ckI] at h
  | .sl .., X, tg, e, G, hN, h => by simp [ckI] at h
  | .tup .., X, tg, e, G, hN, h => by simp [ckI] at h
  | .lst .., X, tg, e, G, hN, h => by simp [ckI] at h
  | .dic0, X, tg, e, G, hN, h => by simp [ckI] at h
  | .lc .., X, tg, e, G, hN, h => by simp [ckI] at h
  | .yes, X, tg, e, G, hN, h => by simp [ckI] at h
end
end
end PC

namespace PC
open PySem PySem.Spec PyProof.Rows L2

/-! ### what holds between statements -/
structure SOk (K : PySem.W.Frag) (cs : List Addr) (O0 : Addr → Prop) (H0 : Hp) (O : Addr → Prop) (own : List Nat) (ρ : Env) (σ : L2.St) (H : Hp) : Prop where
  ext : Ext H0 H
  tabs : TabsOk cs H
  t0 : ∀ a, O0 a → H0 a ≠ none
  sub : ∀ a, O0 a → O a
  trk : ∀ a, O a → H a ≠ none
  len : σ.length = ρ.length
  val : ∀ i d, getE ρ i = some d → ∃ v, σ[i]? = some (some v) ∧ (i ∉ own ∨ isBox d = false → Rep K H O v d) ∧ (i ∈ own → isBox d = true → ∃ a, v = .ref a ∧ O a ∧ H0 a = none ∧ Own K H O a d)
  dist : ∀ i j a di dj, i ∈ own → j ∈ own → getE ρ i = some di → isBox di = true → getE ρ j = some dj → isBox dj = true → σ[i]? = some (some (.ref a)) → σ[j]? = some (some (.ref a)) → i = j
/-- what stays as the heap goes on -/
def Fr (P : (Addr → Prop) → Hp → Prop) : Prop := ∀ (M O O' : Addr → Prop) H H', P O H → Evo M H H' → (∀ b, H b ≠ none → ¬ O b → ¬ M b ∧ ¬ O' b) → P O' H'
section
variable {K : PySem.W.Frag} {cs : List Addr} {O0 O O' : Addr → Prop} {H0 H H' : Hp} {own own' : List Nat} {ρ ρ' : Env} {σ σ' : L2.St} {P : (Addr → Prop) → Hp → Prop}
theorem SOk.env (S : SOk K cs O0 H0 O own ρ σ H) : EnvOk K cs O own ρ σ H :=
  ⟨S.tabs, S.trk, S.len, fun i d e => by
    obtain ⟨v, e1, r1, r2⟩ := S.val i d e
    refine ⟨v, e1, ?_, fun n => r1 (.inl n)⟩
    by_cases hb : isBox d = true
    · by_cases hi : i ∈ own
      · obtain ⟨a, rfl, _, _, ow⟩ := r2 hi hb
        unfold RepB
        rw [if_pos hb]
        exact ⟨a, rfl, ow.box⟩
      · exact Rep.b (r1 (.inl hi))
    · exact Rep.b (r1 (.inr (by simpa using hb)))⟩
theorem SOk.go (S : SOk K cs O0 H0 O own ρ σ H) (x : Ext H H') (hs : ∀ a, O a → O' a) (hm : ∀ b, H b ≠ none → ¬ O b → ¬ O' b) (ht : ∀ b, O' b → H' b ≠ none) : SOk K cs O0 H0 O' own ρ σ H' :=
  ⟨S.ext.trans x, S.tabs.evo x, S.t0, fun a h => hs a (S.sub a h), ht, S.len, fun i d e => by
    obtain ⟨v, e1, r1, r2⟩ := S.val i d e
    refine ⟨v, e1, fun h => Rep.evo x (fun b h1 h2 => ⟨fun z => z, hm b h1 h2⟩) _ _ (r1 h), fun h1 h2 => ?_⟩
    obtain ⟨a, e2, oa, na, ow⟩ := r2 h1 h2
    exact ⟨a, e2, hs a oa, na, ow.evo x (fun z => z) fun b h1 h2 => ⟨fun z => z, hm b h1 h2⟩⟩, S.dist⟩
theorem SOk.more (S : SOk K cs O0 H0 O own ρ σ H) (x : Ext H H') : SOk K cs O0 H0 O own ρ σ H' := S.go x (fun _ h => h) (fun _ _ h => h) fun a h z => S.trk a h (x.old z)
theorem Fr.ext (F : Fr P) (p : P O H) (x : Ext H H') : P O H' := F noA O O H H' p x fun b _ n => ⟨fun z => z, n⟩
/-- fewer are owned -/
theorem SOk.fewer (S : SOk K cs O0 H0 O own ρ σ H) (hs : ∀ i ∈ own', i ∈ own) : ∃ O', SOk K cs O0 H0 O' own' ρ σ H ∧ ∀ b, O' b → O b := by
  have hsub : ∀ a, (O0 a ∨ ∃ i d, i ∈ own' ∧ getE ρ i = some d ∧ isBox d = true ∧ σ[i]? = some (some (.ref a))) → O a := by
    rintro a (h | ⟨i, d, hi, e, hb, hv⟩)
    · exact S.sub a h
    · obtain ⟨v, e1, _, r2⟩ := S.val i d e
      obtain ⟨a', rfl, oa, _, _⟩ := r2 (hs i hi) hb
      rw [hv] at e1
      cases e1
      exact oa
  refine ⟨fun a => O0 a ∨ ∃ i d, i ∈ own' ∧ getE ρ i = some d ∧ isBox d = true ∧ σ[i]? = some (some (.ref a)), ⟨S.ext, S.tabs, S.t0, fun a h => .inl h, fun a h => S.trk a (hsub a h), S.len, fun i d e => ?_, fun i j a di dj h1 h2 => S.dist i j a di dj (hs i h1) (hs j h2)⟩, hsub⟩
  obtain ⟨v, e1, r1, r2⟩ := S.val i d e
  refine ⟨v, e1, fun h => ?_, fun h1 h2 => ?_⟩
  · by_cases hi : i ∈ own ∧ isBox d = true
    · obtain ⟨hi, hb⟩ := hi
      obtain ⟨a, rfl, oa, na, ow⟩ := r2 hi hb
      refine (ow.weak hsub).box.rep ?_
      rintro (z | ⟨j, dj, hj, ej, bj, vj⟩)
      · exact S.t0 a z na
      · have := S.dist i j a d dj hi (hs j hj) e hb ej bj e1 vj
        subst this
        rcases h with h | h
        · exact h hj
        · rw [hb] at h; cases h
    · refine (r1 ?_).weak hsub
      by_cases h1 : i ∈ own
      · exact .inr (by simpa [h1] using hi)
      · exact .inl h1
  · obtain ⟨a, rfl, oa, na, ow⟩ := r2 (hs i h1) h2
    exact ⟨a, rfl, .inr ⟨i, d, h1, e, h2, e1⟩, na, ow.weak hsub⟩
theorem Fr.fewer (F : Fr P) (p : P O H) (hs : ∀ b, O' b → O b) : P O' H := F noA O O' H H p Evo.refl fun b _ n => ⟨fun z => z, fun z => n (hs b z)⟩
/-- a slot is stored -/
theorem SOk.put (S : SOk K cs O0 H0 O own ρ σ H) {i : Nat} {v : V} {d : D} (hi : i ∉ own) (r : Rep K H O v d) : SOk K cs O0 H0 O own (ρ.set i (some d)) (σ.set i (some v)) H := by
  refine ⟨S.ext, S.tabs, S.t0, S.sub, S.trk, by simp [S.len], fun j e h => ?_, fun j k a dj dk h1 h2 e1 b1 e2 b2 v1 v2 => ?_⟩
  · by_cases hj : i = j
    · subst hj
      obtain ⟨h1, h2⟩ := getE_set_self h
      cases h1
      exact ⟨v, by rw [List.getElem?_set_self (by rw [S.len]; exact h2)], fun _ => r, fun h => absurd h hi⟩
    · rw [getE_set_ne hj] at h
      rw [List.getElem?_set_ne hj]
      exact S.val j e h
  · have nj : i ≠ j := fun z => hi (by rw [z]; exact h1)
    have nk : i ≠ k := fun z => hi (by rw [z]; exact h2)
    rw [getE_set_ne nj] at e1
    rw [getE_set_ne nk] at e2
    rw [List.getElem?_set_ne nj] at v1
    rw [List.getElem?_set_ne nk] at v2
    exact S.dist j k a dj dk h1 h2 e1 b1 e2 b2 v1 v2
theorem SOk.putAll : ∀ {l : List (Nat × V × D)} {ρ : Env} {σ : L2.St}, SOk K cs O0 H0 O own ρ σ H → (∀ p ∈ l, p.1 ∉ own ∧ Rep K H O p.2.1 p.2.2) → SOk K cs O0 H0 O own (setsE l ρ) (setsV l σ) H
  | [], _, _, S, _ => S
  | p :: l, _, _, S, h => SOk.putAll (l := l) (S.put (h p (by simp)).1 (h p (by simp)).2) fun q hq => h q (by simp [hq])
/-- less is owned by name only: its container is left where it is -/
theorem SOk.drop (S : SOk K cs O0 H0 O own ρ σ H) (i : Nat) : SOk K cs O0 H0 O (own.filter (· != i)) (ρ.set i none) (σ.set i none) H := by
  have mo : ∀ j, j ∈ own.filter (· != i) → j ∈ own ∧ i ≠ j := fun j h => by
    have := List.mem_filter.mp h
    exact ⟨this.1, fun z => by simp [z] at this⟩
  refine ⟨S.ext, S.tabs, S.t0, S.sub, S.trk, by simp [S.len], fun j e h => ?_, fun j k a dj dk h1 h2 e1 b1 e2 b2 v1 v2 => ?_⟩
  · by_cases hj : i = j
    · subst hj
      cases (getE_set_self h).1
    · rw [getE_set_ne hj] at h
      rw [List.getElem?_set_ne hj]
      obtain ⟨v, e1, r1, r2⟩ := S.val j e h
      refine ⟨v, e1, fun z => r1 (z.imp_left fun n m => n (List.mem_filter.mpr ⟨m, by simpa using Ne.symm hj⟩)), fun m => r2 (mo j m).1⟩
  · have nj := (mo j h1).2
    have nk := (mo k h2).2
    rw [getE_set_ne nj] at e1
    rw [getE_set_ne nk] at e2
    rw [List.getElem?_set_ne nj] at v1
    rw [List.getElem?_set_ne nk] at v2
    exact S.dist j k a dj dk (mo j h1).1 (mo k h2).1 e1 b1 e2 b2 v1 v2
/-- a slot is stored with what is new -/
theorem SOk.fresh (S : SOk K cs O0 H0 O own ρ σ H) {i : Nat} {v : V} {d : D} (x : Ext H H') (r : RepF K H H' O v d) (hi : i ∉ own) : ∃ O', SOk K cs O0 H0 O' (i :: own) (ρ.set i (some d)) (σ.set i (some v)) H' ∧ (∀ b, H b ≠ none → ¬ O b → ¬ O' b) := by
  by_cases hb : isBox d = true
  · unfold RepF at r
    rw [if_pos hb] at r
    obtain ⟨a, rfl, na, ow⟩ := r
    have hm : ∀ b, H b ≠ none → ¬ O b → ¬ (O b ∨ b = a) := fun b h1 h2 z => z.elim h2 fun z => h1 (by rw [z]; exact na)
    have ha : H' a ≠ none := by
      cases d with
      | list ds => obtain ⟨xs, h1, _⟩ := ow; rw [h1]; exact fun z => by cases z
      | dict ds => obtain ⟨u, kvs, h1, _⟩ := ow; rw [h1]; exact fun z => by cases z
      | _ => cases hb
    have S' : SOk K cs O0 H0 (fun b => O b ∨ b = a) own ρ σ H' := S.go x (fun _ h => .inl h) hm fun b z => z.elim (fun z => (S.more x).trk b z) fun z => by rw [z]; exact ha
    have a0 : H0 a = none := S.ext.old na
    refine ⟨fun b => O b ∨ b = a, ⟨S'.ext, S'.tabs, S'.t0, S'.sub, S'.trk, by simp [S.len], fun j e h => ?_, fun j k c dj dk h1 h2 e1 b1 e2 b2 v1 v2 => ?_⟩, hm⟩
    · by_cases hj : i = j
      · subst hj
        obtain ⟨h1, h2⟩ := getE_set_self h
        cases h1
        exact ⟨.ref a, by rw [List.getElem?_set_self (by rw [S.len]; exact h2)], fun z => z.elim (fun z => absurd List.mem_cons_self z) (fun z => by rw [hb] at z; cases z), fun _ _ => ⟨a, rfl, .inr rfl, a0, ow⟩⟩
      · rw [getE_set_ne hj] at h
        rw [List.getElem?_set_ne hj]
        obtain ⟨v, e1, r1, r2⟩ := S'.val j e h
        exact ⟨v, e1, fun z => r1 (z.imp_left fun n m => n (List.mem_cons_of_mem _ m)), fun m => r2 ((List.mem_cons.mp m).resolve_left (Ne.symm hj))⟩
    · have old : ∀ j dj, i ≠ j → j ∈ own → getE ρ j = some dj → isBox dj = true → σ[j]? = some (some (.ref a)) → False := fun j dj hj hm e1 b1 v1 => by
        obtain ⟨v, e2, _, r2⟩ := S.val j dj e1
        obtain ⟨a', rfl, oa, _, _⟩ := r2 hm b1
        rw [v1] at e2
        cases e2
        exact S.trk a oa na
      by_cases hj : i = j
      · by_cases hk : i = k
        · exact hj.symm.trans hk
        · subst hj
          have e1' := (getE_set_self e1).2
          rw [List.getElem?_set_self (by rw [S.len]; exact e1')] at v1
          cases v1
          rw [getE_set_ne hk] at e2
          rw [List.getElem?_set_ne hk] at v2
          exact (old k dk hk ((List.mem_cons.mp h2).resolve_left (Ne.symm hk)) e2 b2 v2).elim
      · by_cases hk : i = k
        · subst hk
          have e2' := (getE_set_self e2).2
          rw [List.getElem?_set_self (by rw [S.len]; exact e2')] at v2
          cases v2
          rw [getE_set_ne hj] at e1
          rw [List.getElem?_set_ne hj] at v1
          exact (old j dj hj ((List.mem_cons.mp h1).resolve_left (Ne.symm hj)) e1 b1 v1).elim
        · rw [getE_set_ne hj] at e1
          rw [List.getElem?_set_ne hj] at v1
          rw [getE_set_ne hk] at e2
          rw [List.getElem?_set_ne hk] at v2
          exact S.dist j k c dj dk ((List.mem_cons.mp h1).resolve_left (Ne.symm hj)) ((List.mem_cons.mp h2).resolve_left (Ne.symm hk)) e1 b1 e2 b2 v1 v2
  · have hb' : isBox d = false := by simpa using hb
    have S' := S.more x
    have r' := (RepF.plain hb').mp r
    have Sp := S'.put hi r'
    refine ⟨O, ⟨Sp.ext, Sp.tabs, Sp.t0, Sp.sub, Sp.trk, Sp.len, fun j e h => ?_, fun j k c dj dk h1 h2 e1 b1 e2 b2 v1 v2 => ?_⟩, fun _ _ h => h⟩
    · obtain ⟨w, e1, r1, r2⟩ := Sp.val j e h
      by_cases hj : i = j
      · subst hj
        have := (getE_set_self h).1
        cases this
        exact ⟨w, e1, fun _ => r1 (.inr hb'), fun _ z => by rw [hb'] at z; cases z⟩
      · exact ⟨w, e1, fun z => r1 (z.imp_left fun n m => n (List.mem_cons_of_mem _ m)), fun m => r2 ((List.mem_cons.mp m).resolve_left (Ne.symm hj))⟩
    · have nj : i ≠ j := fun z => by
        subst z
        have := (getE_set_self e1).1
        cases this
        rw [hb'] at b1
        cases b1
      have nk : i ≠ k := fun z => by
        subst z
        have := (getE_set_self e2).1
        cases this
        rw [hb'] at b2
        cases b2
      exact Sp.dist j k c dj dk ((List.mem_cons.mp h1).resolve_left (Ne.symm nj)) ((List.mem_cons.mp h2).resolve_left (Ne.symm nk)) e1 b1 e2 b2 v1 v2
/-- what is owned is written -/
theorem SOk.write (S : SOk K cs O0 H0 O own ρ σ H) {i : Nat} {a : Addr} {d d' : D} (hi : i ∈ own) (e : getE ρ i = some d) (hb : isBox d = true) (hb' : isBox d' = true) (hv : σ[i]? = some (some (.ref a)))
    (x : Evo (fun b => b = a) H H') (h0 : H0 a = none) (ow : Own K H' O a d') : SOk K cs O0 H0 O own (ρ.set i (some d')) σ H' := by
  have oa : O a := by
    obtain ⟨v, e1, _, r2⟩ := S.val i d e
    obtain ⟨a', rfl, oa, _, _⟩ := r2 hi hb
    rw [hv] at e1
    cases e1
    exact oa
  have hm : ∀ b, H b ≠ none → ¬ O b → ¬ (b = a) ∧ ¬ O b := fun b _ h => ⟨fun z => h (by rw [z]; exact oa), h⟩
  refine ⟨⟨fun b o e1 _ n => x.keep b o (S.ext.keep b o e1 (fun z => z) n) (fun z => by rw [z, h0] at e1; cases e1) n, fun b ps e1 => (Evo.trans' (M := fun b => b = a) (M' := fun b => b = a) (Evo.of S.ext) x fun _ z => .inl z).tab b ps e1⟩, S.tabs.evo x, S.t0, S.sub, fun b ob z => ?_, by simp [S.len], fun j dj h => ?_, fun j k c dj dk h1 h2 e1 b1 e2 b2 v1 v2 => ?_⟩
  · by_cases q : b = a
    · subst q
      cases d' with
      | list ds => obtain ⟨xs, h1, _⟩ := ow; rw [h1] at z; cases z
      | dict ds => obtain ⟨u, kvs, h1, _⟩ := ow; rw [h1] at z; cases z
      | _ => cases hb'
    · cases q' : H b with
      | none => exact S.trk b ob q'
      | some o =>
        by_cases t : ∃ ps, o = .tbl ps
        · obtain ⟨ps, rfl⟩ := t
          obtain ⟨qs, e1, _⟩ := x.tab b ps q'
          rw [z] at e1; cases e1
        · rw [x.keep b o q' q fun ps z => t ⟨ps, z⟩] at z; cases z
  · by_cases hj : i = j
    · subst hj
      obtain ⟨h1, h2⟩ := getE_set_self h
      cases h1
      exact ⟨.ref a, hv, fun z => z.elim (fun z => absurd hi z) (fun z => by rw [hb'] at z; cases z), fun _ _ => ⟨a, rfl, oa, h0, ow⟩⟩
    · rw [getE_set_ne hj] at h
      obtain ⟨v, e1, r1, r2⟩ := S.val j dj h
      refine ⟨v, e1, fun z => Rep.evo x hm _ _ (r1 z), fun m hbj => ?_⟩
      obtain ⟨c, rfl, oc, nc, owc⟩ := r2 m hbj
      have nca : ¬ (c = a) := fun z => hj (S.dist i j a d dj hi m e hb h hbj hv (by rw [e1, z]))
      exact ⟨c, rfl, oc, nc, owc.evo x nca hm⟩
  · have q : ∀ k dk, getE (ρ.set i (some d')) k = some dk → isBox dk = true → ∃ dk, getE ρ k = some dk ∧ isBox dk = true := fun k dk e2 b2 => by
      by_cases hk : i = k
      · subst hk; exact ⟨d, e, hb⟩
      · rw [getE_set_ne hk] at e2; exact ⟨dk, e2, b2⟩
    obtain ⟨dj', e1', b1'⟩ := q j dj e1 b1
    obtain ⟨dk', e2', b2'⟩ := q k dk e2 b2
    exact S.dist j k c dj' dk' h1 h2 e1' b1' e2' b2' v1 v2
end

/-! ### the readings of statements -/
def Post (K : PySem.W.Frag) (cs : List Addr) (O0 : Addr → Prop) (H0 : Hp) (own' lb : List Nat) (P : (Addr → Prop) → Hp → Prop) (E : Ends) : Fl → Prop
  | .nx ρ' => ∀ O' σ' H', SOk K cs O0 H0 O' own' ρ' σ' H' → P O' H' → E.nx σ' H'
  | .rt d => ∀ v H', Ext H0 H' → Rep K H' O0 v d → E.rt v H'
  | .bk ρ' => ∀ O' σ' H', SOk K cs O0 H0 O' lb ρ' σ' H' → P O' H' → E.bk σ' H'
  | .ct ρ' => ∀ O' σ' H', SOk K cs O0 H0 O' lb ρ' σ' H' → P O' H' → E.ct σ' H'
def tS (K : PySem.W.Frag) (cs : List Addr) (own own' lb : List Nat) (f : Env → Option Fl) : TS := fun E σ H =>
  ∃ O0 H0 O ρ fl P, SOk K cs O0 H0 O own ρ σ H ∧ Fr P ∧ P O H ∧ f ρ = some fl ∧ Post K cs O0 H0 own' lb P E fl
def S1 (X : Cx) (cs : List Addr) (st : Stmt) (own own' lb : List Nat) (f : Env → Option Fl) : Prop := PS X st (tS X.K cs own own' lb f)
def SX (X : Cx) (cs : List Addr) (sts : List Stmt) (own own' lb : List Nat) (f : Env → Option Fl) : Prop := PSs X sts (tS X.K cs own own' lb f)
def seqF (f g : Env → Option Fl) (ρ : Env) : Option Fl := match f ρ with
  | some (.nx ρ') => g ρ'
  | r => r
section
variable {X : Cx} {cs : List Addr} {st : Stmt} {sts : List Stmt} {own own1 own2 own' lb : List Nat} {f g : Env → Option Fl} {pos : Pos}
theorem S1.by {t : TS} (p : PS X st t) (h : ∀ E σ H, tS X.K cs own own' lb f E σ H → t E σ H) : S1 X cs st own own' lb f := ⟨fun pins s σ H E I hw => p.run pins s σ H E I (h E σ H hw)⟩
theorem SX.by {t : TS} (p : PSs X sts t) (h : ∀ E σ H, tS X.K cs own own' lb f E σ H → t E σ H) : SX X cs sts own own' lb f := ⟨fun pins s σ H E I hw => p.run pins s σ H E I (h E σ H hw)⟩
theorem sx_nil : SX X cs [] own own lb fun ρ => some (.nx ρ) := SX.by pss_nil fun E σ H ⟨O0, H0, O, ρ, fl, P, S, F, p, e, k⟩ => by
  cases e
  exact k O σ H S p
theorem sx_cons (h1 : S1 X cs st own own1 lb f) (h2 : SX X cs sts own1 own' lb g) : SX X cs (st :: sts) own own' lb (seqF f g) := SX.by (pss_cons h1 h2) fun E σ H ⟨O0, H0, O, ρ, fl, P, S, F, p, e, k⟩ => by
  unfold seqF at e
  cases hf : f ρ with
  | none => rw [hf] at e; cases e
  | some fl1 =>
    rw [hf] at e
    cases fl1 with
    | nx ρ1 => exact ⟨O0, H0, O, ρ, _, P, S, F, p, hf, fun O' σ' H' S' p' => ⟨O0, H0, O', ρ1, fl, P, S', F, p', e, k⟩⟩
    | rt d => cases e; exact ⟨O0, H0, O, ρ, _, P, S, F, p, hf, k⟩
    | bk ρ1 => cases e; exact ⟨O0, H0, O, ρ, _, P, S, F, p, hf, k⟩
    | ct ρ1 => cases e; exact ⟨O0, H0, O, ρ, _, P, S, F, p, hf, k⟩
/-- fewer are owned ahead -/
theorem SX.pre (hs : ∀ i ∈ own1, i ∈ own) (h : SX X cs sts own1 own' lb f) : SX X cs sts own own' lb f := SX.by h fun E σ H ⟨O0, H0, O, ρ, fl, P, S, F, p, e, k⟩ => by
  obtain ⟨O', S', ho⟩ := S.fewer hs
  exact ⟨O0, H0, O', ρ, fl, P, S', F, F.fewer p ho, e, k⟩
/-- .. behind -/
theorem Post.less {O0 : Addr → Prop} {H0 : Hp} {P : (Addr → Prop) → Hp → Prop} {E : Ends} {fl : Fl} {K : PySem.W.Frag} (F : Fr P) (hs : ∀ i ∈ own2, i ∈ own') (k : Post K cs O0 H0 own2 lb P E fl) : Post K cs O0 H0 own' lb P E fl := by
  cases fl with
  | nx ρ' =>
    intro O' σ' H' S p
    obtain ⟨O2, S2, ho⟩ := S.fewer hs
    exact k O2 σ' H' S2 (F.fewer p ho)
  | _ => exact k
theorem SX.post (hs : ∀ i ∈ own2, i ∈ own') (h : SX X cs sts own own' lb f) : SX X cs sts own own2 lb f := SX.by h fun E σ H ⟨O0, H0, O, ρ, fl, P, S, F, p, e, k⟩ =>
  ⟨O0, H0, O, ρ, fl, P, S, F, p, e, k.less F hs⟩
theorem s_pass : S1 X cs (.Pass pos) own own lb fun ρ => some (.nx ρ) := S1.by ps_pass fun E σ H ⟨O0, H0, O, ρ, fl, P, S, F, p, e, k⟩ => by
  cases e
  exact k O σ H S p
theorem s_doc {x j pos'} : S1 X cs (.Expr (.Constant (.str x) j pos) pos') own own lb fun ρ => some (.nx ρ) := S1.by ps_doc fun E σ H ⟨O0, H0, O, ρ, fl, P, S, F, p, e, k⟩ => by
  cases e
  exact k O σ H S p
theorem s_brk (hs : ∀ i ∈ lb, i ∈ own) : S1 X cs (.Break pos) own own' lb fun ρ => some (.bk ρ) := S1.by ps_break fun E σ H ⟨O0, H0, O, ρ, fl, P, S, F, p, e, k⟩ => by
  cases e
  obtain ⟨O2, S2, ho⟩ := S.fewer hs
  exact k O2 σ H S2 (F.fewer p ho)
theorem s_cnt (hs : ∀ i ∈ lb, i ∈ own) : S1 X cs (.Continue pos) own own' lb fun ρ => some (.ct ρ) := S1.by ps_continue fun E σ H ⟨O0, H0, O, ρ, fl, P, S, F, p, e, k⟩ => by
  cases e
  obtain ⟨O2, S2, ho⟩ := S.fewer hs
  exact k O2 σ H S2 (F.fewer p ho)
theorem s_ret {e : Expr} {fe : Env → Option D} (he : EX cs own .val X e fe) : S1 X cs (.Return (some e) pos) own own' lb fun ρ => (fe ρ).map .rt := by
  obtain ⟨t, pe, q⟩ := he
  refine S1.by (ps_ret pe) fun E σ H ⟨O0, H0, O, ρ, fl, P, S, F, p, ef, k⟩ => ?_
  obtain ⟨d, e1, e2⟩ := Option.map_eq_some_iff.mp ef
  subst e2
  exact q O ρ σ H d S.env e1 _ fun v H1 x1 r1 => k v H1 (S.ext.trans x1) (Rep.weak r1 S.sub)
theorem s_retN : S1 X cs (.Return none pos) own own' lb fun ρ => some (.rt .none) := S1.by ps_retN fun E σ H ⟨O0, H0, O, ρ, fl, P, S, F, p, ef, k⟩ => by
  cases ef
  exact k .non H S.ext .non
theorem s_if {c : Expr} {a b : List Stmt} {fc : Env → Option D} (hc : TX cs own X c fc) (ha : SX X cs a own own' lb f) (hb : SX X cs b own own' lb g) :
    S1 X cs (.If c a b pos) own own' lb fun ρ => (fc ρ).bind fun x => (truthy x).bind fun k => if k = true then f ρ else g ρ := by
  obtain ⟨t, pc, q⟩ := hc
  refine S1.by (ps_if pc ha hb) fun E σ H ⟨O0, H0, O, ρ, fl, P, S, F, p, ef, k⟩ => ?_
  obtain ⟨x, e1, ef⟩ := Option.bind_eq_some_iff.mp ef
  obtain ⟨kk, e2, ef⟩ := Option.bind_eq_some_iff.mp ef
  refine q O ρ σ H x S.env e1 kk e2 _ fun H1 x1 => ?_
  have r : tS X.K cs own own' lb (if kk = true then f else g) E σ H1 := ⟨O0, H0, O, ρ, fl, P, S.more x1, F, F.ext p x1, by cases kk <;> exact ef, k⟩
  cases kk with
  | true => exact r
  | false => exact r
end
end PC

namespace PC
open PySem PySem.Spec PyProof.Rows L2

section
variable {X : Cx} {cs : List Addr} {st : Stmt} {sts : List Stmt} {own own1 own2 own' lb l : List Nat} {f g : Env → Option Fl} {pos : Pos}

/-! ### loops -/
theorem s_while {c : Expr} {body : List Stmt} {fc : Env → Option D} {W : Nat} (hp : PassesOwn (model X.prog X.w) X.A X.env X.xe) (hs : ∀ i ∈ l, i ∈ own) (hs2 : ∀ i ∈ l, i ∈ own2) (hc : TX cs l X c fc) (hb : SX X cs body l own2 l f) :
    S1 X cs (.While c body [] pos) own l lb fun ρ => whileL (fun ρ => (fc ρ).bind truthy) f W ρ := by
  obtain ⟨t, pc, q⟩ := hc
  refine S1.by (ps_while hp pc hb) fun E σ H ⟨O0, H0, O, ρ, fl, P, S, F, p, ef, k⟩ => ?_
  obtain ⟨O1, S1', ho⟩ := S.fewer hs
  refine ⟨fun m σ H => ∃ O ρ, SOk X.K cs O0 H0 O l ρ σ H ∧ P O H ∧ whileL (fun ρ => (fc ρ).bind truthy) f m ρ = some fl, ⟨W, O1, ρ, S1', F.fewer p ho, ef⟩, ?_⟩
  rintro m σ H ⟨O, ρ, S, p, e⟩
  cases m with
  | zero => simp [whileL] at e
  | succ m =>
    unfold whileL at e
    cases hx : (fc ρ).bind truthy with
    | none => rw [hx] at e; cases e
    | some kk =>
      rw [hx] at e
      obtain ⟨x, e1, e2⟩ := Option.bind_eq_some_iff.mp hx
      refine q O ρ σ H x S.env e1 kk e2 _ fun H1 x1 => ?_
      cases kk with
      | false =>
        rw [if_neg Bool.false_ne_true]
        cases e
        exact k O σ H1 (S.more x1) (F.ext p x1)
      | true =>
        rw [if_pos rfl]
        cases hf : f ρ with
        | none => simp only [hf] at e; cases e
        | some fl1 =>
          simp only [hf] at e
          refine ⟨fun σ H => ∃ O ρ, SOk X.K cs O0 H0 O l ρ σ H ∧ P O H ∧ whileL (fun ρ => (fc ρ).bind truthy) f m ρ = some fl, fun σ' H' h => ⟨m, Nat.lt_succ_self m, h⟩, O0, H0, O, ρ, fl1, P, S.more x1, F, F.ext p x1, hf, ?_⟩
          cases fl1 with
          | nx ρ1 =>
            refine Post.less (own2 := l) F hs2 fun O' σ' H' S' p' => ?_
            exact ⟨O', ρ1, S', p', e⟩
          | ct ρ1 => exact fun O' σ' H' S' p' => ⟨O', ρ1, S', p', e⟩
          | bk ρ1 =>
            cases e
            exact k
          | rt d =>
            cases e
            exact k
theorem s_for {tg it : Expr} {body : List Stmt} {fi : Env → Option (List D)} {t : T} (hp : PassesOwn (model X.prog X.w) X.A X.env X.xe) (hc : X.calm = true) (hs : ∀ i ∈ l, i ∈ own) (hs2 : ∀ i ∈ l, i ∈ own2) (hs3 : ∀ i ∈ t.vars, i ∉ l)
    (hi : IX cs own false X tg it fi) (hg : PG X tg (tG X.K t)) (hb : SX X cs body l own2 l f) (hfs : ∀ x, foldedSetIterable it X.env x = pure x) :
    S1 X cs (.For tg it body [] pos) own l lb fun ρ => (fi ρ).bind fun xs => forL (fun x ρ => (bindT t x ρ).bind f) xs ρ := by
  refine S1.by (ps_for hp hc hi hg hb hfs) fun E σ H ⟨O0, H0, O, ρ, fl, P, S, F, p, ef, k⟩ => ?_
  obtain ⟨ds, e1, ef⟩ := Option.bind_eq_some_iff.mp ef
  refine ⟨O, ρ, ds, S.env, e1, fun J H1 B G x1 wk hG hB => ?_⟩
  obtain ⟨O1, S1', ho⟩ := (S.more x1).fewer hs
  have G1 : G O1 H1 := wk.stay noA O O1 H1 H1 hG Evo.refl (fun b _ n => ⟨fun z => z, fun z => n (ho b z)⟩) fun _ _ z => z
  have FP : Fr fun O H => P O H ∧ G O H ∧ ∀ b, B b → H b ≠ none ∧ ¬ O b := fun M O O' H H' ⟨a1, a2, a3⟩ x hm => by
    refine ⟨F M O O' H H' a1 x hm, wk.stay M O O' H H' a2 x hm fun b hb => (hm b (a3 b hb).1 (a3 b hb).2).1, fun b hb => ?_⟩
    obtain ⟨h1, h2⟩ := a3 b hb
    obtain ⟨h3, h4⟩ := hm b h1 h2
    refine ⟨fun z => ?_, h4⟩
    cases q : H b with
    | none => exact h1 q
    | some o =>
      by_cases tt : ∃ ps, o = .tbl ps
      · obtain ⟨ps, rfl⟩ := tt
        obtain ⟨qs, e1, _⟩ := x.tab b ps q
        rw [z] at e1; cases e1
      · rw [x.keep b o q h3 fun ps z => tt ⟨ps, z⟩] at z; cases z
  refine ⟨fun i m σ H => m = ds.length - i ∧ i ≤ ds.length ∧ ∃ O ρ, SOk X.K cs O0 H0 O l ρ σ H ∧ (P O H ∧ G O H ∧ ∀ b, B b → H b ≠ none ∧ ¬ O b) ∧ forL (fun x ρ => (bindT t x ρ).bind f) (ds.drop i) ρ = some fl,
    ⟨ds.length, rfl, Nat.zero_le _, O1, ρ, S1', ⟨F.fewer (F.ext p x1) ho, G1, fun b hb => ⟨(hB b hb).1, fun z => (hB b hb).2 rfl (ho b z)⟩⟩, ef⟩, ?_⟩
  rintro i m σ H ⟨rfl, hi', O, ρ, S, p, e⟩
  by_cases hlt : i < ds.length
  · refine .inr ⟨wk.goes i O H hlt p.2.1, fun σ H => i + 1 ≤ ds.length ∧ ∃ O ρ, SOk X.K cs O0 H0 O l ρ σ H ∧ (P O H ∧ G O H ∧ ∀ b, B b → H b ≠ none ∧ ¬ O b) ∧ forL (fun x ρ => (bindT t x ρ).bind f) (ds.drop (i + 1)) ρ = some fl,
      fun σ' H' h => ⟨ds.length - (i + 1), by omega, rfl, h⟩, fun x H' y => ?_⟩
    obtain ⟨xy, d, hd, rx⟩ := wk.yields i O H x H' hlt p.2.1 S.trk y
    rw [List.drop_eq_getElem_cons hlt] at e
    have e0 : ds[i] = d := by rw [List.getElem?_eq_getElem hlt] at hd; exact Option.some.inj hd
    rw [e0] at e
    unfold forL at e
    cases hb2 : bindT t d ρ with
    | none => simp only [hb2, Option.bind_none] at e; cases e
    | some ρ1 =>
      simp only [hb2, Option.bind_some] at e
      refine ⟨O, d, rx, ⟨ρ, ρ1, hb2⟩, fun L hL => ?_⟩
      have := hL.eq ρ
      rw [hb2] at this
      cases this
      have S2 : SOk X.K cs O0 H0 O l (setsE L ρ) (setsV L σ) H' := (S.more xy).putAll fun q hq => ⟨hs3 _ (hL.all q hq).1, (hL.all q hq).2⟩
      cases hf : f (setsE L ρ) with
      | none => simp only [hf] at e; cases e
      | some fl1 =>
        simp only [hf] at e
        refine ⟨O0, H0, O, setsE L ρ, fl1, _, S2, FP, FP.ext p xy, hf, ?_⟩
        cases fl1 with
        | nx ρ1 =>
          refine Post.less (own2 := l) FP hs2 fun O' σ' H' S' p' => ?_
          exact ⟨hlt, O', ρ1, S', p', e⟩
        | ct ρ1 => exact fun O' σ' H' S' p' => ⟨hlt, O', ρ1, S', p', e⟩
        | bk ρ1 =>
          cases e
          exact fun O' σ' H' S' p' => k O' σ' H' S' p'.1
        | rt d =>
          cases e
          exact k
  · have ei : i = ds.length := by omega
    subst ei
    rw [List.drop_length] at e
    cases e
    exact .inl ⟨wk.stops O H p.2.1, k O σ H S p.1⟩

/-! ### stores -/
/-- a statement that stores a value at a target -/
def AsgT (X : Cx) (cs : List Addr) (own : List Nat) (m : Md) (st : Stmt) (t : T) (fe : Env → Option D) : Prop :=
  ∃ te g, PS X st (tAsg te g) ∧ (∀ O ρ σ H d, EnvOk X.K cs O own ρ σ H → fe ρ = some d → ∀ Q : VK, (∀ v H', Ext H H' → RepM m X.K H H' O v d → Q v H') → te σ H Q) ∧ (∀ v σ H Q, tG X.K t v σ H Q → g v σ H Q)
def AsgN (X : Cx) (cs : List Addr) (own : List Nat) (m : Md) (st : Stmt) (i : Nat) (fe : Env → Option D) : Prop :=
  ∃ te, PS X st (tAsg te (gName i)) ∧ (∀ O ρ σ H d, EnvOk X.K cs O own ρ σ H → fe ρ = some d → ∀ Q : VK, (∀ v H', Ext H H' → RepM m X.K H H' O v d → Q v H') → te σ H Q)
theorem gName_of {K : PySem.W.Frag} {i : Nat} (v : V) (σ : L2.St) (H : Hp) (Q : L2.St → Hp → Prop) (h : tG K (.n i) v σ H Q) : gName i v σ H Q := by
  obtain ⟨O, d, rd, _, k⟩ := h
  exact k [(i, v, d)] ⟨fun p hp => by
    have e : p = (i, v, d) := by simpa using hp
    subst e
    exact ⟨by simp [T.vars], rd⟩, fun ρ => by simp [bindT, setsE]⟩
theorem AsgN.t {m : Md} {i : Nat} {fe : Env → Option D} (h : AsgN X cs own m st i fe) : AsgT X cs own m st (.n i) fe := by
  obtain ⟨te, p, q⟩ := h
  exact ⟨te, _, p, q, gName_of⟩
theorem AsgN.val {m : Md} {i : Nat} {fe : Env → Option D} (h : AsgN X cs own m st i fe) (hm : m.le .val = true) : AsgN X cs own .val st i fe := by
  obtain ⟨te, p, q⟩ := h
  refine ⟨te, p, fun O ρ σ H d E e Q k => q O ρ σ H d E e Q fun v H' x r => k v H' x ?_⟩
  cases m with
  | fr => exact RepF.rep r E.trk
  | val => exact r
  | bor => cases hm
theorem asg_ex {m : Md} {tg e : Expr} {t : T} {fe : Env → Option D} (he : EX cs own m X e fe) (hg : PG X tg (tG X.K t)) (hs : swapsWithSole [tg] e pos.line X.env = pure false) (hw : swappedStores [tg] e X.env = pure none) (h1 : (assignEach [tg] X.env).map (·.2) = [assign tg X.env]) :
    AsgT X cs own m (.Assign [tg] e pos) t fe := by
  obtain ⟨te, pe, q⟩ := he
  exact ⟨te, _, ps_asg pe hg hs hw h1, q, fun _ _ _ _ h => h⟩
theorem asg_name {m : Md} {e : Expr} {i : Nat} {x : Str} {pos' : Pos} {fe : Env → Option D} (hN : X.N.Nodup) (hi : X.N[i]? = some x) (hx : Loc X.env.scope x) (he : EX cs own m X e fe) (hs : swapsWith e (some (.Name x pos')) pos.line X.env = pure false) (hf : X.fn x = true ∨ X.env.scope.names.lookup x = some .local) :
    AsgN X cs own m (.Assign [.Name x pos'] e pos) i fe := by
  obtain ⟨te, pe, q⟩ := he
  exact ⟨te, ps_set hN hi hx pe hs hf, q⟩
theorem asg_lc {i : Nat} {y : Str} {py pos' : Pos} {bo : Bool} {tg iter elt : Expr} {ifs : List Expr} {scope : Scope} {ow : List (Str × Nat)} {fi : Env → Option (List D)} {fc fe : Env → Option D} {t : T} {vs : List Nat} (hc : X.calm = true) (hN : X.N.Nodup) (hy : X.N[i]? = some y) (hyl : X.env.scope.names.lookup y = some .local)
    (hsw : swapsWith (.ListComp elt [⟨tg, iter, ifs, 0⟩] scope pos') (some (.Name y py)) pos.line X.env = pure true) (hi : IX cs own bo X tg iter fi) (ok : BlkOk X.N X.env.scope scope ow) (hvs : ow.map (·.2) = vs) (htv : ∀ i ∈ t.vars, i ∈ vs)
    (hg : ∀ (s : Shared) (H : Hp) (C : Addr) (cl : List (Str × Addr)) (fp : List Addr), PG (X.blk s H scope (compEnvC scope cl C X.env) fp) tg (tG X.K t))
    (ht : ∀ (s : Shared) (H : Hp) (C : Addr) (cl : List (Str × Addr)) (fp : List Addr), PTs (X.blk s H scope (compEnvC scope cl C X.env) fp) ifs (tT cs own X.K fc))
    (he : ∀ (s : Shared) (H : Hp) (C : Addr) (cl : List (Str × Addr)) (fp : List Addr), PE (X.blk s H scope (compEnvC scope cl C X.env) fp) elt (tE cs own .val X.K fe))
    (hs : ∀ x, foldedSetIterable iter X.env x = pure x) :
    AsgN X cs own .fr (.Assign [.Name y py] (.ListComp elt [⟨tg, iter, ifs, 0⟩] scope pos') pos) i fun ρ => (fi ρ).bind fun xs => if xs.length ≤ SL then (compL (compF fc fe t vs ρ) xs).map .list else none := by
  subst hvs
  exact ⟨_, ps_setLc hc hN hy hyl hsw hi ok hg ht he hs, lc_law htv⟩
theorem s_asg {m : Md} {t : T} {fe : Env → Option D} (h : AsgT X cs own m st t fe) (hm : m.le .val = true) (hs : ∀ i ∈ t.vars, i ∉ own) : S1 X cs st own own lb fun ρ => (fe ρ).bind fun d => (bindT t d ρ).map .nx := by
  obtain ⟨te, g, ps, q, qg⟩ := h
  refine S1.by ps fun E σ H ⟨O0, H0, O, ρ, fl, P, S, F, p, ef, k⟩ => ?_
  obtain ⟨d, e1, ef⟩ := Option.bind_eq_some_iff.mp ef
  obtain ⟨ρ', e2, e3⟩ := Option.map_eq_some_iff.mp ef
  subst e3
  refine q O ρ σ H d S.env e1 _ fun v H1 x1 r1 => qg v σ H1 _ ⟨O, d, ?_, ⟨ρ, ρ', e2⟩, fun L hL => ?_⟩
  · cases m with
    | fr => exact RepF.rep r1 S.trk
    | val => exact r1
    | bor => cases hm
  · have := hL.eq ρ
    rw [e2] at this
    cases this
    exact k O _ H1 ((S.more x1).putAll fun q hq => ⟨hs _ (hL.all q hq).1, (hL.all q hq).2⟩) (F.ext p x1)
theorem s_own {i : Nat} {fe : Env → Option D} (h : AsgN X cs own .fr st i fe) (hs : i ∉ own) : S1 X cs st own (i :: own) lb fun ρ => (fe ρ).bind fun d => (bindT (.n i) d ρ).map .nx := by
  obtain ⟨te, ps, q⟩ := h
  refine S1.by ps fun E σ H ⟨O0, H0, O, ρ, fl, P, S, F, p, ef, k⟩ => ?_
  obtain ⟨d, e1, ef⟩ := Option.bind_eq_some_iff.mp ef
  obtain ⟨ρ', e2, e3⟩ := Option.map_eq_some_iff.mp ef
  subst e3
  have e2' : ρ' = ρ.set i (some d) := by simpa [bindT] using e2.symm
  subst e2'
  refine q O ρ σ H d S.env e1 _ fun v H1 x1 r1 => ?_
  obtain ⟨O', S', hm⟩ := S.fresh x1 r1 hs
  exact k O' _ H1 S' (F noA O O' H H1 p x1 fun b h1 h2 => ⟨fun z => z, hm b h1 h2⟩)
/-- ahead of a statement less is owned -/
theorem S1.pre (hs : ∀ i ∈ own1, i ∈ own) (h : S1 X cs st own1 own' lb f) : S1 X cs st own own' lb f := S1.by h fun E σ H ⟨O0, H0, O, ρ, fl, P, S, F, p, e, k⟩ => by
  obtain ⟨O', S', ho⟩ := S.fewer hs
  exact ⟨O0, H0, O', ρ, fl, P, S', F, F.fewer p ho, e, k⟩
/-- x op= e -/
theorem ip_add : PIp X .Add (ipI fun i j => i + j) := L2.ip_add
theorem ip_mul : PIp X .Mult (fun x y H Q => ∃ i j, x = .int i ∧ y = .int j ∧ CMul i j ∧ Q (.int (i * j)) H) := by
  intro pins s σ H x y v u Q I r1 r2 h
  obtain ⟨i, j, rfl, rfl, hc, q⟩ := h
  obtain ⟨t, rfl⟩ := r1
  obtain ⟨t', rfl⟩ := r2
  exact imul_int ⟨.int _, H, I.tok _, ⟨_, rfl⟩, q⟩ hc.ok
def augOp : Operator → Bool
  | .Add => true
  | .Sub => true
  | .Mult => true
  | _ => false
theorem ip_ok {op : Operator} (h : augOp op = true) : ∃ t, PIp X op t ∧ ∀ (i j : Int) (w : D) H Q, binD op (.int i) (.int j) = some w → (∀ k, w = .int k → Q (.int k) H) → t (.int i) (.int j) H Q := by
  cases op <;> first | cases h | skip
  · exact ⟨_, L2.ip_add, fun i j w H Q e k => ⟨i, j, rfl, rfl, k _ (Option.some.inj e).symm⟩⟩
  · exact ⟨_, L2.ip_sub, fun i j w H Q e k => ⟨i, j, rfl, rfl, k _ (Option.some.inj e).symm⟩⟩
  · refine ⟨_, ip_mul, fun i j w H Q e k => ?_⟩
    simp only [binD, mulD] at e
    split at e
    · rename_i c
      simp only [small64, Bool.or_eq_true, Bool.and_eq_true, decide_eq_true_eq] at c
      exact ⟨i, j, rfl, rfl, c, k _ (Option.some.inj e).symm⟩
    · cases e
theorem bin_isInt {op : Operator} (h : augOp op = true) {i j : Int} {w : D} (e : binD op (.int i) (.int j) = some w) : ∃ k, w = .int k := by
  cases op <;> first | cases h | skip
  · exact ⟨_, (Option.some.inj e).symm⟩
  · exact ⟨_, (Option.some.inj e).symm⟩
  · simp only [binD, mulD] at e
    split at e
    · exact ⟨_, (Option.some.inj e).symm⟩
    · cases e
theorem s_aug {i : Nat} {x : Str} {e : Expr} {op : Operator} {pos' : Pos} {fe : Env → Option D} (hN : X.N.Nodup) (hi : X.N[i]? = some x) (hx : Loc X.env.scope x) (hf : X.fn x = true ∨ X.env.scope.names.lookup x = some .local) (ho : augOp op = true) (hs : i ∉ own) (he : EX cs own .bor X e fe) :
    S1 X cs (.AugAssign (.Name x pos') op e pos) own own lb fun ρ => (getE ρ i).bind fun x => (fe ρ).bind fun y => match x, y with
      | .int _, .int _ => (binD op x y).map fun z => .nx (ρ.set i (some z))
      | _, _ => none := by
  obtain ⟨te, pe, q⟩ := he
  obtain ⟨ti, pi, qi⟩ := ip_ok (X := X) ho
  refine S1.by (ps_aug hN hi hx pe pi hf) fun E σ H ⟨O0, H0, O, ρ, fl, P, S, F, p, ef, k⟩ => ?_
  obtain ⟨a, e1, ef⟩ := Option.bind_eq_some_iff.mp ef
  obtain ⟨b, e2, ef⟩ := Option.bind_eq_some_iff.mp ef
  cases a <;> try simp only [reduceCtorEq] at ef
  cases b <;> try simp only [reduceCtorEq] at ef
  obtain ⟨z, e3, e4⟩ := Option.map_eq_some_iff.mp ef
  subst e4
  obtain ⟨v, ev, r, _⟩ := S.val i _ e1
  have r' := r (.inr rfl)
  cases r'
  refine ⟨_, ev, q O ρ σ H _ S.env e2 _ fun w H1 x1 r1 => ?_⟩
  rw [show w = .int _ from RepB.int.mp r1]
  refine qi _ _ z H1 _ e3 fun kk ek => ?_
  subst ek
  exact k O _ H1 ((S.more x1).put hs (.int kk)) (F.ext p x1)

/-! ### writing what is owned -/
def rPutX : TSet := fun o i v H Q => rSetL o i v H Q ∨ ∃ a H1 H', o = .ref a ∧ (H1 = H ∨ (H a = some (.dK []) ∧ H1 = upd H a (.dT [])) ∨ (H a = some (.dT []) ∧ H1 = upd H a (.dK []))) ∧ DPut H1 a i v H' ∧ Q H'
theorem set_any (hu : X.A.units + 1 < cLine) : PSet X rPutX := by
  intro pins s σ H o i v ov iv u Q I ro ri rv h
  rcases h with h | ⟨a, H1, H', rfl, hv, g, q⟩
  · exact set_list pins s σ H o i v ov iv u Q I ro ri rv h
  · have I1 : Inv X pins σ H1 s := by
      rcases hv with rfl | ⟨h, rfl⟩ | ⟨h, rfl⟩
      · exact I
      · exact view_T I h
      · exact view_K I h
    exact set_dict hu pins s σ H1 (.ref a) i v ov iv u Q I1 ro ri rv ⟨a, H', rfl, g, q⟩
theorem putD_own {K : PySem.W.Frag} {O0 O : Addr → Prop} {H0 H : Hp} {ρ : Env} {σ : L2.St} {i : Nat} {o x y o' : D} {v vx vy : V} {Q : Hp → Prop} (S : SOk K cs O0 H0 O own ρ σ H) (hi : i ∈ own) (e : getE ρ i = some o) (hv : σ[i]? = some (some v)) (rx : Rep K H noA vx x) (ry : Rep K H O vy y) (hp : putD o x y = some o')
    (k : ∀ a H', v = .ref a → O a → Evo (fun b => b = a) H H' → SOk K cs O0 H0 O own (ρ.set i (some o')) σ H' → Q H') : rPutX v vx vy H Q := by
  have hc : (∃ xs kk, o = .list xs ∧ x = .int kk ∧ (nthN xs.length kk).map (fun j => PyData.list (xs.set j y)) = some o') ∨ ∃ es, o = .dict es ∧ (if (keyK x && kindK es x && decide (es.length < SL)) = true then some (PyData.dict (putK es x y)) else none) = some o' := by
    cases o with
    | list xs =>
      cases x with
      | int kk => exact .inl ⟨xs, kk, rfl, rfl, hp⟩
      | _ => cases hp
    | dict es => exact .inr ⟨es, rfl, hp⟩
    | _ => cases hp
  clear hp
  rcases hc with ⟨xs, kk, rfl, rfl, hp⟩ | ⟨es, rfl, hp⟩
  · obtain ⟨j, e1, e2⟩ := Option.map_eq_some_iff.mp hp
    subst e2
    obtain ⟨v', e3, _, r2⟩ := S.val i _ e
    obtain ⟨a, rfl, oa, na, ow⟩ := r2 hi rfl
    rw [hv] at e3
    cases e3
    obtain ⟨vs, h1, h2⟩ := ow
    cases rx
    refine .inl ⟨a, vs, kk, j, rfl, rfl, h1, by rw [h2.length]; exact e1, ?_⟩
    have up : Evo (fun b => b = a) H (upd H a (.lst (vs.set j vy))) := Evo.put h1 (fun _ z => by cases z) rfl
    have hm : ∀ b, H b ≠ none → ¬ O b → ¬ (b = a) ∧ ¬ O b := fun b _ h => ⟨fun z => h (by rw [z]; exact oa), h⟩
    exact k a _ rfl oa up (S.write hi e rfl rfl hv up na ⟨_, upd_same, RepL.evo up hm _ _ (h2.set ry j)⟩)
  · split at hp
    · rename_i c
      cases hp
      simp only [Bool.and_eq_true, decide_eq_true_eq] at c
      obtain ⟨⟨c1, c2⟩, c3⟩ := c
      obtain ⟨v', e3, _, r2⟩ := S.val i _ e
      obtain ⟨a, rfl, oa, na, ow⟩ := r2 hi rfl
      rw [hv] at e3
      cases e3
      obtain ⟨u, kvs, h1, h2, h3⟩ := ow
      have hm : ∀ b, H b ≠ none → ¬ O b → ¬ (b = a) ∧ ¬ O b := fun b _ h => ⟨fun z => h (by rw [z]; exact oa), h⟩
      have hl := h3.length
      have notab : ∀ ps, u ≠ .tbl ps := h2.notTab
      have fin : ∀ (l : List (Key × V)), RepP K H O (l.map fun p => (keyD p.1, p.2)) (putK es x y) → Q (upd H a (.dK l)) := fun l hr => by
        have up : Evo (fun b => b = a) H (upd H a (.dK l)) := Evo.put h1 notab rfl
        exact k a _ rfl oa up (S.write hi e rfl rfl hv up na ⟨_, _, upd_same, .inl ⟨l, rfl, rfl⟩, RepP.evo up hm _ _ hr⟩)
      have finT : ∀ (l : List (List Key × V)), RepP K H O (l.map fun p => (keyT p.1, p.2)) (putK es x y) → Q (upd H a (.dT l)) := fun l hr => by
        have up : Evo (fun b => b = a) H (upd H a (.dT l)) := Evo.put h1 notab rfl
        exact k a _ rfl oa up (S.write hi e rfl rfl hv up na ⟨_, _, upd_same, .inr ⟨l, rfl, rfl⟩, RepP.evo up hm _ _ hr⟩)
      rcases key_rep rx c1 with ⟨ky, rfl, rfl⟩ | ⟨ks, b, rfl, hb, rfl⟩
      · rcases h2 with ⟨l, rfl, rfl⟩ | ⟨l, rfl, rfl⟩
        · rw [List.length_map] at hl
          exact .inr ⟨a, H, _, rfl, .inl rfl, DPut.k h1 (by rw [← sl_line, ← hl]; exact c3), fin _ (repP_put eqv_keyD ky ry h3)⟩
        · obtain ⟨rfl, rfl⟩ := kind_K h3 c2
          refine .inr ⟨a, _, _, rfl, .inr (.inr ⟨h1, rfl⟩), DPut.k upd_same (by rw [← sl_line]; exact c3), ?_⟩
          rw [upd_upd]
          exact fin _ (repP_put eqv_keyD ky ry (l := []) .nil)
      · rcases h2 with ⟨l, rfl, rfl⟩ | ⟨l, rfl, rfl⟩
        · obtain ⟨rfl, rfl⟩ := kind_T h3 c2
          have nb : b ≠ a := fun z => by rw [z, h1] at hb; cases hb
          refine .inr ⟨a, _, _, rfl, .inr (.inl ⟨h1, rfl⟩), DPut.t upd_same (by rw [upd_ne nb]; exact hb) (by rw [← sl_line]; exact c3), ?_⟩
          rw [upd_upd]
          exact finT _ (repP_put eqv_keyT ks ry (l := []) .nil)
        · rw [List.length_map] at hl
          exact .inr ⟨a, H, _, rfl, .inl rfl, DPut.t h1 hb (by rw [← sl_line, ← hl]; exact c3), finT _ (repP_put eqv_keyT ks ry h3)⟩
    · cases hp
theorem s_put {i : Nat} {x : Str} {ke e : Expr} {p1 p2 : Pos} {fk fe : Env → Option D} (hu : X.A.units + 1 < cLine) (hi : X.N[i]? = some x) (hv : Vis X.env.scope x) (hd : (x == ("__debug__" : Str)) = false) (hcd : (x == ("__classdict__" : Str)) = false) (ho : i ∈ own)
    (hk : EX cs own .bor X ke fk) (he : EX cs own .val X e fe) (ha : ∀ v, assign (.Subscript (.Name x p1) ke p2) X.env v = (do
      let ov ← holding [v] (eval (.Name x p1) X.env)
      let iv ← holding [v, ov] (eval ke X.env)
      standAt p2
      holding [v, ov, iv] (setItem ov iv v)
      release [v, ov, iv] [])) (hs : swapsWithSole [.Subscript (.Name x p1) ke p2] e pos.line X.env = pure false) (hw : swappedStores [.Subscript (.Name x p1) ke p2] e X.env = pure none) :
    S1 X cs (.Assign [.Subscript (.Name x p1) ke p2] e pos) own own lb fun ρ => (fe ρ).bind fun y => (getE ρ i).bind fun o => (fk ρ).bind fun x => (putD o x y).map fun o' => .nx (ρ.set i (some o')) := by
  obtain ⟨tk, pk, qk⟩ := hk
  obtain ⟨te, pe, qe⟩ := he
  refine S1.by (ps_asg pe (pg_sub (pe_var hi hv hd hcd) pk (set_any hu) ha) hs hw rfl) fun E σ H ⟨O0, H0, O, ρ, fl, P, S, F, p, ef, k⟩ => ?_
  obtain ⟨y, e1, ef⟩ := Option.bind_eq_some_iff.mp ef
  obtain ⟨o, e2, ef⟩ := Option.bind_eq_some_iff.mp ef
  obtain ⟨x, e3, ef⟩ := Option.bind_eq_some_iff.mp ef
  obtain ⟨o', e4, e5⟩ := Option.map_eq_some_iff.mp ef
  subst e5
  refine qe O ρ σ H y S.env e1 _ fun vy H1 x1 r1 => ?_
  obtain ⟨v, ev, _⟩ := S.val i o e2
  refine ⟨v, ev, qk O ρ σ H1 x (S.more x1).env e3 _ fun vx H2 x2 r2 => ?_⟩
  have S2 := S.more (x1.trans x2)
  exact putD_own S2 ho e2 ev (RepB.dle_rep r2) (Rep.ext r1 x2) e4 fun a H' _ oa up S' => k O _ H' S' (F _ O O H2 H' (F.ext p (x1.trans x2)) up fun b _ h => ⟨fun z => h (by rw [z]; exact oa), h⟩)
/-- x.append(e) -/
theorem s_app {i : Nat} {x : Str} {e : Expr} {p1 apos cpos : Pos} {fe : Env → Option D} (hi : X.N[i]? = some x) (hv : Vis X.env.scope x) (hd : (x == ("__debug__" : Str)) = false) (hcd : (x == ("__classdict__" : Str)) = false) (ho : i ∈ own) (hst : noStar e = true)
    (hline : (apos.endLine == cpos.line) = true) (he : EX cs own .val X e fe) :
    S1 X cs (.Expr (.Call (.Attribute (.Name x p1) "append" apos) [e] [] cpos) pos) own own lb fun ρ => (fe ρ).bind fun y => (getE ρ i).bind fun o => match o with
      | .list xs => if xs.length < SL then some (.nx (ρ.set i (some (.list (xs ++ [y]))))) else none
      | _ => none := by
  obtain ⟨te, pe, qe⟩ := he
  refine S1.by (ps_expr (pe_bm PySem.F.plainAttrs_list PySem.F.slot_list_append PySem.F.type_list_append mt_append (pe_var hi hv hd hcd) (pa_cons pe pa_nil (star_cons hst)) rfl (by rw [star_cons hst]; rfl) hline (star_cons hst) rfl)) fun E σ H ⟨O0, H0, O, ρ, fl, P, S, F, p, ef, k⟩ => ?_
  obtain ⟨y, e1, ef⟩ := Option.bind_eq_some_iff.mp ef
  obtain ⟨o, e2, ef⟩ := Option.bind_eq_some_iff.mp ef
  cases o <;> try simp only [reduceCtorEq] at ef
  rename_i xs
  split at ef
  · rename_i hz
    cases ef
    obtain ⟨v, ev, _, r2⟩ := S.val i _ e2
    obtain ⟨a, rfl, oa, na, vs, h1, h2⟩ := r2 ho rfl
    refine ⟨_, ev, .inl ⟨rfl, vs, SqL.of h1⟩, qe O ρ σ H y S.env e1 _ fun vy H1 x1 r1 => ?_⟩
    have h1' := x1.keep a _ h1 (fun z => z) (fun _ z => by cases z)
    have h2' := h2.ext x1
    refine ⟨a, vs, vy, rfl, rfl, h1', by rw [← sl_line, h2.length]; exact hz, ?_⟩
    have up : Evo (fun b => b = a) H1 (upd H1 a (.lst (vs ++ [vy]))) := Evo.put h1' (fun _ z => by cases z) rfl
    have hm : ∀ b, H1 b ≠ none → ¬ O b → ¬ (b = a) ∧ ¬ O b := fun b _ h => ⟨fun z => h (by rw [z]; exact oa), h⟩
    exact k O _ _ ((S.more x1).write ho e2 rfl rfl ev up na ⟨_, upd_same, RepL.evo up hm _ _ (h2'.append (.cons r1 .nil))⟩) (F _ O O H1 _ (F.ext p x1) up hm)
  · cases ef
/-- x.extend(e), e just made -/
theorem s_ext {i : Nat} {x : Str} {e : Expr} {p1 apos cpos : Pos} {fe : Env → Option D} (hi : X.N[i]? = some x) (hv : Vis X.env.scope x) (hd : (x == ("__debug__" : Str)) = false) (hcd : (x == ("__classdict__" : Str)) = false) (ho : i ∈ own) (hst : noStar e = true)
    (hline : (apos.endLine == cpos.line) = true) (he : EX cs own .fr X e fe) :
    S1 X cs (.Expr (.Call (.Attribute (.Name x p1) "extend" apos) [e] [] cpos) pos) own own lb fun ρ => (fe ρ).bind fun y => (getE ρ i).bind fun o => match o, y with
      | .list xs, .list ys => if xs.length + ys.length ≤ SL then some (.nx (ρ.set i (some (.list (xs ++ ys))))) else none
      | _, _ => none := by
  obtain ⟨te, pe, qe⟩ := he
  refine S1.by (ps_expr (pe_bm PySem.F.plainAttrs_list PySem.F.slot_list_extend PySem.F.type_list_extend mt_extend (pe_var hi hv hd hcd) (pa_cons pe pa_nil (star_cons hst)) rfl (by rw [star_cons hst]; rfl) hline (star_cons hst) rfl)) fun E σ H ⟨O0, H0, O, ρ, fl, P, S, F, p, ef, k⟩ => ?_
  obtain ⟨y, e1, ef⟩ := Option.bind_eq_some_iff.mp ef
  obtain ⟨o, e2, ef⟩ := Option.bind_eq_some_iff.mp ef
  cases o <;> try simp only [reduceCtorEq] at ef
  cases y <;> try simp only [reduceCtorEq] at ef
  rename_i xs ys
  split at ef
  · rename_i hz
    cases ef
    obtain ⟨v, ev, _, r2⟩ := S.val i _ e2
    obtain ⟨a, rfl, oa, na, vs, h1, h2⟩ := r2 ho rfl
    refine ⟨_, ev, .inl ⟨rfl, vs, SqL.of h1⟩, qe O ρ σ H _ S.env e1 _ fun vy H1 x1 r1 => ?_⟩
    have h1' := x1.keep a _ h1 (fun z => z) (fun _ z => by cases z)
    have h2' := h2.ext x1
    simp only [RepM, RepF, isBox, if_true, Own] at r1
    obtain ⟨b, rfl, nb, ws, h3, h4⟩ := r1
    refine ⟨a, b, vs, ws, rfl, rfl, h1', h3, by rw [← sl_line, h2.length, h4.length]; exact hz, ?_⟩
    have up : Evo (fun b => b = a) H1 (upd H1 a (.lst (vs ++ ws))) := Evo.put h1' (fun _ z => by cases z) rfl
    have hm : ∀ b, H1 b ≠ none → ¬ O b → ¬ (b = a) ∧ ¬ O b := fun b _ h => ⟨fun z => h (by rw [z]; exact oa), h⟩
    exact k O _ _ ((S.more x1).write ho e2 rfl rfl ev up na ⟨_, upd_same, RepL.evo up hm _ _ (h2'.append (h4.weak fun b z => .inl z))⟩) (F _ O O H1 _ (F.ext p x1) up hm)
  · cases ef
end
end PC

namespace PC
open PySem PySem.Spec PyProof.Rows L2

section
variable {X : Cx} {cs : List Addr} {st : Stmt} {sts : List Stmt} {own own1 own2 own' lb l : List Nat} {f g : Env → Option Fl} {pos : Pos}
/-- o[i], by values, for what is owned -/
def rGetX (K : PySem.W.Frag) : V → V → Hp → VK → Prop := fun o i H Q => (∃ p xs k v, o = .ref p ∧ i = .int k ∧ SqL K H p xs ∧ atI xs k = some v ∧ Q v H) ∨ ∃ a v, o = .ref a ∧ DGet H a i (some v) ∧ Q v H
theorem get_any (hu : X.A.units + 1 < cLine) : PGet X (rGetX X.K) := by
  intro pins s σ H o i ov iv Q I ro ri h
  rcases h with ⟨p, xs, k, z, rfl, rfl, hq, he, q⟩ | ⟨a, v, rfl, g, q⟩
  · cases ro
    obtain ⟨t, rfl⟩ := ri
    obtain ⟨its, r, pl, hz⟩ := I.list hq
    obtain ⟨j, h1, h2, h3, h4, h5⟩ := atI_get he
    obtain ⟨w, ew, rw'⟩ := r.get h2
    have hl := r.length
    have hn := line63
    have fin : EP X pins σ Q w s := ⟨z, H, I, rw', q⟩
    by_cases h0 : 0 ≤ k
    · have hj : k.toNat = j := by
        rw [seqIndex_of h0 h5] at h1
        exact Option.some.inj h1
      exact wpAny_getItem_list pl.isList h0 (by omega) (by rw [hj]; simpa using ew) fin
    · have hj : (k + (its.toArray.size : Int)).toNat = j := by
        rw [seqIndex_neg (by omega) h4] at h1
        rw [List.size_toArray, ← hl]
        exact Option.some.inj h1
      exact wpAny_getItem_list_neg pl.isList (by omega) (by rw [List.size_toArray] <;> omega) (by omega) (by rw [hj]; simpa using ew) fin
  · cases (show ov = Value.ref a from ro)
    exact d_getItem hu I g ri fun w' s' I' rw' => ⟨v, H, I', rw', q⟩
theorem getD_own {K : PySem.W.Frag} {O0 O : Addr → Prop} {H0 H : Hp} {ρ : Env} {σ : L2.St} {i : Nat} {o x u : D} {v vx : V} {Q : VK} (S : SOk K cs O0 H0 O own ρ σ H) (hi : i ∈ own) (e : getE ρ i = some o) (hb : isBox o = true) (hv : σ[i]? = some (some v)) (rx : Rep K H noA vx x) (hg : ixD o x = some u)
    (k : ∀ w, Rep K H O w u → Q w H) : rGetX K v vx H Q := by
  obtain ⟨v', e3, _, r2⟩ := S.val i _ e
  obtain ⟨a, rfl, oa, na, ow⟩ := r2 hi hb
  rw [hv] at e3
  cases e3
  cases o with
  | list xs =>
    obtain ⟨vs, h1, h2⟩ := ow
    cases x with
    | int kk =>
      cases rx
      obtain ⟨w, e4, r4⟩ := h2.nth (show nth xs kk = some u from hg)
      exact .inl ⟨a, vs, kk, w, rfl, rfl, SqL.of h1, e4, k w r4⟩
    | _ => cases hg
  | dict es =>
    obtain ⟨uu, kvs, h1, h2, h3⟩ := ow
    have hg' : (if (keyK x && kindK es x) = true then getK es x else none) = some u := hg
    split at hg'
    · rename_i c
      simp only [Bool.and_eq_true] at c
      rcases dict_ask h1 h2 h3 rx c.1 c.2 with ⟨_, g2⟩ | ⟨w, d, g1, g2, g3⟩
      · rw [g2] at hg'; cases hg'
      · rw [g2] at hg'
        cases hg'
        rcases g1 with g1 | ⟨g1, _⟩
        · exact .inr ⟨a, w, rfl, g1, k w g3⟩
        · cases g1
    · cases hg'
  | _ => cases hb
theorem putD_box {o x y o' : D} (h : putD o x y = some o') : isBox o = true := by
  cases o with
  | list _ => rfl
  | dict _ => rfl
  | _ => cases h
theorem s_augs {i : Nat} {x : Str} {ke e : Expr} {p1 p2 : Pos} {fk fe : Env → Option D} {op : Operator} (hu : X.A.units + 1 < cLine) (hi : X.N[i]? = some x) (hv : Vis X.env.scope x) (hd : (x == ("__debug__" : Str)) = false) (hcd : (x == ("__classdict__" : Str)) = false) (ho : i ∈ own) (hop : augOp op = true)
    (hk : EX cs own .bor X ke fk) (he : EX cs own .bor X e fe) (ha : ∀ ov iv new, augStore ke ov iv new = (do
      holding [new, ov, iv] (setItem ov iv new)
      release [new, ov, iv] []
      pure .next)) :
    S1 X cs (.AugAssign (.Subscript (.Name x p1) ke p2) op e pos) own own lb fun ρ => (getE ρ i).bind fun c => (fk ρ).bind fun x => (ixD c x).bind fun u => (fe ρ).bind fun y => match u, y with
      | .int _, .int _ => (binD op u y).bind fun z => (putD c x z).map fun c' => .nx (ρ.set i (some c'))
      | _, _ => none := by
  obtain ⟨tk, pk, qk⟩ := hk
  obtain ⟨te, pe, qe⟩ := he
  obtain ⟨ti, pi, qi⟩ := ip_ok (X := X) hop
  refine S1.by (ps_augS (pe_var hi hv hd hcd) pk (get_any hu) pe pi (set_any hu) ha) fun E σ H ⟨O0, H0, O, ρ, fl, P, S, F, p, ef, k⟩ => ?_
  obtain ⟨c, e1, ef⟩ := Option.bind_eq_some_iff.mp ef
  obtain ⟨x, e2, ef⟩ := Option.bind_eq_some_iff.mp ef
  obtain ⟨u, e3, ef⟩ := Option.bind_eq_some_iff.mp ef
  obtain ⟨y, e4, ef⟩ := Option.bind_eq_some_iff.mp ef
  cases u <;> try simp only [reduceCtorEq] at ef
  cases y <;> try simp only [reduceCtorEq] at ef
  obtain ⟨z, e5, ef⟩ := Option.bind_eq_some_iff.mp ef
  obtain ⟨c', e6, e7⟩ := Option.map_eq_some_iff.mp ef
  subst e7
  obtain ⟨v, ev, _⟩ := S.val i c e1
  refine ⟨v, ev, qk O ρ σ H x S.env e2 _ fun vx H1 x1 r1 => ?_⟩
  refine getD_own (S.more x1) ho e1 (putD_box e6) ev (RepB.dle_rep r1) e3 fun w rw => ?_
  cases rw
  refine qe O ρ σ H1 _ (S.more x1).env e4 _ fun wy H2 x2 r2 => ?_
  rw [show wy = .int _ from RepB.int.mp r2]
  refine qi _ _ z H2 _ e5 fun kk ek => ?_
  subst ek
  exact putD_own (S.more (x1.trans x2)) ho e1 ev ((RepB.dle_rep r1).ext x2) (.int kk) e6 fun a H' _ oa up S' => k O _ H' S' (F _ O O H2 H' (F.ext p (x1.trans x2)) up fun b _ h => ⟨fun z => h (by rw [z]; exact oa), h⟩)

/-! ### which stores swap -/
def swB (sc : Scope) (value : Expr) (t : Str) (pos : Pos) : Bool := match value with
  | .ListComp _ _ s _ => decide (sc.names.lookup t = some .local) && (pos.line == value.pos.line && !(s.names.any fun y => y.1 == t && (y.2 == .local || y.2 == .cell)))
  | .SetComp _ _ s _ => decide (sc.names.lookup t = some .local) && (pos.line == value.pos.line && !(s.names.any fun y => y.1 == t && (y.2 == .local || y.2 == .cell)))
  | .DictComp _ _ _ s _ => decide (sc.names.lookup t = some .local) && (pos.line == value.pos.line && !(s.names.any fun y => y.1 == t && (y.2 == .local || y.2 == .cell)))
  | _ => false
theorem sw_eq {env : PySem.Env} (hk : env.scope.kind = .function) (value : Expr) (t : Str) (p : Pos) (line : Nat) : swapsWith value (some (.Name t p)) line env = pure (swB env.scope value t p) := by
  have hb : env.blockKind = .function := by unfold Env.blockKind; rw [hk]; rfl
  have hd : (env.kindOf t == some .local) = decide (env.scope.names.lookup t = some .local) := by
    show (env.scope.names.lookup t == some .local) = _
    by_cases h : env.scope.names.lookup t = some .local <;> simp [h]
  cases value <;> first
    | rfl
    | (unfold swapsWith swB
       simp only [hb, hd, Bool.and_assoc]
       rfl)
theorem sw_sole {t e : Expr} {line : Nat} {env : PySem.Env} (h : (match t with
    | .Name .. => false
    | _ => true) = true) : swapsWithSole [t] e line env = pure false := by
  show swapsWith e (some t) line env = pure false
  cases e <;> first
    | rfl
    | (cases t <;> first | rfl | cases h)
theorem sw_none {t e : Expr} {env : PySem.Env} (h : isTupE e = false ∨ (match t with
    | .Subscript .. => true
    | _ => false) = true) : swappedStores [t] e env = pure none := by
  rcases h with h | h
  · cases e <;> first
      | (cases t <;> rfl)
      | cases h
  · cases t <;> first
      | (cases e <;> rfl)
      | cases h
theorem sw_two {x y : Str} {px py pt pt2 : Pos} {kt k2 : Nat} {a b : Expr} {env : PySem.Env} (hk : env.scope.kind = .function) (hx : env.scope.names.lookup x = some .local) (hy : env.scope.names.lookup y = some .local) (hl : (py.line == px.line) = true) (hxy : ¬ y = x) (ha : noStar a = true) (hb : noStar b = true)
    (hf : (foldedForSure 8 a && foldedForSure 8 b) = false) (hc : (constantsAlone 8 a && constantsAlone 8 b) = false) : swappedStores [.Tuple [.Name x px, .Name y py] kt pt] (.Tuple [a, b] k2 pt2) env = pure (some [x, y]) := by
  have hbk : env.blockKind = .function := by unfold Env.blockKind; rw [hk]; rfl
  have kx : env.kindOf x = some .local := hx
  have ky : env.kindOf y = some .local := hy
  have sa : ∀ {e : Expr}, noStar e = true → (match e with
      | .Starred .. => true
      | _ => false) = false := fun {e} h => by cases e <;> first | rfl | cases h
  have hl' : py.line = px.line := by simpa using hl
  have hed : (List.eraseDups [x, y]).length = 2 := by
    rw [List.eraseDups_cons]
    have : List.filter (fun b => !b == x) [y] = [y] := by simp [hxy]
    rw [this, List.eraseDups_cons]
    simp
  unfold swappedStores
  simp only [List.length_cons, List.length_nil, List.any_cons, List.any_nil, sa ha, sa hb, hbk, List.head?_cons, Option.map_some, Option.getD_some, Expr.pos, List.filterMap_cons, List.filterMap_nil, kx, ky, hl', List.all_cons, List.all_nil, Bool.and_true, hf, hc]
  rw [if_neg (by simp), if_neg ?_]
  · simp [hed]
  · cases a <;> first | (cases ha; done) | (cases b <;> first | (cases hb; done) | simp)
end
end PC

namespace PC
open PySem PySem.Spec PyProof.Rows L2

section
variable {X : Cx} {cs : List Addr} {own lb : List Nat}
/-- x, y = a, b with the stores swapped -/
theorem s_par {i j : Nat} {x y : Str} {a b : Expr} {px py pt pt2 pos : Pos} {kt k2 : Nat} {fs : Env → Option (List D)} (hc : X.calm = true) (hN : X.N.Nodup) (hi : X.N[i]? = some x) (hj : X.N[j]? = some y) (hij : i ≠ j)
    (hx : X.env.scope.names.lookup x = some .local) (hy : X.env.scope.names.lookup y = some .local) (ha : AX cs own X [a, b] fs) (hs : i ∉ own ∧ j ∉ own)
    (hw : swappedStores [.Tuple [.Name x px, .Name y py] kt pt] (.Tuple [a, b] k2 pt2) X.env = pure (some [x, y])) :
    S1 X cs (.Assign [.Tuple [.Name x px, .Name y py] kt pt] (.Tuple [a, b] k2 pt2) pos) own own lb fun ρ => ((fs ρ).bind fun xs => if xs.length ≤ SL then some (PyData.tuple xs) else none).bind fun d => (bindT (.cons (.n i) (.cons (.n j) .nil)) d ρ).map .nx := by
  obtain ⟨t, pa, q⟩ := ha
  refine S1.by (ps_par hc hN hi hj hij hx hy pa hw (sw_sole rfl)) fun E σ H ⟨O0, H0, O, ρ, fl, P, S, F, p, ef, k⟩ => ?_
  obtain ⟨d, e1, ef⟩ := Option.bind_eq_some_iff.mp ef
  obtain ⟨ds, e2, e3⟩ := Option.bind_eq_some_iff.mp e1
  split at e3
  case isFalse => cases e3
  cases e3
  obtain ⟨ρ', e4, e5⟩ := Option.map_eq_some_iff.mp ef
  subst e5
  refine q O ρ σ H ds S.env e2 _ fun vs H1 x1 r1 => ?_
  cases r1 with
  | nil => simp [bindT, bindTs] at e4
  | @cons v vs d ds r1 r2 =>
    cases r2 with
    | nil => simp [bindT, bindTs] at e4
    | @cons w vs d' ds r2 r3 =>
      cases r3 with
      | cons _ _ => simp [bindT, bindTs] at e4
      | nil =>
        have e4' : ρ' = (ρ.set i (some d)).set j (some d') := by simpa [bindT, bindTs] using e4.symm
        subst e4'
        exact ⟨v, w, rfl, k O _ H1 (((S.more x1).put hs.1 r1).put hs.2 r2) (F.ext p x1)⟩
end

section
variable (FN N : List Str) (sc : Scope) (W0 : List Nat)
abbrev yesB : Str → Bool := fun _ => true
def subB (a b : List Nat) : Bool := a.all fun i => b.contains i
def isName : Expr → Bool
  | .Name .. => true
  | _ => false
def allS : List Nat := List.range N.length
def isLc : C → Bool
  | .lc .. => true
  | _ => false
/-- a store at a name; what is owned behind it -/
def ckAsgN (own : List Nat) (i : Nat) (e : C) (st : Stmt) : Option (List Nat) := match st with
  | .Assign [.Name x p1] e' pos =>
    if (decide (N[i]? = some x) && (locB sc yesB x && (!swB sc e' x p1 || (decide (sc.names.lookup x = some .local) && isLc e))) && (ckE FN N (own.filter (· != i)) sc e e' && !isBorM (md e))) = true then
      (if (W0.contains i && (md e).le .fr) = true then some (i :: own.filter (· != i)) else some (own.filter (· != i)))
    else none
  | _ => none
def ckAsgP (own : List Nat) (a b : T) (e : C) (tg e' : Expr) : Option (List Nat) := match a, b, e, tg, e' with
  | .n i, .cons (.n j) .nil, .tup as, .Tuple [.Name x px, .Name y py] _ _, .Tuple [ea, eb] _ _ =>
    if (decide (N[i]? = some x) && (decide (N[j]? = some y) && (i != j && (decide (sc.names.lookup x = some .local) && (decide (sc.names.lookup y = some .local) && (py.line == px.line && (decide (¬ y = x) && (noStar ea && (noStar eb &&
        (!(foldedForSure 8 ea && foldedForSure 8 eb) && (!(constantsAlone 8 ea && constantsAlone 8 eb) && ckA FN N (own.filter fun k => k != i && k != j) false sc as [ea, eb]))))))))))) = true then some (own.filter fun k => k != i && k != j) else none
  | _, _, _, _, _ => none
/-- .. at several -/
def ckAsgC (own : List Nat) (a b : T) (e : C) (st : Stmt) : Option (List Nat) := match st with
  | .Assign [tg] e' pos =>
    if isTupE e' = false then
      (if (ckT N sc yesB (.cons a b) tg && (isTupE tg && (ckE FN N (own.filter fun i => !(T.cons a b).vars.contains i) sc e e' && !isBorM (md e)))) = true then some (own.filter fun i => !(T.cons a b).vars.contains i) else none)
    else ckAsgP FN N sc own a b e tg e'
  | _ => none
def ckAsg (own : List Nat) (t : T) (e : C) (st : Stmt) : Option (List Nat) := match t with
  | .n i => ckAsgN FN N sc W0 own i e st
  | .cons a b => ckAsgC FN N sc own a b e st
  | .nil => none
mutual
def ck1 (lb own : List Nat) : S → Stmt → Option (List Nat)
  | .pass, st => match st with
    | .Pass _ => some own
    | .Expr (.Constant (.str _) _ _) _ => some own
    | _ => none
  | .asg t e, st => ckAsg FN N sc W0 own t e st
  | .put i k e, st => match st with
    | .Assign [.Subscript (.Name x _) k' _] e' pos => if own.contains i && (nameOk N sc i x && (notSlice k' && (ckE FN N own sc k k' && (ckE FN N own sc e e' && !isBorM (md e))))) then some own else none
    | _ => none
  | .aug i o e, st => match st with
    | .AugAssign (.Name x _) o' e' _ => if decide (N[i]? = some x) && (locB sc yesB x && (decide (o' = o) && (augOp o && (!own.contains i && ckE FN N own sc e e')))) then some own else none
    | _ => none
  | .augs i k o e, st => match st with
    | .AugAssign (.Subscript (.Name x _) k' _) o' e' _ => if own.contains i && (nameOk N sc i x && (decide (o' = o) && (augOp o && (notSlice k' && (ckE FN N own sc k k' && ckE FN N own sc e e'))))) then some own else none
    | _ => none
  | .app i e, st => match st with
    | .Expr (.Call (.Attribute (.Name x _) at' apos) [e'] [] cpos) _ => if own.contains i && (nameOk N sc i x && (decide (at' = "append") && (noStar e' && (apos.endLine == cpos.line && (ckE FN N own sc e e' && !isBorM (md e)))))) then some own else none
    | _ => none
  | .ext i e, st => match st with
    | .Expr (.Call (.Attribute (.Name x _) at' apos) [e'] [] cpos) _ => if own.contains i && (nameOk N sc i x && (decide (at' = "extend") && (noStar e' && (apos.endLine == cpos.line && (ckE FN N own sc e e' && (md e).le .fr))))) then some own else none
    | _ => none
  | .ret e, st => match st with
    | .Return (some e') _ => if ckE FN N own sc e e' && !isBorM (md e) then some (allS N) else none
    | .Return none _ => (match e with
      | .non => some (allS N)
      | _ => none)
    | _ => none
  | .ifs c a b, st => match st with
    | .If c' a' b' _ => if ckE FN N own sc c c' then (ck2 lb own a a').bind fun o1 => (ck2 lb own b b').map fun o2 => o1.filter fun i => o2.contains i else none
    | _ => none
  | .forr t it body l, st => match st with
    | .For tg it' body' [] _ => if subB l own && (ckT N sc yesB t tg && (t.vars.all (fun i => !l.contains i) && (ckI FN N own sc it tg it' && (!mdI it && notSet it')))) then
        (ck2 l l body body').bind fun o => if subB l o then some l else none
      else none
    | _ => none
  | .whil c body l, st => match st with
    | .While c' body' [] _ => if subB l own && ckE FN N l sc c c' then (ck2 l l body body').bind fun o => if subB l o then some l else none else none
    | _ => none
  | .brk, st => match st with
    | .Break _ => if subB lb own then some (allS N) else none
    | _ => none
  | .cnt, st => match st with
    | .Continue _ => if subB lb own then some (allS N) else none
    | _ => none
  | _, _ => none
def ck2 (lb own : List Nat) : S → List Stmt → Option (List Nat)
  | .nil, sts => if sts.isEmpty then some own else none
  | .cons a b, sts => match a with
    | .frz i => ck2 lb (own.filter (· != i)) b sts
    | _ => match sts with
      | st :: sts => (ck1 lb own a st).bind fun o => ck2 lb o b sts
      | [] => none
  | _, _ => none
end
end
theorem mem_ne {own : List Nat} {i : Nat} : i ∉ own.filter (· != i) := fun h => by simp at h
theorem mem_sub {own : List Nat} {p : Nat → Bool} : ∀ i ∈ own.filter p, i ∈ own := fun _ h => (List.mem_filter.mp h).1
theorem sub_of {a b : List Nat} (h : subB a b = true) : ∀ i ∈ a, i ∈ b := fun i hi => by
  have := List.all_eq_true.mp h i hi
  simpa using this
theorem le_fr {m : Md} (h : m.le .fr = true) : m = .fr := by cases m <;> first | rfl | cases h
end PC

namespace PC
open PySem PySem.Spec PyProof.Rows L2

section
variable {FN N : List Str} {W0 : List Nat} {Φ : Nat → List D → Option D} {n W : Nat} {cs : List Addr} {X : Cx}
theorem sw_lc {elt tg iter : Expr} {ifs : List Expr} {scope : Scope} {p py : Pos} {t : Str} {l : Nat} {env : PySem.Env} (hk : env.scope.kind = .function) (h : swB env.scope (.ListComp elt [⟨tg, iter, ifs, 0⟩] scope p) t py = true) : swapsWith (.ListComp elt [⟨tg, iter, ifs, 0⟩] scope p) (some (.Name t py)) l env = pure true := by
  rw [sw_eq hk, h]
theorem asgN_of {i : Nat} {x : Str} {p1 pos : Pos} {own : List Nat} {e : C} {e' : Expr} (G : Gd FN cs Φ n X) (hN : X.N = N) (hk : X.env.scope.kind = .function) (hf : ∀ x, X.fn x = true) (hi : N[i]? = some x) (hx : locB X.env.scope yesB x = true)
    (hsw : swB X.env.scope e' x p1 = false ∨ (X.env.scope.names.lookup x = some .local ∧ isLc e = true)) (h : ckE FN N own X.env.scope e e' = true) : AsgN X cs own (md e) (.Assign [.Name x p1] e' pos) i (ev Φ e) := by
  have hx' : Loc X.env.scope x := by
    simp only [locB, yesB, Bool.or_eq_true, decide_eq_true_eq, Bool.and_true] at hx
    exact hx
  by_cases hs : swB X.env.scope e' x p1 = false
  · exact asg_name G.nd (by rw [hN]; exact hi) hx' (snd_E e X e' G hN h).1 (by rw [sw_eq hk, hs]) (.inl (hf x))
  · have hs' : swB X.env.scope e' x p1 = true := by simpa using hs
    obtain ⟨hl, hlc⟩ := hsw.resolve_left hs
    cases e <;> first | (cases hlc; done) | skip
    rename_i tg it cond elt vs
    unfold ckE at h
    split at h
    · rename_i elt' tg' iter' ifs' scope p
      simp only [Bool.and_eq_true] at h
      obtain ⟨h1, h2, h3, h4, h5, h6, h7, h8⟩ := h
      refine asg_lc (ow := ownOf N vs) (fc := ev Φ cond) (fe := ev Φ elt) G.calm G.nd (by rw [hN]; exact hi) hl (sw_lc hk hs') (snd_I it X tg' iter' G hN h4) (by rw [hN]; exact blkOk_by h1) (ownOf_ix _ _) (fun i hi => ?_) (fun s H C cl fp => ?_) (fun s H C cl fp => ?_) (fun s H C cl fp => ?_) (fold_of h8)
      · have := List.all_eq_true.mp h2 i hi
        simpa using this
      · exact ckT_ok (X := X.blk s H scope (compEnvC scope cl C X.env) fp) G.calm G.nd (fun x hx => hx) (by show ckT X.N _ _ _ _ = true; rw [hN]; exact h3)
      · split at h5
        · cases cond <;> first | exact pts_yes (fun _ => rfl) | cases h5
        · exact pts_one (snd_E cond (X.blk s H scope (compEnvC scope cl C X.env) fp) _ G.blk hN h5).2.canon
        · cases h5
      · exact ((snd_E elt (X.blk s H scope (compEnvC scope cl C X.env) fp) _ G.blk hN h6).1.weak (nb h7)).canon
    · cases h
theorem snd_asg {own own' lb : List Nat} {t : T} {e : C} {st : Stmt} (G : Gd FN cs Φ n X) (hN : X.N = N) (hk : X.env.scope.kind = .function) (hf : ∀ x, X.fn x = true) (h : ckAsg FN N X.env.scope W0 own t e st = some own') : S1 X cs st own own' lb (exec Φ W (.asg t e)) := by
  cases t with
  | n i =>
    replace h : ckAsgN FN N X.env.scope W0 own i e st = some own' := h
    unfold ckAsgN at h
    split at h
    · rename_i x p1 e' pos
      split at h
      · rename_i hc
        simp only [Bool.and_eq_true, decide_eq_true_eq, Bool.or_eq_true, Bool.not_eq_true'] at hc
        obtain ⟨⟨h1, h2, h3⟩, h4, h5⟩ := hc
        have A := asgN_of (pos := pos) G hN hk hf h1 h2 h3 h4
        split at h
        · rename_i hw
          cases h
          simp only [Bool.and_eq_true] at hw
          rw [le_fr hw.2] at A
          exact S1.pre mem_sub (s_own A mem_ne)
        · cases h
          exact S1.pre mem_sub (s_asg A.t (nb (by simpa using h5)) fun j hj hm => by
            have : j = i := by simpa [T.vars] using hj
            subst this
            exact mem_ne hm)
      · cases h
    · cases h
  | nil => cases h
  | cons a b =>
    replace h : ckAsgC FN N X.env.scope own a b e st = some own' := h
    unfold ckAsgC at h
    split at h
    · rename_i tg e' pos
      split at h
      · rename_i ht
        split at h
        · rename_i hc
          cases h
          simp only [Bool.and_eq_true] at hc
          obtain ⟨h1, h2, h3, h4⟩ := hc
          have hg : PG X tg (tG X.K (.cons a b)) := ckT_ok G.calm G.nd (fun x _ => hf x) (by rw [hN]; exact h1)
          refine S1.pre mem_sub (s_asg (asg_ex (snd_E e X e' G hN h3).1 hg (sw_sole (by cases tg <;> first | rfl | cases h2)) (sw_none (.inl ht)) (by cases tg <;> first | rfl | cases h2)) (nb h4) fun j hj hm => ?_)
          have := (List.mem_filter.mp hm).2
          simp at this
          exact this hj
        · cases h
      · unfold ckAsgP at h
        split at h
        · rename_i i j as x px y py q1 q2 ea eb q3 q4 _
          split at h
          · rename_i hc
            cases h
            simp only [Bool.and_eq_true, decide_eq_true_eq, Bool.not_eq_true', bne_iff_ne, ne_eq, beq_iff_eq] at hc
            obtain ⟨h1, h2, h3, h4, h5, h6, h7, h8, h9, h10, h11, h12⟩ := hc
            refine S1.pre mem_sub (s_par G.calm G.nd (by rw [hN]; exact h1) (by rw [hN]; exact h2) h3 h4 h5 (snd_A as X _ G hN h12) ⟨fun m => ?_, fun m => ?_⟩ (sw_two hk h4 h5 (by simpa using h6) h7 h8 h9 h10 h11))
            · have := (List.mem_filter.mp m).2
              simp at this
            · have := (List.mem_filter.mp m).2
              simp at this
          · cases h
        · cases h
    · cases h
end
end PC

namespace PC
open PySem PySem.Spec PyProof.Rows L2

section
variable {FN N : List Str} {W0 : List Nat} {Φ : Nat → List D → Option D} {n W : Nat} {cs : List Addr} {X : Cx}
theorem ite_some {c : Bool} {a b : List Nat} (h : (if c = true then some a else none) = some b) : c = true ∧ a = b := by
  cases c with
  | true => exact ⟨rfl, Option.some.inj h⟩
  | false => cases h
theorem loc_of {sc : Scope} {x : Str} (h : locB sc yesB x = true) : Loc sc x := by
  simp only [locB, yesB, Bool.or_eq_true, decide_eq_true_eq, Bool.and_true] at h
  exact h
theorem sub_ass {ke : Expr} (h : notSlice ke = true) {o : Expr} {p2 : Pos} {env : PySem.Env} : ∀ v, assign (.Subscript o ke p2) env v = (do
      let ov ← holding [v] (eval o env)
      let iv ← holding [v, ov] (eval ke env)
      standAt p2
      holding [v, ov, iv] (setItem ov iv v)
      release [v, ov, iv] []) := by
  intro v
  cases ke <;> first | rfl | cases h
theorem aug_store {ke : Expr} (h : notSlice ke = true) : ∀ ov iv new, augStore ke ov iv new = (do
      holding [new, ov, iv] (setItem ov iv new)
      release [new, ov, iv] []
      pure .next) := by
  intro ov iv new
  cases ke <;> first | rfl | cases h
theorem mem_inter {a b : List Nat} : ∀ i ∈ a.filter (fun i => b.contains i), i ∈ b := fun i h => by
  have := (List.mem_filter.mp h).2
  simpa using this
mutual
theorem snd_1 (G : Gd FN cs Φ n X) (hN : X.N = N) (hk : X.env.scope.kind = .function) (hf : ∀ x, X.fn x = true) (hp : PassesOwn (model X.prog X.w) X.A X.env X.xe) :
    ∀ (s : S) (st : Stmt) (lb own own' : List Nat), ck1 FN N X.env.scope W0 lb own s st = some own' → S1 X cs st own own' lb (exec Φ W s)
  | .pass, st, lb, own, own', h => by
    unfold ck1 at h
    split at h
    · cases h; exact s_pass
    · cases h; exact s_doc
    · cases h
  | .asg t e, st, lb, own, own', h => by
    unfold ck1 at h
    exact snd_asg G hN hk hf h
  | .put i k e, st, lb, own, own', h => by
    unfold ck1 at h
    split at h
    · obtain ⟨hc, rfl⟩ := ite_some h
      simp only [nameOk, Bool.and_eq_true, decide_eq_true_eq, Bool.not_eq_true', List.contains_iff_mem] at hc
      obtain ⟨h1, ⟨h2, h3, h4, h5⟩, h6, h7, h8, h9⟩ := hc
      exact s_put G.u1 (by rw [hN]; exact h2) (vis_of h3) h4 h5 h1 (snd_E k X _ G hN h7).1.toBor ((snd_E e X _ G hN h8).1.weak (nb (by simpa using h9))) (sub_ass h6) (sw_sole rfl) (sw_none (.inr rfl))
    · cases h
  | .aug i o e, st, lb, own, own', h => by
    unfold ck1 at h
    split at h
    · obtain ⟨hc, rfl⟩ := ite_some h
      simp only [Bool.and_eq_true, decide_eq_true_eq] at hc
      obtain ⟨h1, h2, rfl, h4, h5, h6⟩ := hc
      exact s_aug G.nd (by rw [hN]; exact h1) (loc_of h2) (.inl (hf _)) h4 (by simpa using h5) (snd_E e X _ G hN h6).1.toBor
    · cases h
  | .augs i k o e, st, lb, own, own', h => by
    unfold ck1 at h
    split at h
    · obtain ⟨hc, rfl⟩ := ite_some h
      simp only [nameOk, Bool.and_eq_true, decide_eq_true_eq, Bool.not_eq_true', List.contains_iff_mem] at hc
      obtain ⟨h1, ⟨h2, h3, h4, h5⟩, rfl, h6, h7, h8, h9⟩ := hc
      exact s_augs G.u1 (by rw [hN]; exact h2) (vis_of h3) h4 h5 h1 h6 (snd_E k X _ G hN h8).1.toBor (snd_E e X _ G hN h9).1.toBor (aug_store h7)
    · cases h
  | .app i e, st, lb, own, own', h => by
    unfold ck1 at h
    split at h
    · obtain ⟨hc, rfl⟩ := ite_some h
      simp only [nameOk, Bool.and_eq_true, decide_eq_true_eq, Bool.not_eq_true', List.contains_iff_mem] at hc
      obtain ⟨h1, ⟨h2, h3, h4, h5⟩, rfl, h6, h7, h8, h9⟩ := hc
      exact s_app (by rw [hN]; exact h2) (vis_of h3) h4 h5 h1 h6 h7 ((snd_E e X _ G hN h8).1.weak (nb (by simpa using h9)))
    · cases h
  | .ext i e, st, lb, own, own', h => by
    unfold ck1 at h
    split at h
    · obtain ⟨hc, rfl⟩ := ite_some h
      simp only [nameOk, Bool.and_eq_true, decide_eq_true_eq, Bool.not_eq_true', List.contains_iff_mem] at hc
      obtain ⟨h1, ⟨h2, h3, h4, h5⟩, rfl, h6, h7, h8, h9⟩ := hc
      exact s_ext (by rw [hN]; exact h2) (vis_of h3) h4 h5 h1 h6 h7 ((snd_E e X _ G hN h8).1.weak h9)
    · cases h
  | .ret e, st, lb, own, own', h => by
    unfold ck1 at h
    split at h
    · obtain ⟨hc, rfl⟩ := ite_some h
      simp only [Bool.and_eq_true] at hc
      exact s_ret ((snd_E e X _ G hN hc.1).1.weak (nb hc.2))
    · split at h
      · cases h; exact s_retN
      · cases h
    · cases h
  | .ifs c a b, st, lb, own, own', h => by
    unfold ck1 at h
    split at h
    · split at h
      · rename_i hc
        obtain ⟨o1, e1, h⟩ := Option.bind_eq_some_iff.mp h
        obtain ⟨o2, e2, h⟩ := Option.map_eq_some_iff.mp h
        subst h
        exact s_if (snd_E c X _ G hN hc).2 ((snd_2 G hN hk hf hp a _ lb own o1 e1).post mem_sub) ((snd_2 G hN hk hf hp b _ lb own o2 e2).post mem_inter)
      · cases h
    · cases h
  | .forr t it body l, st, lb, own, own', h => by
    unfold ck1 at h
    split at h
    · split at h
      · rename_i hc
        obtain ⟨o, e1, h⟩ := Option.bind_eq_some_iff.mp h
        obtain ⟨hl, rfl⟩ := ite_some h
        simp only [Bool.and_eq_true, Bool.not_eq_true'] at hc
        obtain ⟨h1, h2, h3, h4, h5, h6⟩ := hc
        have hi := snd_I it X _ _ G hN h4
        rw [h5] at hi
        refine s_for hp G.calm (sub_of h1) (sub_of hl) (fun i hi' hm => ?_) hi (ckT_ok G.calm G.nd (fun x _ => hf x) (by rw [hN]; exact h2)) (snd_2 G hN hk hf hp body _ _ _ o e1) (fold_of h6)
        have := List.all_eq_true.mp h3 i hi'
        simp [hm] at this
      · cases h
    · cases h
  | .whil c body l, st, lb, own, own', h => by
    unfold ck1 at h
    split at h
    · split at h
      · rename_i hc
        obtain ⟨o, e1, h⟩ := Option.bind_eq_some_iff.mp h
        obtain ⟨hl, rfl⟩ := ite_some h
        simp only [Bool.and_eq_true] at hc
        exact s_while hp (sub_of hc.1) (sub_of hl) (snd_E c X _ G hN hc.2).2 (snd_2 G hN hk hf hp body _ _ _ o e1)
      · cases h
    · cases h
  | .brk, st, lb, own, own', h => by
    unfold ck1 at h
    split at h
    · obtain ⟨hc, rfl⟩ := ite_some h
      exact s_brk (sub_of hc)
    · cases h
  | .cnt, st, lb, own, own', h => by
    unfold ck1 at h
    split at h
    · obtain ⟨hc, rfl⟩ := ite_some h
      exact s_cnt (sub_of hc)
    · cases h
  | .nil, st, lb, own, own', h => by simp [ck1] at h
  | .cons _ _, st, lb, own, own', h => by simp [ck1] at h
  | .frz _, st, lb, own, own', h => by simp [ck1] at h
theorem snd_2 (G : Gd FN cs Φ n X) (hN : X.N = N) (hk : X.env.scope.kind = .function) (hf : ∀ x, X.fn x = true) (hp : PassesOwn (model X.prog X.w) X.A X.env X.xe) :
    ∀ (s : S) (sts : List Stmt) (lb own own' : List Nat), ck2 FN N X.env.scope W0 lb own s sts = some own' → SX X cs sts own own' lb (exec Φ W s)
  | .nil, sts, lb, own, own', h => by
    unfold ck2 at h
    obtain ⟨hc, rfl⟩ := ite_some h
    have e : sts = [] := by simpa using hc
    subst e
    exact sx_nil
  | .cons a b, sts, lb, own, own', h => by
    have hcase : (∃ i, a = .frz i) ∨ ∃ st rest o, sts = st :: rest ∧ ck1 FN N X.env.scope W0 lb own a st = some o ∧ ck2 FN N X.env.scope W0 lb o b rest = some own' := by
      unfold ck2 at h
      cases a <;> first
        | exact .inl ⟨_, rfl⟩
        | (cases sts with
           | nil => cases h
           | cons st rest =>
             obtain ⟨o, e1, e2⟩ := Option.bind_eq_some_iff.mp h
             exact .inr ⟨st, rest, o, rfl, e1, e2⟩)
    rcases hcase with ⟨i, rfl⟩ | ⟨st, rest, o, rfl, e1, e2⟩
    · have h' : ck2 FN N X.env.scope W0 lb (own.filter (· != i)) b sts = some own' := by
        unfold ck2 at h
        exact h
      exact SX.pre mem_sub (snd_2 G hN hk hf hp b sts lb _ own' h')
    · exact sx_cons (snd_1 G hN hk hf hp a st lb own o e1) (snd_2 G hN hk hf hp b rest lb o own' e2)
  | .pass, sts, lb, own, own', h => by simp [ck2] at h
  | .asg _ _, sts, lb, own, own', h => by simp [ck2] at h
  | .put _ _ _, sts, lb, own, own', h => by simp [ck2] at h
  | .aug _ _ _, sts, lb, own, own', h => by simp [ck2] at h
  | .augs _ _ _ _, sts, lb, own, own', h => by simp [ck2] at h
  | .app _ _, sts, lb, own, own', h => by simp [ck2] at h
  | .ext _ _, sts, lb, own, own', h => by simp [ck2] at h
  | .ret _, sts, lb, own, own', h => by simp [ck2] at h
  | .ifs _ _ _, sts, lb, own, own', h => by simp [ck2] at h
  | .forr _ _ _ _, sts, lb, own, own', h => by simp [ck2] at h
  | .whil _ _ _, sts, lb, own, own', h => by simp [ck2] at h
  | .brk, sts, lb, own, own', h => by simp [ck2] at h
  | .cnt, sts, lb, own, own', h => by simp [ck2] at h
  | .frz _, sts, lb, own, own', h => by simp [ck2] at h
end
end

/-! ### defs -/
/-- a def as it is told: its name, its text's place, its slots' names, which slots it owns, its core text -/
structure Told where
  name : Str
  names : List Str
  ow : List Nat
  df : Df
def scB (N P : List Str) (sc : Scope) : Bool := decide (sc.kind = .function) && (!sc.isCoroutine && (!sc.isGenerator && (decide N.Nodup && (decide (N.take P.length = P) && (P.all (fun x => decide (sc.names.lookup x = some .local) || decide (sc.names.lookup x = some .cell)) && sc.names.all fun y => !decide (y.2 = .free))))))
theorem sc_of {N P : List Str} {sc : Scope} (h : scB N P sc = true) : FnScope N P sc := by
  simp only [scB, Bool.and_eq_true, decide_eq_true_eq, Bool.not_eq_true', List.all_eq_true, Bool.or_eq_true, decide_eq_false_iff_not] at h
  obtain ⟨h1, h2, h3, h4, h5, h6, h7⟩ := h
  exact ⟨h1, h2, h3, h4, h5, h6, h7⟩
/-- the text of the def is the core text -/
def ckD (FN : List Str) (d : Told) (st : Stmt) : Bool :=
  scB d.names (d.names.take d.df.np) (defScope st) && (decide (d.df.np ≤ d.names.length) && (decide (d.df.ns = d.names.length) && (ck2 FN d.names (defScope st) d.ow [] [] d.df.body (defBody st)).isSome))
/-- how its arguments bind -/
def BE (fd : FuncData) (ps : List Str) : Prop := ∀ us : List Value, us.length = ps.length → bindArgs fd ⟨us, []⟩ = pure (ps.zip us)
theorem be_of {K : PySem.W.Frag} {x qual : Str} {st : Stmt} {f : Addr} {fd : FuncData} {ps : List Str} (F : Fun K x qual st f fd)
    (h : ∀ (kV doc pm : Value) (an : Option Addr) (cdv ct : Value), BE (PySem.W.fnOf x qual (defArgs st) (defBody st) (defScope st) .none kV doc pm an cdv ct) ps) : BE fd ps := by
  obtain ⟨oc, od, kV, doc, pm, an, cdv, ct, osl, rfl, _⟩ := F.ex
  exact h kV doc pm an cdv ct
/-- the defs as they stand behind the top -/
def Stand (K : PySem.W.Frag) (mg : Str → Option Value) (ds : List Told) (sts : List Stmt) : Prop :=
  ∀ (i : Nat) (d : Told) (st : Stmt), ds[i]? = some d → sts[i]? = some st → ∃ f fd qual, mg d.name = some (.ref f) ∧ Fun K d.name qual st f fd ∧ BE fd (d.names.take d.df.np)
theorem start_env {K : PySem.W.Frag} {cs : List Addr} {O : Addr → Prop} {H : Hp} {N : List Str} {np : Nat} {vs : List V} {ds : List D} (ht : TabsOk cs H) (hO : ∀ a, O a → H a ≠ none) (r : RepL K H O vs ds) (hl : ds.length = np) (hn : np ≤ N.length) :
    SOk K cs O H O [] (ds.map some ++ List.replicate (N.length - np) none) (L2.start N vs) H := by
  refine ⟨Evo.refl, ht, hO, fun _ h => h, hO, ?_, fun i d e => ?_, fun i j a di dj h1 => absurd h1 (by simp)⟩
  · unfold L2.start
    simp [r.length, hl]
  · have hi : i < ds.length := by
      by_cases h : i < ds.length
      · exact h
      · unfold getE at e
        rw [List.getElem?_append_right (by simpa using h), List.getElem?_replicate] at e
        split at e <;> cases e
    unfold getE at e
    rw [List.getElem?_append_left (by simpa using hi), List.getElem?_map] at e
    have e' : ds[i]? = some d := by
      cases q : ds[i]? with
      | none => rw [q] at e; cases e
      | some x => rw [q] at e; cases e; rfl
    obtain ⟨v, e1, r1⟩ := r.get e'
    refine ⟨v, ?_, fun _ => r1, fun h => absurd h (by simp)⟩
    unfold L2.start
    rw [List.getElem?_append_left (by rw [List.length_map, r.length]; exact hi), List.getElem?_map, e1]
    rfl
theorem fn_all {P : Program} {w : World} {K : PySem.W.Frag} {mg : Str → Option Value} {base : Heap} {cs : List Addr} {ds : List Told} {sts : List Stmt} {W : Nat} (hs : Stand K mg ds sts) (hl : ds.length = sts.length) (hc : ((ds.zip sts).all fun p => ckD (ds.map Told.name) p.1 p.2) = true)
    (hb : ∀ x, x ∈ BN → mg x = none) : ∀ (n i : Nat) (d : Told) (f : Addr) (fd : FuncData) (qual : Str) (st : Stmt), ds[i]? = some d → sts[i]? = some st → Fun K d.name qual st f fd →
      FnOk P w K mg base CX0 n f fd (d.names.take d.df.np) (spD K cs (run (ds.map Told.df) W n i))
  | 0, i, d, f, fd, qual, st, _, _, _ => by
    refine ⟨fun vs H Q E h => ?_, fun A outer s H args us vs Q E hr he hb hv h => ?_⟩
    · obtain ⟨_, O, ds, d, _, _, e, _⟩ := h
      simp [run] at e
    · obtain ⟨_, O, ds, d, _, _, e, _⟩ := h
      simp [run] at e
  | n + 1, i, d, f, fd, qual, st, hd, hst, F => by
    have hck : ckD (ds.map Told.name) d st = true := by
      have := List.all_eq_true.mp hc (d, st) ?_
      · exact this
      · have e : (ds.zip sts)[i]? = some (d, st) := by
          rw [List.getElem?_zip_eq_some]
          exact ⟨hd, hst⟩
        exact List.mem_of_getElem? e
    simp only [ckD, Bool.and_eq_true, decide_eq_true_eq] at hck
    obtain ⟨c1, c2, c3, c4⟩ := hck
    obtain ⟨own', c4⟩ := Option.isSome_iff_exists.mp c4
    have hrun : ∀ as : List D, run (ds.map Told.df) W (n + 1) i as = runDf (run (ds.map Told.df) W n) W d.df as := fun as => by
      show (match (ds.map Told.df)[i]? with
        | none => none
        | some d => runDf (run (ds.map Told.df) W n) W d as) = _
      rw [List.getElem?_map, hd]
      rfl
    have hpl : (d.names.take d.df.np).length = d.df.np := by rw [List.length_take]; omega
    refine F.ok (sc_of c1) (fun vs H Q E h => ?_) (fun cdv A outer s H vs Q E hr h => ?_)
    · obtain ⟨_, O, es, w, _, r, e, _⟩ := h
      rw [hrun] at e
      unfold runDf at e
      split at e
      · rename_i hlen
        rw [hpl, r.length, hlen]
      · cases e
    · have G : Gd (ds.map Told.name) cs (run (ds.map Told.df) W n) n (cxOf CX0 P w K mg base d.names qual (defScope st) f cdv A outer s H E).nox := by
        refine ⟨rfl, hr, (sc_of c1).nd, fun j x hx => ?_, hb⟩
        rw [List.getElem?_map] at hx
        obtain ⟨d', e1, e2⟩ := Option.map_eq_some_iff.mp hx
        subst e2
        have hj : j < sts.length := by rw [← hl]; exact (List.getElem?_eq_some_iff.mp e1).1
        obtain ⟨f', fd', q', m1, F', b1⟩ := hs j d' sts[j] e1 (List.getElem?_eq_getElem hj)
        exact ⟨f', fd', _, m1, F'.kp, .all b1, fn_all hs hl hc hb n j d' f' fd' q' sts[j] e1 (List.getElem?_eq_getElem hj) F'⟩
      refine ⟨_, snd_2 (W0 := d.ow) (W := W) G rfl (sc_of c1).kind (fun _ => rfl) PassesOwn.never d.df.body (defBody st) [] [] own' c4, ?_⟩
      obtain ⟨ht, O, es, w', hO, r, e, k⟩ := h
      rw [hrun] at e
      unfold runDf at e
      split at e
      case isFalse => cases e
      rename_i hlen
      cases hx : exec (run (ds.map Told.df) W n) W d.df.body (es.map some ++ List.replicate (d.df.ns - d.df.np) none) with
      | none => rw [hx] at e; cases e
      | some fl =>
        rw [hx] at e
        have S0 := start_env (K := K) (N := d.names) (np := d.df.np) ht hO r hlen c2
        rw [c3] at hx
        refine ⟨O, H, O, _, fl, fun _ _ => True, S0, fun _ _ _ _ _ _ _ _ => trivial, trivial, hx, ?_⟩
        cases fl with
        | rt v =>
          cases e
          exact k
        | nx ρ' =>
          cases e
          exact fun O' σ' H' S' _ => k .non H' S'.ext .non
        | bk _ => cases e
        | ct _ => cases e
end PC

namespace PC
open PySem PySem.Spec PyProof.Rows L2

/-- a def stands in the written part -/
def At (K : PySem.W.Frag) (mg : Str → Option Value) (x qual : Str) (st : Stmt) : Prop := ∃ f fd, mg x = some (.ref f) ∧ Fun K x qual st f fd
theorem at_mk {K : PySem.W.Frag} {h : Heap} {mg : Str → Option Value} {x qual : Str} {st : Stmt} {f : Addr} {oc : Value} {od an : Option Addr} {osl : Array (Option Value)} {kV doc pm cdv ct : Value} (X : K.In h) (G : h.Ns mainGlobals mg)
    (a : PySem.W.nsIn K mainGlobals x = some (some (.ref f))) (l : K.lookup f = some ⟨oc, od, .func (PySem.W.fnOf x qual (defArgs st) (defBody st) (defScope st) .none kV doc pm an cdv ct), osl⟩)
    (c : PySem.W.codeIn K cdv qual = true) (k : PySem.W.keepIn K (.ref f) = true) : At K mg x qual st :=
  ⟨f, _, PySem.W.mg_of X G a, fun_mk l c k⟩
/-- no def has a built-in's name -/
def NoBN (K : PySem.W.Frag) : Prop := ∀ x ∈ BN, PySem.W.nsIn K mainGlobals x = some none
/-- the end of a law without code tables -/
theorem walk {l : PySem.W.OpenLaw} {n : Nat} {q : Program} {loose : List Str} {XP : (Str → Option Value) → Heap → Prop} {YP : World → Heap → Prop} {d : DefRec} {K : Params → PySem.W.Frag} {ds : List Told} {sts : List Stmt} {iL k W : Nat} {dL : Told} {stL : Stmt} {x : Str}
    (hn : l.most = some n) (hn2 : n ≤ sizeLine) (hdf : d.params.defaults = []) (hr : Room k callerA) (hY : ∀ (w : World) (h : Heap), YP w h → (K w.params).In h)
    (hl : ds.length = sts.length) (hc : ((ds.zip sts).all fun p => ckD (ds.map Told.name) p.1 p.2) = true) (hd : ds[iL]? = some dL) (hst : sts[iL]? = some stL) (hname : dL.name = d.name) (hps : dL.names.take dL.df.np = [x])
    (hrun : ∀ ns : List Int, ns.length ≤ n → run (ds.map Told.df) W k iL [.list (ns.map .int)] = some (.bool true))
    (F : ∀ (w : World) (mg : Str → Option Value) (h : Heap), (K w.params).In h → h.Ns mainGlobals mg → Stand (K w.params) mg ds sts ∧ NoBN (K w.params)) :
    PySem.W.WalkO q loose XP YP l.row.toRowW d [] (fun f vs => PySem.call f vs) := by
  refine L2.walk_of (n := n) (k := k) (x := x) (CX := fun _ => CX0) (sp := fun w => spD (K w.params) [] (run (ds.map Told.df) W k iL)) hn hn2 hdf hr hY (fun w mg fa h KX G hmg => ?_) (fun w H a ns hlen _ hS => ?_) fun _ _ _ _ _ z => z
  · obtain ⟨S, B⟩ := F w mg h KX G
    obtain ⟨f, fd, qual, m, Fn, b⟩ := S iL dL stL hd hst
    rw [hname, hmg] at m
    cases m
    rw [hps] at b
    refine ⟨fd, fun s u => ?_, fun base KB GB => ?_⟩
    · exact .of_eq (b [u] rfl)
    · have := fn_all (P := l.prog) (w := w) (base := base) (cs := []) (W := W) S hl hc (fun y hy => PySem.W.mg_none_of KX G (B y hy)) k iL dL fa fd qual stL hd hst Fn
      rw [hps] at this
      exact this
  · refine ⟨fun P hP => absurd hP (by simp), noA, [.list (ns.map .int)], .bool true, fun _ z => z.elim, .cons (.lst (LsO.none_of hS) (repL_ints ns)) .nil, hrun ns hlen, fun v H' _ r => by cases r; rfl⟩
end PC

/-! CoreV: the plain meaning rule by rule: each rule is a plain equation, what comes later stays unread until it is its turn. Own work. -/
namespace PC
open PySem
def op2 (a b : Option D) (f : D → D → Option D) : Option D := a.bind fun x => b.bind fun y => f x y
def op1 (a : Option D) (f : D → Option D) : Option D := a.bind f
def consO (a : Option D) (b : Option (List D)) : Option (List D) := a.bind fun x => b.map (x :: ·)
def onL (a : Option (List D)) (f : List D → Option D) : Option D := a.bind f
def seqX (Φ : Nat → List D → Option D) (W : Nat) (r : Option Fl) (b : S) : Option Fl := match r with
  | some (.nx ρ) => exec Φ W b ρ
  | r => r
def ifX (Φ : Nat → List D → Option D) (W : Nat) (c : Option D) (a b : S) (ρ : Env) : Option Fl := c.bind fun x => (truthy x).bind fun k => if k = true then exec Φ W a ρ else exec Φ W b ρ
def iteX (Φ : Nat → List D → Option D) (c : Option D) (a b : C) (ρ : Env) : Option D := c.bind fun x => (truthy x).bind fun k => if k = true then ev Φ a ρ else ev Φ b ρ
def andX (Φ : Nat → List D → Option D) (c : Option D) (b : C) (ρ : Env) : Option D := c.bind fun x => (truthy x).bind fun k => if k = true then evb Φ .And b ρ else some x
def orX (Φ : Nat → List D → Option D) (c : Option D) (b : C) (ρ : Env) : Option D := c.bind fun x => (truthy x).bind fun k => if k = true then some x else evb Φ .Or b ρ
def asgX (d : Option D) (i : Nat) (ρ : Env) : Option Fl := d.map fun d => .nx (ρ.set i (some d))
def asgTX (d : Option D) (t : T) (ρ : Env) : Option Fl := d.bind fun d => (bindT t d ρ).map .nx
def appX (y o : Option D) (i : Nat) (ρ : Env) : Option Fl := y.bind fun y => o.bind fun o => match o with
  | .list xs => if xs.length < SL then some (.nx (ρ.set i (some (.list (xs ++ [y]))))) else none
  | _ => none
def extX (y o : Option D) (i : Nat) (ρ : Env) : Option Fl := y.bind fun y => o.bind fun o => match o, y with
  | .list xs, .list ys => if xs.length + ys.length ≤ SL then some (.nx (ρ.set i (some (.list (xs ++ ys))))) else none
  | _, _ => none
def putX (y o x : Option D) (i : Nat) (ρ : Env) : Option Fl := y.bind fun y => o.bind fun o => x.bind fun x => (putD o x y).map fun o' => .nx (ρ.set i (some o'))
def augX (x y : Option D) (o : Operator) (i : Nat) (ρ : Env) : Option Fl := x.bind fun x => y.bind fun y => match x, y with
  | .int _, .int _ => (binD o x y).map fun z => .nx (ρ.set i (some z))
  | _, _ => none
def retX (d : Option D) : Option Fl := d.map .rt
def forX (Φ : Nat → List D → Option D) (W : Nat) (t : T) (xs : Option (List D)) (body : S) (ρ : Env) : Option Fl := xs.bind fun xs => forL (fun x ρ => (bindT t x ρ).bind (exec Φ W body)) xs ρ
def negX : D → Option D
  | .int i => some (.int (-i))
  | _ => none
def notX (x : D) : Option D := (truthy x).map fun k => .bool (!k)
def isnX : D → D
  | .none => .bool true
  | _ => .bool false
def isnnX : D → D
  | .none => .bool false
  | _ => .bool true
def tupX (xs : Option (List D)) : Option D := xs.bind fun xs => if xs.length ≤ SL then some (.tuple xs) else none
def lstX (xs : Option (List D)) : Option D := xs.bind fun xs => if xs.length ≤ SL then some (.list xs) else none
def rngX : D → Option (List D)
  | .int n => if small62 n then some (rangeL 0 n) else none
  | _ => none
def rng2X : D → D → Option (List D)
  | .int m, .int n => if small62 m && small62 n then some (rangeL m n) else none
  | _, _ => none
def enmX : D → Option (List D)
  | .list xs => some (enumL xs)
  | .tuple xs => some (enumL xs)
  | _ => none
def onI (a : Option D) (f : D → Option (List D)) : Option (List D) := a.bind f
def slX (a : Option D) (l h : Option (Option Int)) : Option D := a.bind fun x => l.bind fun l => h.bind fun h => sliceD x l h
def cmpX (o : CmpOp) (x y : D) : Option D := (cmpD o x y).map .bool
def lcX (Φ : Nat → List D → Option D) (tg : T) (cond elt : C) (vs : List Nat) (xs : Option (List D)) (ρ : Env) : Option D := xs.bind fun xs => if xs.length ≤ SL then (compL (compF (ev Φ cond) (ev Φ elt) tg vs ρ) xs).map .list else none
section
variable (Φ : Nat → List D → Option D) (W : Nat) (ρ : Env) (i : Nat) (a b c as : C)
theorem getE_zero (x : Option D) (ρ : Env) : getE (x :: ρ) 0 = x := by simp [getE]
theorem getE_succ (x : Option D) (ρ : Env) (i : Nat) : getE (x :: ρ) (i + 1) = getE ρ i := by simp [getE]
theorem set_z (x y : Option D) (ρ : Env) : List.set (x :: ρ) 0 y = y :: ρ := by rw [List.set_cons_zero]
theorem set_s (x y : Option D) (ρ : Env) (i : Nat) : List.set (x :: ρ) (i + 1) y = x :: List.set ρ i y := by rw [List.set_cons_succ]
theorem e_var : ev Φ (.var i) ρ = getE ρ i := by rw [ev]
theorem e_bor : ev Φ (.bor i) ρ = getE ρ i := by rw [ev]
theorem e_int (i : Int) : ev Φ (.int i) ρ = some (.int i) := by rw [ev]
theorem e_bl (i : Bool) : ev Φ (.bl i) ρ = some (.bool i) := by rw [ev]
theorem e_non : ev Φ .non ρ = some .none := by rw [ev]
theorem e_yes : ev Φ .yes ρ = some (.bool true) := by rw [ev]
theorem e_str (s : Str) : ev Φ (.str s) ρ = some (.str s) := by rw [ev]
theorem e_bin (o : Operator) : ev Φ (.bin o a b) ρ = op2 (ev Φ a ρ) (ev Φ b ρ) (binD o) := by rw [ev]; rfl
theorem e_neg : ev Φ (.neg a) ρ = op1 (ev Φ a ρ) negX := by
  rw [ev]
  unfold op1
  congr 1
theorem e_nt : ev Φ (.nt a) ρ = op1 (ev Φ a ρ) notX := by rw [ev]; rfl
theorem e_isn : ev Φ (.isn a) ρ = (ev Φ a ρ).map isnX := by
  rw [ev]
  congr 1
theorem e_isnn : ev Φ (.isnn a) ρ = (ev Φ a ρ).map isnnX := by
  rw [ev]
  congr 1
theorem e_cmp (o : CmpOp) : ev Φ (.cmp o a b) ρ = op2 (ev Φ a ρ) (ev Φ b ρ) (cmpX o) := by rw [ev]; rfl
theorem e_and : ev Φ (.bop .And as) ρ = evb Φ .And as ρ := by rw [ev]
theorem e_or : ev Φ (.bop .Or as) ρ = evb Φ .Or as ρ := by rw [ev]
theorem e_ite : ev Φ (.ite c a b) ρ = iteX Φ (ev Φ c ρ) a b ρ := by rw [ev]; rfl
theorem e_call : ev Φ (.call i as) ρ = onL (evs Φ as ρ) (Φ i) := by rw [ev]; rfl
theorem e_bi (f : Bi) : ev Φ (.bi f as) ρ = onL (evs Φ as ρ) (biD f) := by rw [ev]; rfl
theorem e_isi (t : Ty) : ev Φ (.isi a t) ρ = (ev Φ a ρ).map fun x => .bool (isiD x t) := by rw [ev]
theorem e_ix : ev Φ (.ix a b) ρ = op2 (ev Φ a ρ) (ev Φ b ρ) ixD := by rw [ev]; rfl
theorem e_sl : ev Φ (.sl a b c) ρ = slX (ev Φ a ρ) (evo Φ b ρ) (evo Φ c ρ) := by rw [ev]; rfl
theorem e_tup : ev Φ (.tup as) ρ = tupX (evs Φ as ρ) := by rw [ev]; rfl
theorem e_lst : ev Φ (.lst as) ρ = lstX (evs Φ as ρ) := by rw [ev]; rfl
theorem e_dic : ev Φ .dic0 ρ = some (.dict []) := by rw [ev]
theorem e_lc (tg : T) (it cond elt : C) (vs : List Nat) : ev Φ (.lc tg it cond elt vs) ρ = lcX Φ tg cond elt vs (evs Φ it ρ) ρ := by rw [ev]; rfl
theorem es_nil : evs Φ .nil ρ = some [] := by rw [evs]
theorem es_cons : evs Φ (.cons a b) ρ = consO (ev Φ a ρ) (evs Φ b ρ) := by rw [evs]; rfl
theorem es_it : evs Φ (.it a) ρ = onI (ev Φ a ρ) itemsD := by rw [evs]; rfl
theorem es_rng1 : evs Φ (.rng1 a) ρ = onI (ev Φ a ρ) rngX := by
  rw [evs]
  unfold onI
  congr 1
theorem es_rng2 : evs Φ (.rng2 a b) ρ = (ev Φ a ρ).bind fun x => (ev Φ b ρ).bind fun y => rng2X x y := by
  rw [evs]
  rfl
theorem es_enm : evs Φ (.enm a) ρ = onI (ev Φ a ρ) enmX := by
  rw [evs]
  unfold onI
  congr 1
theorem eb_one (o : BoolOp) : evb Φ o (.cons a .nil) ρ = ev Φ a ρ := by rw [evb]
theorem eb_and (d e : C) : evb Φ .And (.cons a (.cons d e)) ρ = andX Φ (ev Φ a ρ) (.cons d e) ρ := by rw [evb]; rfl; intro h; cases h
theorem eb_or (d e : C) : evb Φ .Or (.cons a (.cons d e)) ρ = orX Φ (ev Φ a ρ) (.cons d e) ρ := by rw [evb]; rfl; intro h; cases h
theorem eo_nil : evo Φ .nil ρ = some none := by rw [evo]
theorem eo_some : evo Φ (.cons a b) ρ = optI (ev Φ a ρ) := by rw [evo]
theorem optI_int (i : Int) : optI (some (.int i)) = some (some i) := by rw [optI]
theorem op2_some (x y : D) (f : D → D → Option D) : op2 (some x) (some y) f = f x y := by simp [op2]
theorem op1_some (x : D) (f : D → Option D) : op1 (some x) f = f x := by simp [op1]
theorem onL_some (x : List D) (f : List D → Option D) : onL (some x) f = f x := by simp [onL]
theorem onI_some (x : D) (f : D → Option (List D)) : onI (some x) f = f x := by simp [onI]
theorem consO_some (x : D) (xs : List D) : consO (some x) (some xs) = some (x :: xs) := by simp [consO]
theorem slX_some (x : D) (l h : Option Int) : slX (some x) (some l) (some h) = sliceD x l h := by simp [slX]
theorem tupX_some (xs : List D) (h : xs.length < 1000) : tupX (some xs) = some (.tuple xs) := by
  have : xs.length ≤ SL := Nat.le_of_lt (Nat.lt_trans h (by decide))
  simp [tupX, this]
theorem lstX_some (xs : List D) (h : xs.length < 1000) : lstX (some xs) = some (.list xs) := by
  have : xs.length ≤ SL := Nat.le_of_lt (Nat.lt_trans h (by decide))
  simp [lstX, this]
theorem lstX_nil : lstX (some []) = some (.list []) := lstX_some [] (by decide)
theorem tupX_nil : tupX (some []) = some (.tuple []) := tupX_some [] (by decide)
theorem tupX_1 (x : D) : tupX (some [x]) = some (.tuple [x]) := tupX_some _ (by simp)
theorem tupX_2 (x y : D) : tupX (some [x, y]) = some (.tuple [x, y]) := tupX_some _ (by simp)
theorem tupX_3 (x y z : D) : tupX (some [x, y, z]) = some (.tuple [x, y, z]) := tupX_some _ (by simp)
theorem tupX_4 (x y z u : D) : tupX (some [x, y, z, u]) = some (.tuple [x, y, z, u]) := tupX_some _ (by simp)
theorem negX_int (i : Int) : negX (.int i) = some (.int (-i)) := by rw [negX]
theorem notX_bool (k : Bool) : notX (.bool k) = some (.bool (!k)) := by simp [notX, truthy]
theorem isnX_none : isnX .none = .bool true := by rw [isnX]
theorem iteX_t : iteX Φ (some (.bool true)) a b ρ = ev Φ a ρ := by simp [iteX, truthy]
theorem iteX_f : iteX Φ (some (.bool false)) a b ρ = ev Φ b ρ := by simp [iteX, truthy]
theorem andX_t : andX Φ (some (.bool true)) b ρ = evb Φ .And b ρ := by simp [andX, truthy]
theorem andX_f : andX Φ (some (.bool false)) b ρ = some (.bool false) := by simp [andX, truthy]
theorem orX_t : orX Φ (some (.bool true)) b ρ = some (.bool true) := by simp [orX, truthy]
theorem orX_f : orX Φ (some (.bool false)) b ρ = evb Φ .Or b ρ := by simp [orX, truthy]
/-! ### statements -/
variable (s t : S)
theorem x_nil : exec Φ W .nil ρ = some (.nx ρ) := by rw [exec]
theorem x_cons : exec Φ W (.cons s t) ρ = seqX Φ W (exec Φ W s ρ) t := by rw [exec]; rfl
theorem x_pass : exec Φ W .pass ρ = some (.nx ρ) := by rw [exec]
theorem x_frz : exec Φ W (.frz i) ρ = some (.nx ρ) := by rw [exec]
theorem x_brk : exec Φ W .brk ρ = some (.bk ρ) := by rw [exec]
theorem x_cnt : exec Φ W .cnt ρ = some (.ct ρ) := by rw [exec]
theorem x_asg (e : C) : exec Φ W (.asg (.n i) e) ρ = asgX (ev Φ e ρ) i ρ := by
  rw [exec]
  unfold asgX
  cases ev Φ e ρ <;> simp [bindT]
theorem x_asgT (p q : T) (e : C) : exec Φ W (.asg (.cons p q) e) ρ = asgTX (ev Φ e ρ) (.cons p q) ρ := by rw [exec]; rfl
theorem x_app (e : C) : exec Φ W (.app i e) ρ = appX (ev Φ e ρ) (getE ρ i) i ρ := by rw [exec]; rfl
theorem x_ext (e : C) : exec Φ W (.ext i e) ρ = extX (ev Φ e ρ) (getE ρ i) i ρ := by rw [exec]; rfl
theorem x_put (k e : C) : exec Φ W (.put i k e) ρ = putX (ev Φ e ρ) (getE ρ i) (ev Φ k ρ) i ρ := by rw [exec]; rfl
theorem x_aug (o : Operator) (e : C) : exec Φ W (.aug i o e) ρ = augX (getE ρ i) (ev Φ e ρ) o i ρ := by rw [exec]; rfl
theorem x_ret (e : C) : exec Φ W (.ret e) ρ = retX (ev Φ e ρ) := by rw [exec]; rfl
theorem x_ifs (e : C) : exec Φ W (.ifs e s t) ρ = ifX Φ W (ev Φ e ρ) s t ρ := by rw [exec]; rfl
theorem x_for (p : T) (it : C) (l : List Nat) : exec Φ W (.forr p it s l) ρ = forX Φ W p (evs Φ it ρ) s ρ := by rw [exec]; rfl
theorem seqX_nx : seqX Φ W (some (.nx ρ)) t = exec Φ W t ρ := by rw [seqX]
theorem seqX_rt (d : D) : seqX Φ W (some (.rt d)) t = some (.rt d) := by simp [seqX]
theorem seqX_bk : seqX Φ W (some (.bk ρ)) t = some (.bk ρ) := by simp [seqX]
theorem seqX_ct : seqX Φ W (some (.ct ρ)) t = some (.ct ρ) := by simp [seqX]
theorem ifX_t : ifX Φ W (some (.bool true)) s t ρ = exec Φ W s ρ := by simp [ifX, truthy]
theorem ifX_f : ifX Φ W (some (.bool false)) s t ρ = exec Φ W t ρ := by simp [ifX, truthy]
theorem asgX_some (d : D) : asgX (some d) i ρ = some (.nx (ρ.set i (some d))) := by simp [asgX]
theorem retX_some (d : D) : retX (some d) = some (.rt d) := by simp [retX]
theorem forX_some (p : T) (xs : List D) : forX Φ W p (some xs) s ρ = forL (fun x ρ => (bindT p x ρ).bind (exec Φ W s)) xs ρ := by simp [forX]
theorem appX_some {xs : List D} (h : xs.length < SL) (y : D) : appX (some y) (some (.list xs)) i ρ = some (.nx (ρ.set i (some (.list (xs ++ [y]))))) := by simp [appX, h]
theorem extX_some {xs ys : List D} (h : xs.length + ys.length ≤ SL) : extX (some (.list ys)) (some (.list xs)) i ρ = some (.nx (ρ.set i (some (.list (xs ++ ys))))) := by simp [extX, h]
theorem putX_some {o x y o' : D} (h : putD o x y = some o') : putX (some y) (some o) (some x) i ρ = some (.nx (ρ.set i (some o'))) := by simp [putX, h]
theorem runDf_eq {d : Df} {as : List D} {v : D} (hl : as.length = d.np) (h : exec Φ W d.body (as.map some ++ List.replicate (d.ns - d.np) none) = some (.rt v)) : runDf Φ W d as = some v := by
  unfold runDf
  rw [if_pos hl, h]
end
theorem run_eq {P : List Df} {W n j : Nat} {d : Df} {as : List D} {v : D} (hd : P[j]? = some d) (hl : as.length = d.np) (h : exec (run P W n) W d.body (as.map some ++ List.replicate (d.ns - d.np) none) = some (.rt v)) : run P W (n + 1) j as = some v := by
  unfold run
  rw [hd]
  exact runDf_eq _ _ hl h
end PC

namespace PC
open PySem

/-! ### rules of the plain meaning -/
theorem run_at {P : List Df} {W n i : Nat} {d : Df} (as : List D) (h : P[i]? = some d) : run P W (n + 1) i as = runDf (run P W n) W d as := by
  unfold run
  rw [h]
theorem alike_int (a b : Int) : W.alike (.int a) (.int b) = true := by simp [W.alike]
theorem dle_int (n : Nat) (a : Int) : dle n (.int a) = true := by cases n <;> rfl
theorem dataLt_int (a b : Int) : W.dataLt (.int a) (.int b) = decide (a < b) := by
  have := leD_int b a
  unfold leD at this
  by_cases h : a < b
  · have h2 : ¬ b ≤ a := by omega
    simp only [h2, decide_false, Bool.not_eq_false'] at this
    simp [this, h]
  · have h2 : b ≤ a := by omega
    simp only [h2, decide_true, Bool.not_eq_true'] at this
    simp [this, h]
theorem ord_int (a b : Int) : ordOk (.int a) (.int b) = true := by simp [ordOk, alike_int, notNone, dle_int]
theorem c_lt (a b : Int) : cmpD .Lt (.int a) (.int b) = some (decide (a < b)) := by simp [cmpD, ord_int, dataLt_int]
theorem c_gt (a b : Int) : cmpD .Gt (.int a) (.int b) = some (decide (b < a)) := by simp [cmpD, ord_int, dataLt_int]
theorem c_le (a b : Int) : cmpD .LtE (.int a) (.int b) = some (decide (a ≤ b)) := by
  simp only [cmpD, ord_int, dataLt_int, if_true, Option.some.injEq]
  by_cases h : b < a
  · have : ¬ a ≤ b := by omega
    simp [h, this]
  · have : a ≤ b := by omega
    simp [h, this]
theorem c_ge (a b : Int) : cmpD .GtE (.int a) (.int b) = some (decide (b ≤ a)) := by
  simp only [cmpD, ord_int, dataLt_int, if_true, Option.some.injEq]
  by_cases h : a < b
  · have : ¬ b ≤ a := by omega
    simp [h, this]
  · have : b ≤ a := by omega
    simp [h, this]
theorem eqv_int (a b : Int) : PyData.eqv (.int a) (.int b) = decide (a = b) := by
  by_cases h : a = b
  · subst h; simp [PyData.eqv]
  · simp [PyData.eqv, h]
theorem c_eq (a b : Int) : cmpD .Eq (.int a) (.int b) = some (decide (a = b)) := by simp [cmpD, eqD, dle_int, eqv_int]
theorem c_ne (a b : Int) : cmpD .NotEq (.int a) (.int b) = some (!decide (a = b)) := by simp [cmpD, eqD, dle_int, eqv_int]
theorem b_add (a b : Int) : binD .Add (.int a) (.int b) = some (.int (a + b)) := rfl
theorem b_sub (a b : Int) : binD .Sub (.int a) (.int b) = some (.int (a - b)) := rfl
theorem b_mulL {a : Int} (b : Int) (h : small64 a = true) : binD .Mult (.int a) (.int b) = some (.int (a * b)) := by simp [binD, mulD, h]
theorem b_mulR (a : Int) {b : Int} (h : small64 b = true) : binD .Mult (.int a) (.int b) = some (.int (a * b)) := by simp [binD, mulD, h]
theorem small_of {a : Int} (h1 : -(2 ^ 64) < a) (h2 : a < 2 ^ 64) : small64 a = true := by simp [small64]; omega
theorem b_mod (a : Int) {b : Int} (h : 0 < b) : binD .Mod (.int a) (.int b) = some (.int (a % b)) := by simp [binD, h]
theorem b_div (a : Int) {b : Int} (h : 0 < b) (h2 : b < 1073741824) : binD .FloorDiv (.int a) (.int b) = some (.int (a / b)) := by simp [binD, h, h2]
theorem nth_nat {α : Type} (xs : List α) {k : Nat} (h : k < xs.length) : nth xs (k : Int) = some xs[k] := by
  unfold nth
  rw [if_pos (by omega), if_pos (by omega)]
  simp [h]
/-- a loop that never leaves -/
theorem forL_inv {f : D → Env → Option Fl} {xs : List D} (I : Nat → Env → Prop) (hs : ∀ i x ρ, xs[i]? = some x → I i ρ → ∃ ρ', (f x ρ = some (.nx ρ') ∨ f x ρ = some (.ct ρ')) ∧ I (i + 1) ρ') :
    ∀ ρ, I 0 ρ → ∃ ρ', forL f xs ρ = some (.nx ρ') ∧ I xs.length ρ' := by
  induction xs generalizing I with
  | nil => exact fun ρ h => ⟨ρ, rfl, h⟩
  | cons x xs ih =>
    intro ρ h
    obtain ⟨ρ1, e, h1⟩ := hs 0 x ρ rfl h
    obtain ⟨ρ', e', h'⟩ := ih (fun i => I (i + 1)) (fun i y ρ e hI => hs (i + 1) y ρ (by simpa using e) hI) ρ1 h1
    refine ⟨ρ', ?_, h'⟩
    rcases e with e | e <;> (unfold forL; simp only [e]; exact e')
/-- a loop that may return -/
theorem forL_ret {f : D → Env → Option Fl} {xs : List D} {R : D → Prop} (I : Nat → Env → Prop) (hs : ∀ i x ρ, xs[i]? = some x → I i ρ → (∃ ρ', (f x ρ = some (.nx ρ') ∨ f x ρ = some (.ct ρ')) ∧ I (i + 1) ρ') ∨ ∃ d, f x ρ = some (.rt d) ∧ R d) :
    ∀ ρ, I 0 ρ → (∃ ρ', forL f xs ρ = some (.nx ρ') ∧ I xs.length ρ') ∨ ∃ d, forL f xs ρ = some (.rt d) ∧ R d := by
  induction xs generalizing I with
  | nil => exact fun ρ h => .inl ⟨ρ, rfl, h⟩
  | cons x xs ih =>
    intro ρ h
    rcases hs 0 x ρ rfl h with ⟨ρ1, e, h1⟩ | ⟨d, e, hr⟩
    · have q := ih (fun i => I (i + 1)) (fun i y ρ e hI => hs (i + 1) y ρ (by simpa using e) hI) ρ1 h1
      have e2 : forL f (x :: xs) ρ = forL f xs ρ1 := by
        rcases e with e | e <;> (rw [forL]; simp only [e])
      rw [e2]
      exact q
    · exact .inr ⟨d, by rw [forL]; simp only [e], hr⟩
theorem exec_for (Φ : Nat → List D → Option D) (W : Nat) (t : T) (it : C) (body : S) (l : List Nat) (ρ : Env) : exec Φ W (.forr t it body l) ρ = (evs Φ it ρ).bind fun xs => forL (fun x ρ => (bindT t x ρ).bind (exec Φ W body)) xs ρ := by
  rw [exec]
theorem rangeL_get {n : Int} {i : Nat} {x : D} (h : (rangeL 0 n)[i]? = some x) : x = .int (i : Nat) ∧ (i : Int) < n := by
  unfold rangeL at h
  rw [List.getElem?_map] at h
  obtain ⟨j, e1, e2⟩ := Option.map_eq_some_iff.mp h
  obtain ⟨h1, h2⟩ := List.getElem?_eq_some_iff.mp e1
  simp only [List.getElem_range] at h2
  simp only [List.length_range] at h1
  subst h2 e2
  exact ⟨by simp, by omega⟩
theorem rangeL_len (n : Nat) : (rangeL 0 n).length = n := by simp [rangeL]

theorem m_lt (a b : Int) : cmpX .Lt (.int a) (.int b) = some (.bool (decide (a < b))) := by rw [cmpX, c_lt]; rfl
theorem m_le (a b : Int) : cmpX .LtE (.int a) (.int b) = some (.bool (decide (a ≤ b))) := by rw [cmpX, c_le]; rfl
theorem m_gt (a b : Int) : cmpX .Gt (.int a) (.int b) = some (.bool (decide (b < a))) := by rw [cmpX, c_gt]; rfl
theorem m_ge (a b : Int) : cmpX .GtE (.int a) (.int b) = some (.bool (decide (b ≤ a))) := by rw [cmpX, c_ge]; rfl
theorem m_eq (a b : Int) : cmpX .Eq (.int a) (.int b) = some (.bool (decide (a = b))) := by rw [cmpX, c_eq]; rfl
theorem m_ne (a b : Int) : cmpX .NotEq (.int a) (.int b) = some (.bool (!decide (a = b))) := by rw [cmpX, c_ne]; rfl
theorem u_int (a : Int) : biD .int [.int a] = some (.int a) := by rw [biD]
theorem u_lenL (xs : List D) : biD .len [.list xs] = some (.int (xs.length : Nat)) := by simp [biD, lenD]
theorem u_lenT (xs : List D) : biD .len [.tuple xs] = some (.int (xs.length : Nat)) := by simp [biD, lenD]
theorem u_tupL (xs : List D) : biD .tuple [.list xs] = some (.tuple xs) := by rw [biD]
theorem u_ixL (xs : List D) (i : Int) : ixD (.list xs) (.int i) = nth xs i := by rw [ixD]
theorem u_ixT (xs : List D) (i : Int) : ixD (.tuple xs) (.int i) = nth xs i := by rw [ixD]
theorem u_itL (xs : List D) : itemsD (.list xs) = some xs := by rw [itemsD]
theorem u_itT (xs : List D) : itemsD (.tuple xs) = some xs := by rw [itemsD]
theorem rngX_int {n : Int} (h : small62 n = true) : rngX (.int n) = some (rangeL 0 n) := by simp [rngX, h]
theorem sl_big : 1000000 < SL := by decide
theorem sm62 {cnt : Nat} (hc : cnt < 1000000) : small62 (cnt : Int) = true := by simp [small62]; omega
/-! ### what all laws share -/
def kCell : S := .cons (.ifs (.cmp .Lt (.var 1) (.bi .len (.cons (.var 0) (.nil)))) (.cons (.ret (.ix (.var 0) (.var 1)))
    (.nil)) (.nil))
  (.cons (.ret (.bin .Add (.bin .Mult (.int 5) (.var 1)) (.int 3)))
  (.nil))
theorem cell_ok (Φ : Nat → List D → Option D) (W : Nat) (ns : List Int) (k : Nat) : ∃ c : Int, exec Φ W kCell [some (.list (ns.map .int)), some (.int k)] = some (.rt (.int c)) := by
  by_cases h : k < ns.length
  · refine ⟨ns[k], ?_⟩
    have h1 : decide (((k : Nat) : Int) < (((ns.map PyData.int).length : Nat) : Int)) = true := by
      rw [List.length_map]
      exact decide_eq_true (by omega)
    have h2 : nth (ns.map PyData.int) (k : Int) = some (.int ns[k]) := by
      rw [nth_nat _ (by simpa using h)]
      simp
    simp -implicitDefEqProofs only [kCell, x_nil, x_cons, x_pass, x_frz, x_asg, x_asgT, x_app, x_ext, x_put, x_aug, x_ret, x_ifs, seqX_nx, seqX_rt, ifX_t, ifX_f, asgX_some, retX_some, e_var, e_bor, e_int, e_bl, e_non, e_yes, e_str, e_bin, e_neg, e_nt, e_cmp, e_and, e_or, e_ite, e_call, e_bi, e_isi, e_ix, e_sl, e_tup, e_lst, e_dic, e_isn, e_isnn, es_nil, es_cons, es_it, es_rng1, es_rng2, es_enm, eb_one, eb_and, eb_or, eo_nil, eo_some, optI_int, op2_some, op1_some, onL_some, onI_some, consO_some, slX_some, tupX_nil, tupX_1, tupX_2, tupX_3, tupX_4, lstX_nil, negX_int, notX_bool, isnX_none, iteX_t, iteX_f, andX_t, andX_f, orX_t, orX_f, getE_zero, getE_succ, set_z, set_s, Option.map_some, Option.bind_some, u_lenL, m_lt, h1, u_ixL, h2]
  · refine ⟨5 * k + 3, ?_⟩
    have h1 : decide (((k : Nat) : Int) < (((ns.map PyData.int).length : Nat) : Int)) = false := by
      rw [List.length_map]
      exact decide_eq_false (by omega)
    simp -implicitDefEqProofs only [kCell, x_nil, x_cons, x_pass, x_frz, x_asg, x_asgT, x_app, x_ext, x_put, x_aug, x_ret, x_ifs, seqX_nx, seqX_rt, ifX_t, ifX_f, asgX_some, retX_some, e_var, e_bor, e_int, e_bl, e_non, e_yes, e_str, e_bin, e_neg, e_nt, e_cmp, e_and, e_or, e_ite, e_call, e_bi, e_isi, e_ix, e_sl, e_tup, e_lst, e_dic, e_isn, e_isnn, es_nil, es_cons, es_it, es_rng1, es_rng2, es_enm, eb_one, eb_and, eb_or, eo_nil, eo_some, optI_int, op2_some, op1_some, onL_some, onI_some, consO_some, slX_some, tupX_nil, tupX_1, tupX_2, tupX_3, tupX_4, lstX_nil, negX_int, notX_bool, isnX_none, iteX_t, iteX_f, andX_t, andX_f, orX_t, orX_f, getE_zero, getE_succ, set_z, set_s, Option.map_some, Option.bind_some, u_lenL, m_lt, h1, b_mulL _ (show small64 5 = true by decide), b_add]
def kDrawsB : S :=
  .cons (.ifs (.bop .And (.cons (.var 3) (.cons (.cmp .Gt (.var 2) (.int 0)) (.nil)))) (.cons (.app 5 (.bin .Mod (.bi .int (.cons (.var 2) (.nil))) (.int 5040)))
    (.cons (.asg (.n 2) (.bin .FloorDiv (.var 2) (.int 5040)))
    (.nil))) (.cons (.asg (.n 7) (.bin .Mod (.bi .int (.cons (.bin .Add (.bin .Add (.bin .Mult (.var 4) (.int 48271)) (.bin .Mult (.bin .Add (.var 6) (.int 1)) (.int 69621))) (.int 11)) (.nil))) (.int 2147483647)))
    (.cons (.asg (.n 7) (.bin .Mod (.bi .int (.cons (.bin .Add (.bin .Mult (.var 7) (.var 7)) (.bin .Mult (.int 40692) (.bin .Add (.var 6) (.int 3)))) (.nil))) (.int 2147483399)))
    (.cons (.app 5 (.bin .Mod (.bi .int (.cons (.bin .FloorDiv (.var 7) (.int 64)) (.nil))) (.int 5040)))
    (.nil)))))
  (.nil)
def kDrawsL : S := .forr (.n 6) (.rng1 (.var 1)) kDrawsB [5]
def kDraws : S := .cons (.asg (.n 2) (.bi .abs (.cons (.bi .int (.cons (.var 0) (.nil))) (.nil))))
  (.cons (.asg (.n 3) (.cmp .GtE (.var 2) (.bin .Pow (.int 10) (.int 18))))
  (.cons (.asg (.n 4) (.var 2))
  (.cons (.asg (.n 5) (.lst (.nil)))
  (.cons (kDrawsL)
  (.cons (.frz 5)
  (.cons (.ret (.var 5))
  (.nil)))))))
/-- numbers as they are drawn -/
def Drawn (cnt : Nat) (ds : List Int) : Prop := ds.length = cnt ∧ ∀ d ∈ ds, 0 ≤ d ∧ d < 5040
theorem Drawn.snoc {i : Nat} {ds : List Int} (h : Drawn i ds) (x : Int) : Drawn (i + 1) (ds ++ [x % 5040]) := by
  refine ⟨by simp [h.1], fun d hd => ?_⟩
  rcases List.mem_append.mp hd with q | q
  · exact h.2 d q
  · have : d = x % 5040 := by simpa using q
    omega
theorem draws_step (Φ : Nat → List D → Option D) (W : Nat) (c r s : Int) (cnt i : Nat) (g : Bool) (ds : List Int) (o p : Option D) (hl : ds.length < SL) :
    ∃ (r' x : Int) (p' : Option D), exec Φ W kDrawsB [some (.int c), some (.int cnt), some (.int r), some (.bool g), some (.int s), some (.list (ds.map .int)), some (.int i), p] = some (.nx [some (.int c), some (.int cnt), some (.int r'), some (.bool g), some (.int s), some (.list ((ds ++ [x % 5040]).map .int)), some (.int i), p']) := by
  have hl' : (ds.map PyData.int).length < SL := by rw [List.length_map]; exact hl
  have q1 : (0 : Int) < 5040 := by decide
  by_cases hg : g = true ∧ 0 < r
  · obtain ⟨rfl, hr⟩ := hg
    refine ⟨r / 5040, r, p, ?_⟩
    simp -implicitDefEqProofs only [kDrawsB, x_nil, x_cons, x_pass, x_frz, x_asg, x_asgT, x_app, x_ext, x_put, x_aug, x_ret, x_ifs, seqX_nx, seqX_rt, ifX_t, ifX_f, asgX_some, retX_some, e_var, e_bor, e_int, e_bl, e_non, e_yes, e_str, e_bin, e_neg, e_nt, e_cmp, e_and, e_or, e_ite, e_call, e_bi, e_isi, e_ix, e_sl, e_tup, e_lst, e_dic, e_isn, e_isnn, es_nil, es_cons, es_it, es_rng1, es_rng2, es_enm, eb_one, eb_and, eb_or, eo_nil, eo_some, optI_int, op2_some, op1_some, onL_some, onI_some, consO_some, slX_some, tupX_nil, tupX_1, tupX_2, tupX_3, tupX_4, lstX_nil, negX_int, notX_bool, isnX_none, iteX_t, iteX_f, andX_t, andX_f, orX_t, orX_f, getE_zero, getE_succ, set_z, set_s, Option.map_some, Option.bind_some, m_gt, decide_eq_true hr, u_int, b_mod _ q1, b_div _ q1 (show (5040 : Int) < 1073741824 by decide), appX_some _ _ hl', List.map_append, List.map_cons, List.map_nil]
  · obtain ⟨m1, hm1⟩ : ∃ m1 : Int, (s * 48271 + ((i : Int) + 1) * 69621 + 11) % 2147483647 = m1 := ⟨_, rfl⟩
    have hm1s : small64 m1 = true := small_of (by omega) (by omega)
    have k1 : small64 48271 = true := by decide
    have k2 : small64 69621 = true := by decide
    have k3 : small64 40692 = true := by decide
    have q2 : (0 : Int) < 2147483647 := by decide
    have q3 : (0 : Int) < 2147483399 := by decide
    have q4 : (0 : Int) < 64 := by decide
    refine ⟨r, (m1 * m1 + 40692 * ((i : Int) + 3)) % 2147483399 / 64, some (.int ((m1 * m1 + 40692 * ((i : Int) + 3)) % 2147483399)), ?_⟩
    cases g with
    | false => simp -implicitDefEqProofs only [kDrawsB, x_nil, x_cons, x_pass, x_frz, x_asg, x_asgT, x_app, x_ext, x_put, x_aug, x_ret, x_ifs, seqX_nx, seqX_rt, ifX_t, ifX_f, asgX_some, retX_some, e_var, e_bor, e_int, e_bl, e_non, e_yes, e_str, e_bin, e_neg, e_nt, e_cmp, e_and, e_or, e_ite, e_call, e_bi, e_isi, e_ix, e_sl, e_tup, e_lst, e_dic, e_isn, e_isnn, es_nil, es_cons, es_it, es_rng1, es_rng2, es_enm, eb_one, eb_and, eb_or, eo_nil, eo_some, optI_int, op2_some, op1_some, onL_some, onI_some, consO_some, slX_some, tupX_nil, tupX_1, tupX_2, tupX_3, tupX_4, lstX_nil, negX_int, notX_bool, isnX_none, iteX_t, iteX_f, andX_t, andX_f, orX_t, orX_f, getE_zero, getE_succ, set_z, set_s, Option.map_some, Option.bind_some, u_int, appX_some _ _ hl', b_mulR _ k1, b_mulR _ k2, b_mulL _ k3, b_mulL _ hm1s, b_add, b_mod _ q1, b_mod _ q2, b_mod _ q3, b_div _ q4 (show (64 : Int) < 1073741824 by decide), hm1, List.map_append, List.map_cons, List.map_nil]
    | true =>
      have hr : ¬ 0 < r := fun h => hg ⟨rfl, h⟩
      simp -implicitDefEqProofs only [kDrawsB, x_nil, x_cons, x_pass, x_frz, x_asg, x_asgT, x_app, x_ext, x_put, x_aug, x_ret, x_ifs, seqX_nx, seqX_rt, ifX_t, ifX_f, asgX_some, retX_some, e_var, e_bor, e_int, e_bl, e_non, e_yes, e_str, e_bin, e_neg, e_nt, e_cmp, e_and, e_or, e_ite, e_call, e_bi, e_isi, e_ix, e_sl, e_tup, e_lst, e_dic, e_isn, e_isnn, es_nil, es_cons, es_it, es_rng1, es_rng2, es_enm, eb_one, eb_and, eb_or, eo_nil, eo_some, optI_int, op2_some, op1_some, onL_some, onI_some, consO_some, slX_some, tupX_nil, tupX_1, tupX_2, tupX_3, tupX_4, lstX_nil, negX_int, notX_bool, isnX_none, iteX_t, iteX_f, andX_t, andX_f, orX_t, orX_f, getE_zero, getE_succ, set_z, set_s, Option.map_some, Option.bind_some, m_gt, decide_eq_false hr, u_int, appX_some _ _ hl', b_mulR _ k1, b_mulR _ k2, b_mulL _ k3, b_mulL _ hm1s, b_add, b_mod _ q1, b_mod _ q2, b_mod _ q3, b_div _ q4 (show (64 : Int) < 1073741824 by decide), hm1, List.map_append, List.map_cons, List.map_nil]
theorem pow18 : binD .Pow (.int 10) (.int 18) = some (.int (10 ^ 18)) := by
  show (if (0 : Int) ≤ 18 ∧ (18 : Int) ≤ 1000000 ∧ (10 : Int).natAbs < 2 ^ 64 then some (PyData.int ((10 : Int) ^ (18 : Int).toNat)) else none) = _
  rw [if_pos (by decide)]
  rfl
theorem draws_loop (Φ : Nat → List D → Option D) (W : Nat) (c a s : Int) (g : Bool) (cnt : Nat) (hc : cnt < 1000000) : ∃ ρ', forL (fun x ρ => (bindT (.n 6) x ρ).bind (exec Φ W kDrawsB)) (rangeL 0 cnt) [some (.int c), some (.int cnt), some (.int a), some (.bool g), some (.int s), some (.list []), none, none] = some (.nx ρ') ∧ ∃ (r s : Int) (g : Bool) (ds : List Int) (o p : Option D), Drawn cnt ds ∧ ρ' = [some (.int c), some (.int cnt), some (.int r), some (.bool g), some (.int s), some (.list (ds.map .int)), o, p] := by
  obtain ⟨ρ', e, hI⟩ := forL_inv (f := fun x ρ => (bindT (.n 6) x ρ).bind (exec Φ W kDrawsB)) (xs := rangeL 0 cnt) (fun i ρ => ∃ (r s : Int) (g : Bool) (ds : List Int) (o p : Option D), Drawn i ds ∧ i ≤ cnt ∧ ρ = [some (.int c), some (.int cnt), some (.int r), some (.bool g), some (.int s), some (.list (ds.map .int)), o, p]) (by
      rintro i x ρ hx ⟨r, s, g, ds, o, p, hd, hi, rfl⟩
      obtain ⟨rfl, hi'⟩ := rangeL_get hx
      obtain ⟨r', y, p', e⟩ := draws_step Φ W c r s cnt i g ds o p (by rw [hd.1]; exact Nat.lt_of_le_of_lt hi (Nat.lt_trans hc (by decide)))
      refine ⟨_, .inl ?_, r', s, g, ds ++ [y % 5040], some (.int i), p', hd.snoc y, by omega, rfl⟩
      have hb : bindT (.n 6) (.int (i : Nat)) [some (.int c), some (.int cnt), some (.int r), some (.bool g), some (.int s), some (.list (ds.map .int)), o, p] = some [some (.int c), some (.int cnt), some (.int r), some (.bool g), some (.int s), some (.list (ds.map .int)), some (.int i), p] := by simp [bindT]
      rw [hb]
      exact e)
    [some (.int c), some (.int cnt), some (.int a), some (.bool g), some (.int s), some (.list []), none, none] ⟨a, s, g, [], none, none, ⟨rfl, fun _ h => absurd h (by simp)⟩, Nat.zero_le _, rfl⟩
  rw [rangeL_len] at hI
  obtain ⟨r, s, g, ds, o, p, hd, _, h⟩ := hI
  exact ⟨ρ', e, r, s, g, ds, o, p, hd, h⟩
theorem draws_ok (Φ : Nat → List D → Option D) (W : Nat) (c : Int) (cnt : Nat) (hc : cnt < 1000000) : ∃ ds, Drawn cnt ds ∧ exec Φ W kDraws [some (.int c), some (.int cnt), none, none, none, none, none, none] = some (.rt (.list (ds.map .int))) := by
  obtain ⟨a, ha⟩ : ∃ a : Int, (if c < 0 then -c else c) = a := ⟨_, rfl⟩
  obtain ⟨big, hbig⟩ : ∃ a : Int, (10 : Int) ^ 18 = a := ⟨_, rfl⟩
  have hpow : binD .Pow (.int 10) (.int 18) = some (.int big) := by rw [← hbig]; exact pow18
  obtain ⟨g, hg⟩ : ∃ g : Bool, decide (big ≤ a) = g := ⟨_, rfl⟩
  obtain ⟨ρ', e, r, s, g', ds, o, p, hd, rfl⟩ := draws_loop Φ W c a a g cnt hc
  refine ⟨ds, hd, ?_⟩
  have hL : exec Φ W kDrawsL [some (.int c), some (.int cnt), some (.int a), some (.bool g), some (.int a), some (.list []), none, none] = some (.nx [some (.int c), some (.int cnt), some (.int r), some (.bool g'), some (.int s), some (.list (ds.map .int)), o, p]) := by
    rw [kDrawsL, x_for, es_rng1, e_var, getE_succ, getE_zero, onI_some, rngX_int (sm62 hc), forX_some]
    exact e
  have habs : biD .abs [.int c] = some (.int a) := by rw [← ha, biD]
  simp -implicitDefEqProofs only [kDraws, x_nil, x_cons, x_pass, x_frz, x_asg, x_asgT, x_app, x_ext, x_put, x_aug, x_ret, x_ifs, seqX_nx, seqX_rt, ifX_t, ifX_f, asgX_some, retX_some, e_var, e_bor, e_int, e_bl, e_non, e_yes, e_str, e_bin, e_neg, e_nt, e_cmp, e_and, e_or, e_ite, e_call, e_bi, e_isi, e_ix, e_sl, e_tup, e_lst, e_dic, e_isn, e_isnn, es_nil, es_cons, es_it, es_rng1, es_rng2, es_enm, eb_one, eb_and, eb_or, eo_nil, eo_some, optI_int, op2_some, op1_some, onL_some, onI_some, consO_some, slX_some, tupX_nil, tupX_1, tupX_2, tupX_3, tupX_4, lstX_nil, negX_int, notX_bool, isnX_none, iteX_t, iteX_f, andX_t, andX_f, orX_t, orX_f, getE_zero, getE_succ, set_z, set_s, Option.map_some, Option.bind_some, u_int, habs, hpow, m_ge, hg, hL]
/-! ### is it the same? -/
def kIsInt : S := .cons (.ret (.bop .And (.cons (.isi (.var 0) .int) (.cons (.nt (.isi (.var 0) .bool)) (.nil)))))
  (.nil)
def kIsC (j : Nat) : C := .lc (.n 2) (.rng1 (.bi .len (.cons (.var 1) (.nil)))) (.yes) (.call j (.cons (.ix (.var 0) (.var 2)) (.cons (.ix (.var 1) (.var 2)) (.nil)))) [2]
def kIs (i j : Nat) : S :=
  .cons (.ifs (.isn (.var 1)) (.cons (.ret (.isn (.var 0)))
    (.nil)) (.nil))
  (.cons (.ifs (.isi (.var 1) .bool) (.cons (.ret (.bop .And (.cons (.isi (.var 0) .bool) (.cons (.cmp .Eq (.var 0) (.var 1)) (.nil)))))
    (.nil)) (.nil))
  (.cons (.ifs (.isi (.var 1) .int) (.cons (.ret (.bop .And (.cons (.call i (.cons (.var 0) (.nil))) (.cons (.cmp .Eq (.var 0) (.var 1)) (.nil)))))
    (.nil)) (.nil))
  (.cons (.ifs (.isi (.var 1) .str) (.cons (.ret (.bop .And (.cons (.isi (.var 0) .str) (.cons (.cmp .Eq (.var 0) (.var 1)) (.nil)))))
    (.nil)) (.nil))
  (.cons (.ifs (.bop .Or (.cons (.nt (.isi (.var 0) .tuple)) (.cons (.cmp .NotEq (.bi .len (.cons (.var 0) (.nil))) (.bi .len (.cons (.var 1) (.nil)))) (.nil)))) (.cons (.ret (.bl false))
    (.nil)) (.nil))
  (.cons (.ret (.bi .all (.cons (kIsC j) (.nil))))
  (.nil))))))
/-- what an answer may be: nothing, truths, numbers, texts, tuples of such -/
inductive Nice : Nat → D → Prop
  | non {n} : Nice n .none
  | bl {n} (b : Bool) : Nice n (.bool b)
  | int {n} (i : Int) : Nice n (.int i)
  | str {n} (s : Str) : Nice n (.str s)
  | tup {n} {xs : List D} : xs.length < 1000000 → (∀ x ∈ xs, Nice n x) → Nice (n + 1) (.tuple xs)
theorem isInt_ok (Φ : Nat → List D → Option D) (W : Nat) (a : Int) : runDf Φ W ⟨1, 1, kIsInt⟩ [.int a] = some (.bool true) := by
  simp [runDf, kIsInt, exec, ev, evs, evb, getE, isiD, truthy]
theorem eqv_bool (b : Bool) : PyData.eqv (.bool b) (.bool b) = true := by cases b <;> simp [PyData.eqv]
theorem eqv_str (s : Str) : PyData.eqv (.str s) (.str s) = true := by simp [PyData.eqv]
theorem compL_true {f : D → Option (Option D)} : ∀ {xs : List D}, (∀ x ∈ xs, f x = some (some (.bool true))) → compL f xs = some (List.replicate xs.length (.bool true))
  | [], _ => rfl
  | x :: xs, h => by
    unfold compL
    rw [h x (by simp), compL_true fun y hy => h y (by simp [hy])]
    rfl
theorem bools_true : ∀ n : Nat, boolsD (List.replicate n (.bool true)) = some (List.replicate n true)
  | 0 => rfl
  | n + 1 => by
    rw [List.replicate_succ, boolsD, bools_true n]
    rfl
theorem isn_int (a : Int) : isnX (.int a) = .bool false := by rw [isnX]; exact fun h => by cases h
theorem isn_bool (a : Bool) : isnX (.bool a) = .bool false := by rw [isnX]; exact fun h => by cases h
theorem isn_str (a : Str) : isnX (.str a) = .bool false := by rw [isnX]; exact fun h => by cases h
theorem isn_tup (a : List D) : isnX (.tuple a) = .bool false := by rw [isnX]; exact fun h => by cases h
theorem m_eqb (b : Bool) : cmpX .Eq (.bool b) (.bool b) = some (.bool true) := by simp [cmpX, cmpD, eqD, dle, eqv_bool]
theorem m_eqs (b : Str) : cmpX .Eq (.str b) (.str b) = some (.bool true) := by simp [cmpX, cmpD, eqD, dle, eqv_str]
theorem is_C {P : List Df} {W n j : Nat} {xs : List D} (hl : xs.length < 1000000) (ih : ∀ x ∈ xs, run P W n j [x, x] = some (.bool true)) : ev (run P W n) (kIsC j) [some (.tuple xs), some (.tuple xs), none] = some (.list (List.replicate xs.length (.bool true))) := by
  have hcc : compL (compF (ev (run P W n) .yes) (ev (run P W n) (.call j (.cons (.ix (.var 0) (.var 2)) (.cons (.ix (.var 1) (.var 2)) (.nil))))) (.n 2) [2] [some (.tuple xs), some (.tuple xs), none]) (rangeL 0 (xs.length : Int)) = some (List.replicate xs.length (.bool true)) := by
    have q := compL_true (xs := rangeL 0 (xs.length : Int)) (f := compF (ev (run P W n) .yes) (ev (run P W n) (.call j (.cons (.ix (.var 0) (.var 2)) (.cons (.ix (.var 1) (.var 2)) (.nil))))) (.n 2) [2] [some (.tuple xs), some (.tuple xs), none]) ?_
    · rw [rangeL_len] at q
      exact q
    intro x hx'
    obtain ⟨k, hk⟩ := List.mem_iff_getElem?.mp hx'
    obtain ⟨rfl, hlt⟩ := rangeL_get hk
    have hlt' : k < xs.length := by omega
    have hn : nth xs (k : Int) = some xs[k] := nth_nat _ hlt'
    have ih' := ih xs[k] (List.getElem_mem hlt')
    have hb : bindT (.n 2) (.int (k : Nat)) (wipeE [some (.tuple xs), some (.tuple xs), none] [2]) = some [some (.tuple xs), some (.tuple xs), some (.int (k : Nat))] := by simp [bindT, wipeE]
    have ht : truthy (.bool true) = some true := by rw [truthy]
    unfold compF
    rw [hb, Option.bind_some, e_yes, Option.bind_some, ht, Option.bind_some, if_pos rfl]
    simp -implicitDefEqProofs only [x_nil, x_cons, x_pass, x_frz, x_asg, x_asgT, x_app, x_ext, x_put, x_aug, x_ret, x_ifs, seqX_nx, seqX_rt, ifX_t, ifX_f, asgX_some, retX_some, e_var, e_bor, e_int, e_bl, e_non, e_yes, e_str, e_bin, e_neg, e_nt, e_cmp, e_and, e_or, e_ite, e_call, e_bi, e_isi, e_ix, e_sl, e_tup, e_lst, e_dic, e_isn, e_isnn, es_nil, es_cons, es_it, es_rng1, es_rng2, es_enm, eb_one, eb_and, eb_or, eo_nil, eo_some, optI_int, op2_some, op1_some, onL_some, onI_some, consO_some, slX_some, tupX_nil, tupX_1, tupX_2, tupX_3, tupX_4, lstX_nil, negX_int, notX_bool, isnX_none, iteX_t, iteX_f, andX_t, andX_f, orX_t, orX_f, getE_zero, getE_succ, set_z, set_s, Option.map_some, Option.bind_some, u_ixT, hn, ih']
  rw [kIsC, e_lc]
  simp -implicitDefEqProofs only [x_nil, x_cons, x_pass, x_frz, x_asg, x_asgT, x_app, x_ext, x_put, x_aug, x_ret, x_ifs, seqX_nx, seqX_rt, ifX_t, ifX_f, asgX_some, retX_some, e_var, e_bor, e_int, e_bl, e_non, e_yes, e_str, e_bin, e_neg, e_nt, e_cmp, e_and, e_or, e_ite, e_call, e_bi, e_isi, e_ix, e_sl, e_tup, e_lst, e_dic, e_isn, e_isnn, es_nil, es_cons, es_it, es_rng1, es_rng2, es_enm, eb_one, eb_and, eb_or, eo_nil, eo_some, optI_int, op2_some, op1_some, onL_some, onI_some, consO_some, slX_some, tupX_nil, tupX_1, tupX_2, tupX_3, tupX_4, lstX_nil, negX_int, notX_bool, isnX_none, iteX_t, iteX_f, andX_t, andX_f, orX_t, orX_f, getE_zero, getE_succ, set_z, set_s, Option.map_some, Option.bind_some, u_lenT, rngX_int (sm62 hl)]
  have hz : (rangeL 0 (xs.length : Int)).length ≤ SL := by rw [rangeL_len]; exact Nat.le_of_lt (Nat.lt_trans hl sl_big)
  rw [lcX, Option.bind_some, if_pos hz, hcc, Option.map_some]
theorem is_ok {P : List Df} {W i j : Nat} (hi : P[i]? = some ⟨1, 1, kIsInt⟩) (hj : P[j]? = some ⟨2, 3, kIs i j⟩) : ∀ (m n : Nat) (d : D), Nice m d → m + 2 ≤ n → run P W n j [d, d] = some (.bool true) := by
  intro m n
  induction n generalizing m with
  | zero => intro d _ h; omega
  | succ n ih =>
    intro d hd h
    obtain ⟨n, rfl⟩ : ∃ k, n = k + 1 := ⟨n - 1, by omega⟩
    have hI : ∀ a, run P W (n + 1) i [.int a] = some (.bool true) := fun a => by rw [run_at _ hi]; exact isInt_ok _ W a
    refine run_eq hj rfl ?_
    show exec _ W (kIs i j) [some d, some d, none] = _
    cases hd with
    | non => simp -implicitDefEqProofs only [kIs, x_nil, x_cons, x_pass, x_frz, x_asg, x_asgT, x_app, x_ext, x_put, x_aug, x_ret, x_ifs, seqX_nx, seqX_rt, ifX_t, ifX_f, asgX_some, retX_some, e_var, e_bor, e_int, e_bl, e_non, e_yes, e_str, e_bin, e_neg, e_nt, e_cmp, e_and, e_or, e_ite, e_call, e_bi, e_isi, e_ix, e_sl, e_tup, e_lst, e_dic, e_isn, e_isnn, es_nil, es_cons, es_it, es_rng1, es_rng2, es_enm, eb_one, eb_and, eb_or, eo_nil, eo_some, optI_int, op2_some, op1_some, onL_some, onI_some, consO_some, slX_some, tupX_nil, tupX_1, tupX_2, tupX_3, tupX_4, lstX_nil, negX_int, notX_bool, isnX_none, iteX_t, iteX_f, andX_t, andX_f, orX_t, orX_f, getE_zero, getE_succ, set_z, set_s, Option.map_some, Option.bind_some]
    | bl b => simp -implicitDefEqProofs only [kIs, x_nil, x_cons, x_pass, x_frz, x_asg, x_asgT, x_app, x_ext, x_put, x_aug, x_ret, x_ifs, seqX_nx, seqX_rt, ifX_t, ifX_f, asgX_some, retX_some, e_var, e_bor, e_int, e_bl, e_non, e_yes, e_str, e_bin, e_neg, e_nt, e_cmp, e_and, e_or, e_ite, e_call, e_bi, e_isi, e_ix, e_sl, e_tup, e_lst, e_dic, e_isn, e_isnn, es_nil, es_cons, es_it, es_rng1, es_rng2, es_enm, eb_one, eb_and, eb_or, eo_nil, eo_some, optI_int, op2_some, op1_some, onL_some, onI_some, consO_some, slX_some, tupX_nil, tupX_1, tupX_2, tupX_3, tupX_4, lstX_nil, negX_int, notX_bool, isnX_none, iteX_t, iteX_f, andX_t, andX_f, orX_t, orX_f, getE_zero, getE_succ, set_z, set_s, Option.map_some, Option.bind_some, isn_bool, isiD, m_eqb]
    | int a => simp -implicitDefEqProofs only [kIs, x_nil, x_cons, x_pass, x_frz, x_asg, x_asgT, x_app, x_ext, x_put, x_aug, x_ret, x_ifs, seqX_nx, seqX_rt, ifX_t, ifX_f, asgX_some, retX_some, e_var, e_bor, e_int, e_bl, e_non, e_yes, e_str, e_bin, e_neg, e_nt, e_cmp, e_and, e_or, e_ite, e_call, e_bi, e_isi, e_ix, e_sl, e_tup, e_lst, e_dic, e_isn, e_isnn, es_nil, es_cons, es_it, es_rng1, es_rng2, es_enm, eb_one, eb_and, eb_or, eo_nil, eo_some, optI_int, op2_some, op1_some, onL_some, onI_some, consO_some, slX_some, tupX_nil, tupX_1, tupX_2, tupX_3, tupX_4, lstX_nil, negX_int, notX_bool, isnX_none, iteX_t, iteX_f, andX_t, andX_f, orX_t, orX_f, getE_zero, getE_succ, set_z, set_s, Option.map_some, Option.bind_some, isn_int, isiD, m_eq, hI, decide_true]
    | str s => simp -implicitDefEqProofs only [kIs, x_nil, x_cons, x_pass, x_frz, x_asg, x_asgT, x_app, x_ext, x_put, x_aug, x_ret, x_ifs, seqX_nx, seqX_rt, ifX_t, ifX_f, asgX_some, retX_some, e_var, e_bor, e_int, e_bl, e_non, e_yes, e_str, e_bin, e_neg, e_nt, e_cmp, e_and, e_or, e_ite, e_call, e_bi, e_isi, e_ix, e_sl, e_tup, e_lst, e_dic, e_isn, e_isnn, es_nil, es_cons, es_it, es_rng1, es_rng2, es_enm, eb_one, eb_and, eb_or, eo_nil, eo_some, optI_int, op2_some, op1_some, onL_some, onI_some, consO_some, slX_some, tupX_nil, tupX_1, tupX_2, tupX_3, tupX_4, lstX_nil, negX_int, notX_bool, isnX_none, iteX_t, iteX_f, andX_t, andX_f, orX_t, orX_f, getE_zero, getE_succ, set_z, set_s, Option.map_some, Option.bind_some, isn_str, isiD, m_eqs]
    | @tup m' xs hl hx =>
      have hC := is_C (P := P) (W := W) (n := n + 1) (j := j) hl fun x hx' => ih m' x (hx x hx') (by omega)
      have hall : biD .all [.list (List.replicate xs.length (.bool true))] = some (.bool true) := by
        show (boolsD _).map (fun bs : List Bool => PyData.bool (bs.all id)) = _
        rw [bools_true]
        simp
      simp -implicitDefEqProofs only [kIs, x_nil, x_cons, x_pass, x_frz, x_asg, x_asgT, x_app, x_ext, x_put, x_aug, x_ret, x_ifs, seqX_nx, seqX_rt, ifX_t, ifX_f, asgX_some, retX_some, e_var, e_bor, e_int, e_bl, e_non, e_yes, e_str, e_bin, e_neg, e_nt, e_cmp, e_and, e_or, e_ite, e_call, e_bi, e_isi, e_ix, e_sl, e_tup, e_lst, e_dic, e_isn, e_isnn, es_nil, es_cons, es_it, es_rng1, es_rng2, es_enm, eb_one, eb_and, eb_or, eo_nil, eo_some, optI_int, op2_some, op1_some, onL_some, onI_some, consO_some, slX_some, tupX_nil, tupX_1, tupX_2, tupX_3, tupX_4, lstX_nil, negX_int, notX_bool, isnX_none, iteX_t, iteX_f, andX_t, andX_f, orX_t, orX_f, getE_zero, getE_succ, set_z, set_s, Option.map_some, Option.bind_some, isn_tup, isiD, u_lenT, m_ne, decide_true, Bool.not_true, hC, hall]
end PC

namespace PC
open PySem
/-! ### lists of numbers -/
abbrev eN (n : Nat) : D := .int (n : Int)
abbrev eNs (l : List Nat) : List D := l.map eN
theorem compF_t {fc fe : Env → Option D} {t : T} {vs : List Nat} {ρ ρ1 : Env} {x y : D} (hb : bindT t x (wipeE ρ vs) = some ρ1) (hc : fc ρ1 = some (.bool true)) (he : fe ρ1 = some y) : compF fc fe t vs ρ x = some (some y) := by
  unfold compF
  rw [hb, Option.bind_some, hc, Option.bind_some, truthy, Option.bind_some, if_pos rfl, he, Option.map_some]
theorem compF_f {fc fe : Env → Option D} {t : T} {vs : List Nat} {ρ ρ1 : Env} {x : D} (hb : bindT t x (wipeE ρ vs) = some ρ1) (hc : fc ρ1 = some (.bool false)) : compF fc fe t vs ρ x = some none := by
  unfold compF
  rw [hb, Option.bind_some, hc, Option.bind_some, truthy, Option.bind_some, if_neg Bool.false_ne_true]
theorem compL_map {α : Type} (enc : α → D) {f : D → Option (Option D)} (p : α → Bool) (g : α → D) : ∀ (xs : List α), (∀ a ∈ xs, f (enc a) = some (if p a = true then some (g a) else none)) → compL f (xs.map enc) = some ((xs.filter p).map g)
  | [], _ => rfl
  | a :: xs, h => by
    have ih := compL_map enc p g xs fun b hb => h b (by simp [hb])
    rw [List.map_cons, compL, h a (by simp)]
    cases hp : p a with
    | true =>
      rw [if_pos rfl, ih, List.filter_cons_of_pos hp]
      rfl
    | false =>
      rw [if_neg Bool.false_ne_true, ih, List.filter_cons_of_neg (by simp [hp])]
theorem lcX_map {α : Type} {Φ : Nat → List D → Option D} {tg : T} {cond elt : C} {vs : List Nat} {ρ : Env} (enc : α → D) (p : α → Bool) (g : α → D) {xs : List α} (hl : xs.length ≤ SL) (h : ∀ a ∈ xs, compF (ev Φ cond) (ev Φ elt) tg vs ρ (enc a) = some (if p a = true then some (g a) else none)) :
    lcX Φ tg cond elt vs (some (xs.map enc)) ρ = some (.list ((xs.filter p).map g)) := by
  rw [lcX, Option.bind_some, if_pos (by rw [List.length_map]; exact hl), compL_map enc p g xs h, Option.map_some]
theorem lcX_all {α : Type} {Φ : Nat → List D → Option D} {tg : T} {cond elt : C} {vs : List Nat} {ρ : Env} (enc : α → D) (g : α → D) {xs : List α} (hl : xs.length ≤ SL) (h : ∀ a ∈ xs, compF (ev Φ cond) (ev Φ elt) tg vs ρ (enc a) = some (some (g a))) :
    lcX Φ tg cond elt vs (some (xs.map enc)) ρ = some (.list (xs.map g)) := by
  have q := lcX_map (Φ := Φ) (tg := tg) (cond := cond) (elt := elt) (vs := vs) (ρ := ρ) enc (fun _ => true) g hl (fun a ha => by rw [h a ha, if_pos rfl])
  rw [List.filter_eq_self.mpr fun _ _ => rfl] at q
  exact q
theorem range_eN (n : Nat) : rangeL 0 (n : Int) = eNs (List.range n) := by
  unfold rangeL eNs
  simp
theorem any_mem (l : List Nat) (x : Nat) : ((eNs l).any fun y => PyData.eqv y (eN x)) = decide (x ∈ l) := by
  induction l with
  | nil => simp
  | cons a l ih =>
    rw [show eNs (a :: l) = eN a :: eNs l from rfl, List.any_cons, ih, eqv_int]
    by_cases h : a = x
    · subst h; simp
    · have h' : ¬ ((a : Int) = (x : Int)) := by omega
      have h2 : ¬ x = a := fun e => h e.symm
      simp [h', h2]
theorem inD_eN (x : Nat) (l : List Nat) : inD (eN x) (.list (eNs l)) = some (decide (x ∈ l)) := by
  have h : (dle 60 (eN x) && (eNs l).all (dle 60)) = true := by
    rw [dle_int, Bool.true_and, List.all_eq_true]
    intro y hy
    obtain ⟨n, _, rfl⟩ := List.mem_map.mp hy
    exact dle_int _ _
  rw [inD, if_pos h, any_mem]
theorem m_in (x : Nat) (l : List Nat) : cmpX .In (eN x) (.list (eNs l)) = some (.bool (decide (x ∈ l))) := by
  show (inD (eN x) (.list (eNs l))).map PyData.bool = _
  rw [inD_eN]
  rfl
theorem m_nin (x : Nat) (l : List Nat) : cmpX .NotIn (eN x) (.list (eNs l)) = some (.bool (!decide (x ∈ l))) := by
  show ((inD (eN x) (.list (eNs l))).map (!·)).map PyData.bool = _
  rw [inD_eN]
  rfl
theorem nth_eN (l : List Nat) {i : Nat} (h : i < l.length) : nth (eNs l) (i : Int) = some (eN l[i]) := by
  rw [nth_nat _ (by simpa using h)]
  simp
theorem bN_add (a b : Nat) : binD .Add (eN a) (eN b) = some (eN (a + b)) := by
  rw [b_add]
  exact congrArg (fun z : Int => some (PyData.int z)) (by omega)
theorem bN_add1 (a : Nat) : binD .Add (eN a) (.int 1) = some (eN (a + 1)) := bN_add a 1
theorem bN_sub {a b : Nat} (h : b ≤ a) : binD .Sub (eN a) (eN b) = some (eN (a - b)) := by
  rw [b_sub]
  exact congrArg (fun z : Int => some (PyData.int z)) (by omega)
theorem mN_le (a b : Nat) : cmpX .LtE (eN a) (eN b) = some (.bool (decide (a ≤ b))) := by
  rw [m_le]
  congr 2
  simp
/-! ### the least number that is not there -/
def mxI (near : List Nat) : Nat → Nat → Nat
  | 0, m => m
  | k + 1, m => mxI near k (if m ∈ near then m + 1 else m)
def mx (near : List Nat) : Nat := mxI near near.length 0
theorem all_below : ∀ (n : Nat) (l : List Nat), (∀ j < n, j ∈ l) → n ≤ l.length
  | 0, _, _ => Nat.zero_le _
  | n + 1, l, h => by
    have hn : n ∈ l := h n (Nat.lt_succ_self n)
    have ih := all_below n (l.erase n) fun j hj => (List.mem_erase_of_ne (by omega)).mpr (h j (by omega))
    rw [List.length_erase_of_mem hn] at ih
    have : 0 < l.length := List.length_pos_of_mem hn
    omega
theorem mxI_spec (near : List Nat) : ∀ (k m : Nat), (∀ j < m, j ∈ near) → (∀ j < mxI near k m, j ∈ near) ∧ (mxI near k m ∉ near ∨ mxI near k m = m + k)
  | 0, m, h => ⟨h, .inr rfl⟩
  | k + 1, m, h => by
    unfold mxI
    by_cases hm : m ∈ near
    · rw [if_pos hm]
      obtain ⟨h1, h2⟩ := mxI_spec near k (m + 1) fun j hj => by
        by_cases e : j = m
        · rw [e]; exact hm
        · exact h j (by omega)
      exact ⟨h1, h2.imp_right fun e => by omega⟩
    · rw [if_neg hm]
      have hst : ∀ k, mxI near k m = m := by
        intro k
        induction k with
        | zero => rfl
        | succ k ih => unfold mxI; rw [if_neg hm, ih]
      rw [hst k]
      exact ⟨h, .inl hm⟩
theorem mx_spec (near : List Nat) : (∀ j < mx near, j ∈ near) ∧ mx near ∉ near ∧ mx near ≤ near.length := by
  obtain ⟨h1, h2⟩ := mxI_spec near near.length 0 fun j h => absurd h (Nat.not_lt_zero j)
  have hl := all_below (mx near) near h1
  refine ⟨h1, ?_, hl⟩
  rcases h2 with h2 | h2
  · exact h2
  · intro hm
    have := all_below (mx near + 1) near fun j hj => by
      by_cases e : j = mx near
      · rw [e]; exact hm
      · exact h1 j (by omega)
    have e2 : mx near = near.length := by unfold mx; omega
    omega
theorem mx_uniq {near : List Nat} {m : Nat} (h1 : ∀ j < m, j ∈ near) (h2 : m ∉ near) : mx near = m := by
  obtain ⟨g1, g2, _⟩ := mx_spec near
  by_cases h : mx near < m
  · exact absurd (h1 _ h) g2
  · by_cases h' : m < mx near
    · exact absurd (g1 _ h') h2
    · omega
/-- the first of the numbers up to the length that are not there -/
theorem mx_first (near : List Nat) : ((List.range (near.length + 1)).filter fun n => !decide (n ∈ near))[0]? = some (mx near) := by
  obtain ⟨g1, g2, g3⟩ := mx_spec near
  have hr : List.range (near.length + 1) = List.range (mx near) ++ (mx near :: (List.range' (mx near + 1) (near.length - mx near))) := by
    rw [List.range_eq_range', List.range_eq_range']
    have e1 : mx near :: List.range' (mx near + 1) (near.length - mx near) = List.range' (mx near) (near.length - mx near + 1) := by rw [List.range'_succ]
    rw [e1]
    have q := List.range'_append_1 (s := 0) (m := mx near) (n := near.length - mx near + 1)
    rw [Nat.zero_add] at q
    rw [q]
    congr 1
    omega
  rw [hr, List.filter_append]
  have h0 : (List.range (mx near)).filter (fun n => !decide (n ∈ near)) = [] := by
    rw [List.filter_eq_nil_iff]
    intro j hj
    simp [g1 j (List.mem_range.mp hj)]
  rw [h0, List.nil_append, List.filter_cons_of_pos (by simp [g2])]
  rfl
end PC

namespace PC
open PySem
/-! ### slices, sums of tuples, loops told by steps -/
theorem cut_take {α : Type} (xs : List α) (k : Nat) : cutL xs none (some (k : Int)) = xs.take k := by
  have h : clip xs.length (k : Int) = min k xs.length := by
    unfold clip
    rw [if_neg (by omega)]
    simp
  show (xs.drop 0).take (clip xs.length (k : Int) - 0) = _
  rw [h, List.drop_zero, Nat.sub_zero]
  by_cases hk : k ≤ xs.length
  · rw [Nat.min_eq_left hk]
  · rw [Nat.min_eq_right (by omega), List.take_length, List.take_of_length_le (by omega)]
theorem cut_drop {α : Type} (xs : List α) (k : Nat) : cutL xs (some (k : Int)) none = xs.drop k := by
  have h : clip xs.length (k : Int) = min k xs.length := by
    unfold clip
    rw [if_neg (by omega)]
    simp
  show (xs.drop (clip xs.length (k : Int))).take (xs.length - clip xs.length (k : Int)) = _
  rw [h]
  by_cases hk : k ≤ xs.length
  · rw [Nat.min_eq_left hk, List.take_of_length_le (by simp)]
  · rw [Nat.min_eq_right (by omega), List.drop_of_length_le (by omega), List.drop_of_length_le (by omega)]
    simp
theorem sl_take (xs : List D) (k : Nat) : sliceD (.tuple xs) none (some (k : Int)) = some (.tuple (xs.take k)) := by rw [sliceD, cut_take]
theorem sl_drop (xs : List D) (k : Nat) : sliceD (.tuple xs) (some (k : Int)) none = some (.tuple (xs.drop k)) := by rw [sliceD, cut_drop]
theorem sll_take (xs : List D) (k : Nat) : sliceD (.list xs) none (some (k : Int)) = some (.list (xs.take k)) := by rw [sliceD, cut_take]
theorem sll_drop (xs : List D) (k : Nat) : sliceD (.list xs) (some (k : Int)) none = some (.list (xs.drop k)) := by rw [sliceD, cut_drop]
theorem bT_add {xs ys : List D} (h : xs.length + ys.length < 1000000) : binD .Add (.tuple xs) (.tuple ys) = some (.tuple (xs ++ ys)) := by
  rw [binD, addD, if_pos (Nat.le_of_lt (Nat.lt_trans h sl_big))]
theorem bL_add {xs ys : List D} (h : xs.length + ys.length < 1000000) : binD .Add (.list xs) (.list ys) = some (.list (xs ++ ys)) := by
  rw [binD, addD, if_pos (Nat.le_of_lt (Nat.lt_trans h sl_big))]
theorem forL_nil (f : D → Env → Option Fl) (ρ : Env) : forL f [] ρ = some (.nx ρ) := by rw [forL]
theorem forL_nx {f : D → Env → Option Fl} {x : D} {xs : List D} {ρ ρ' : Env} (h : f x ρ = some (.nx ρ')) : forL f (x :: xs) ρ = forL f xs ρ' := by rw [forL, h]
theorem forL_rt {f : D → Env → Option Fl} {x d : D} {xs : List D} {ρ : Env} (h : f x ρ = some (.rt d)) : forL f (x :: xs) ρ = some (.rt d) := by rw [forL, h]
/-- a loop over told items: what stands before the i-th turn is S of the first i items -/
theorem forL_list {α : Type} (enc : α → D) {f : D → Env → Option Fl} (I : List α → Env → Prop) : ∀ (xs pre : List α) (ρ : Env), I pre ρ → (∀ (p : List α) (a : α) (q : List α) (ρ : Env), pre ++ xs = p ++ a :: q → I p ρ → ∃ ρ', f (enc a) ρ = some (.nx ρ') ∧ I (p ++ [a]) ρ') → ∃ ρ', forL f (xs.map enc) ρ = some (.nx ρ') ∧ I (pre ++ xs) ρ'
  | [], pre, ρ, h, _ => ⟨ρ, by rw [List.map_nil, forL_nil], by rw [List.append_nil]; exact h⟩
  | a :: xs, pre, ρ, h, hs => by
    obtain ⟨ρ1, e1, h1⟩ := hs pre a xs ρ rfl h
    obtain ⟨ρ2, e2, h2⟩ := forL_list enc I xs (pre ++ [a]) ρ1 h1 fun p b q ρ e hp => hs p b q ρ (by rw [← e]; simp) hp
    exact ⟨ρ2, by rw [List.map_cons, forL_nx e1]; exact e2, by simpa using h2⟩
end PC

namespace PC
open PySem
/-! ### a loop that looks for something -/
theorem forL_find {α : Type} (enc : α → D) {f : D → Env → Option Fl} (I : Env → Prop) (r : α → Option D) : ∀ (xs : List α), (∀ a ∈ xs, ∀ ρ, I ρ → (r a = none → ∃ ρ', f (enc a) ρ = some (.nx ρ') ∧ I ρ') ∧ ∀ d, r a = some d → f (enc a) ρ = some (.rt d)) →
    ∀ ρ, I ρ → (xs.findSome? r = none → ∃ ρ', forL f (xs.map enc) ρ = some (.nx ρ') ∧ I ρ') ∧ ∀ d, xs.findSome? r = some d → forL f (xs.map enc) ρ = some (.rt d)
  | [], _, ρ, h => ⟨fun _ => ⟨ρ, forL_nil f ρ, h⟩, fun d e => by simp at e⟩
  | a :: xs, hs, ρ, h => by
    obtain ⟨h1, h2⟩ := hs a (by simp) ρ h
    cases hr : r a with
    | none =>
      obtain ⟨ρ', e, h'⟩ := h1 hr
      obtain ⟨g1, g2⟩ := forL_find enc I r xs (fun b hb => hs b (by simp [hb])) ρ' h'
      rw [List.findSome?_cons, hr, List.map_cons, forL_nx e]
      exact ⟨g1, g2⟩
    | some d =>
      rw [List.findSome?_cons, hr, List.map_cons, forL_rt (h2 d hr)]
      exact ⟨fun e => (by cases e), fun d' e => (by cases e; rfl)⟩
/-! ### dicts -/
section
variable {α : Type} [DecidableEq α] (enc : α → D)
def encM (m : List (α × D)) : List (D × D) := m.map fun p => (enc p.1, p.2)
def look (m : List (α × D)) (a : α) : Option D := (m.find? fun p => decide (p.1 = a)).map (·.2)
def putM (m : List (α × D)) (a : α) (v : D) : List (α × D) := if (m.any fun p => decide (p.1 = a)) = true then m.map (fun p => if p.1 = a then (p.1, v) else p) else m ++ [(a, v)]
variable {enc} (he : ∀ a b, PyData.eqv (enc a) (enc b) = decide (a = b))
include he
theorem getK_enc (m : List (α × D)) (a : α) : getK (encM enc m) (enc a) = look m a := by
  unfold getK look encM
  rw [List.find?_map, Option.map_map]
  congr 1
  congr 1
  funext p
  exact he p.1 a
theorem any_enc (m : List (α × D)) (a : α) : ((encM enc m).any fun kv => PyData.eqv kv.1 (enc a)) = m.any fun p => decide (p.1 = a) := by
  unfold encM
  rw [List.any_map]
  congr 1
  funext p
  exact he p.1 a
theorem putK_enc (m : List (α × D)) (a : α) (v : D) : putK (encM enc m) (enc a) v = encM enc (putM m a v) := by
  unfold putK putM
  rw [any_enc he]
  by_cases h : (m.any fun p => decide (p.1 = a)) = true
  · rw [if_pos h, if_pos h]
    unfold encM
    rw [List.map_map, List.map_map]
    apply List.map_congr_left
    intro p _
    by_cases e : p.1 = a
    · simp [he, e]
    · simp [he, e]
  · rw [if_neg h, if_neg h]
    unfold encM
    rw [List.map_append]
    rfl
omit he in
theorem look_put (m : List (α × D)) (a b : α) (v : D) : look (putM m a v) b = if a = b then some v else look m b := by
  unfold putM
  by_cases h : (m.any fun p => decide (p.1 = a)) = true
  · rw [if_pos h]
    induction m with
    | nil => simp at h
    | cons p m ih =>
      by_cases hp : p.1 = a
      · by_cases hb : a = b
        · simp [look, List.find?_cons, hp, hb]
        · have hpb : ¬ p.1 = b := fun e => hb (hp.symm.trans e)
          by_cases h2 : (m.any fun p => decide (p.1 = a)) = true
          · have := ih h2
            rw [if_neg hb] at this ⊢
            unfold look at this ⊢
            rw [List.map_cons, if_pos hp, List.find?_cons_of_neg (by simpa using hpb), List.find?_cons_of_neg (by simpa using hpb)]
            exact this
          · have hm : m.map (fun p => if p.1 = a then (p.1, v) else p) = m := by
              have : ∀ q ∈ m, (fun p : α × D => if p.1 = a then (p.1, v) else p) q = q := fun q hq => by
                have hne : ¬ q.1 = a := fun e => h2 (List.any_eq_true.mpr ⟨q, hq, by simp [e]⟩)
                simp [hne]
              rw [List.map_congr_left this]
              simp
            rw [if_neg hb]
            unfold look
            rw [List.map_cons, if_pos hp, hm, List.find?_cons_of_neg (by simpa using hpb), List.find?_cons_of_neg (by simpa using hpb)]
      · have h2 : (m.any fun p => decide (p.1 = a)) = true := by simpa [List.any_cons, hp] using h
        have := ih h2
        rw [List.map_cons, if_neg hp]
        unfold look at this ⊢
        by_cases hpb : p.1 = b
        · have hab : ¬ a = b := fun e => hp (hpb.trans e.symm)
          simp [List.find?_cons, hpb, hab]
        · rw [List.find?_cons_of_neg (by simpa using hpb), List.find?_cons_of_neg (by simpa using hpb)]
          exact this
  · rw [if_neg h]
    unfold look
    rw [List.find?_append]
    by_cases hb : a = b
    · subst hb
      have : m.find? (fun p => decide (p.1 = a)) = none := by
        rw [List.find?_eq_none]
        intro q hq e
        exact h (List.any_eq_true.mpr ⟨q, hq, e⟩)
      rw [this]
      simp
    · rw [if_neg hb, List.find?_cons_of_neg (by simpa using hb)]
      simp
omit he in
theorem putM_len (m : List (α × D)) (a : α) (v : D) : (putM m a v).length ≤ m.length + 1 := by
  unfold putM
  split
  · simp
  · simp
theorem put_dict (m : List (α × D)) (a : α) (v : D) (h1 : keyK (enc a) = true) (h2 : ∀ b, isTupD (enc b) = isTupD (enc a)) (hl : m.length < 1000000) : putD (.dict (encM enc m)) (enc a) v = some (.dict (encM enc (putM m a v))) := by
  have hk : kindK (encM enc m) (enc a) = true := by
    unfold kindK encM
    rw [List.all_map, List.all_eq_true]
    intro p _
    simp [h2 p.1]
  have hc : (keyK (enc a) && kindK (encM enc m) (enc a) && decide ((encM enc m).length < SL)) = true := by
    rw [h1, hk, Bool.true_and, Bool.true_and, decide_eq_true]
    unfold encM
    rw [List.length_map]
    exact Nat.lt_trans hl sl_big
  show (if (keyK (enc a) && kindK (encM enc m) (enc a) && decide ((encM enc m).length < SL)) = true then some (PyData.dict (putK (encM enc m) (enc a) v)) else none) = _
  rw [if_pos hc, putK_enc he]
theorem ix_dict' (m : List (α × D)) (a : α) (h1 : keyK (enc a) = true) (h2 : ∀ b, isTupD (enc b) = isTupD (enc a)) : ixD (.dict (encM enc m)) (enc a) = look m a := by
  have hk : kindK (encM enc m) (enc a) = true := by
    unfold kindK encM
    rw [List.all_map, List.all_eq_true]
    intro p _
    simp [h2 p.1]
  show (if (keyK (enc a) && kindK (encM enc m) (enc a)) = true then getK (encM enc m) (enc a) else none) = _
  rw [h1, hk, Bool.true_and, if_pos rfl, getK_enc he]
end
/-- tuples of numbers as keys -/
abbrev eT (l : List Nat) : D := .tuple (eNs l)
theorem eqv_eT (a b : List Nat) : PyData.eqv (eT a) (eT b) = decide (a = b) := by
  have e : ∀ l : List Nat, eT l = keyT (l.map fun n : Nat => (Sum.inl (n : Int) : L2.Key)) := fun l => by
    show PyData.tuple _ = PyData.tuple _
    rw [List.map_map]
    rfl
  rw [e, e, eqv_keyT]
  have inj : (a.map fun n : Nat => (Sum.inl (n : Int) : L2.Key)) = (b.map fun n : Nat => (Sum.inl (n : Int) : L2.Key)) ↔ a = b := by
    constructor
    · intro h
      have := List.map_inj_right (f := fun n : Nat => (Sum.inl (n : Int) : L2.Key)) (l := a) (l' := b) (fun x y hxy => by
        injection hxy with h
        exact Int.ofNat.inj h)
      exact this.mp h
    · intro h; rw [h]
  by_cases h : a = b
  · rw [decide_eq_true h, decide_eq_true (inj.mpr h)]
  · rw [decide_eq_false h, decide_eq_false fun e => h (inj.mp e)]
theorem key_eT (a : List Nat) : keyK (eT a) = true := by
  show (eNs a).all flatK = true
  rw [List.all_eq_true]
  intro x hx
  obtain ⟨n, _, rfl⟩ := List.mem_map.mp hx
  rfl
theorem enum_map (ws : List Nat) : enumL (eNs ws) = (List.range ws.length).map fun p => .tuple [eN p, eN (ws.getD p 0)] := by
  apply List.ext_getElem
  · simp [enumL]
  · intro i h1 h2
    have hi : i < ws.length := by simpa using h2
    simp [enumL, hi]
end PC

namespace LW
open PySem PySem.Spec PyProof.Rows L2 PC
/-! ### the text by places -/
def top (i : Nat) : Stmt := PySem.Challenge.pw_stoneward_k88_whole_wells_dug_by_turns.main.body.getD i (.Pass ⟨0, 0, 0, 0⟩)
def sts : List Stmt := [top 1, top 2, top 3, top 4, top 6, top 7, top 8, top 9, top 10, top 11, top 12, top 13, top 14, top 15, top 16]
def C_worths_to_1 : PC.C := .lc (.n 5) (.it (.var 1)) (.cmp .LtE (.var 5) (.var 3)) (.ix (.bor 2) (.bin .Sub (.var 3) (.var 5))) [5]
def C_worths_to_2 : PC.C := .lc (.n 6) (.rng1 (.bin .Add (.bi .len (.cons (.var 4) (.nil))) (.int 1))) (.cmp .NotIn (.var 6) (.var 4)) (.var 6) [6]
def B_worths_to_1 : S :=
  .cons (.asg (.n 4) (C_worths_to_1))
  (.cons (.app 2 (.ix (C_worths_to_2) (.int 0)))
  (.nil))
def L_worths_to_1 : S := .forr (.n 3) (.rng1 (.bin .Add (.var 0) (.int 1))) B_worths_to_1 [2]
def b_worths_to : S :=
  .cons (.asg (.n 2) (.lst (.nil)))
  (.cons (L_worths_to_1)
  (.cons (.frz 2)
  (.cons (.ret (.var 2))
  (.nil))))
def t_worths_to : Told := ⟨"worths_to", ["depth", "digs", "worths", "deep", "near", "dig", "worth"], [2], ⟨2, 7, b_worths_to⟩⟩
def b_worth_at : S :=
  .cons (.ret (.ix (.call 0 (.cons (.var 0) (.cons (.var 1) (.nil)))) (.neg (.int 1))))
  (.nil)
def t_worth_at : Told := ⟨"worth_at", ["depth", "digs"], [], ⟨2, 2, b_worth_at⟩⟩
def B_joined_worth_1 : S :=
  .cons (.asg (.n 2) (.bin .BitXor (.var 2) (.call 1 (.cons (.var 3) (.cons (.var 1) (.nil))))))
  (.nil)
def L_joined_worth_1 : S := .forr (.n 3) (.it (.var 0)) B_joined_worth_1 []
def b_joined_worth : S :=
  .cons (.asg (.n 2) (.int 0))
  (.cons (L_joined_worth_1)
  (.cons (.ret (.var 2))
  (.nil)))
def t_joined_worth : Told := ⟨"joined_worth", ["wells", "digs", "joined", "depth"], [], ⟨2, 4, b_joined_worth⟩⟩
def B_told_dig_2 : S :=
  .cons (.ifs (.bop .And (.cons (.cmp .LtE (.var 4) (.var 3)) (.cons (.cmp .Eq (.call 2 (.cons (.bin .Add (.bin .Add (.sl (.var 0) (.nil) (.cons (.var 2) (.nil))) (.tup (.cons (.bin .Sub (.var 3) (.var 4)) (.nil)))) (.sl (.var 0) (.cons (.bin .Add (.var 2) (.int 1)) (.nil)) (.nil))) (.cons (.var 1) (.nil)))) (.int 0)) (.nil)))) (.cons (.ret (.tup (.cons (.var 2) (.cons (.var 4) (.nil)))))
    (.nil)) (.nil))
  (.nil)
def L_told_dig_2 : S := .forr (.n 4) (.it (.var 1)) B_told_dig_2 []
def B_told_dig_1 : S :=
  .cons (L_told_dig_2)
  (.nil)
def L_told_dig_1 : S := .forr (.cons (.n 2) (.cons (.n 3) (.nil))) (.enm (.var 0)) B_told_dig_1 []
def b_told_dig : S :=
  .cons (.ifs (.cmp .Eq (.call 2 (.cons (.var 0) (.cons (.var 1) (.nil)))) (.int 0)) (.cons (.ret (.non))
    (.nil)) (.nil))
  (.cons (L_told_dig_1)
  (.cons (.ret (.non))
  (.nil)))
def t_told_dig : Told := ⟨"told_dig", ["wells", "digs", "place", "depth", "dig"], [], ⟨2, 5, b_told_dig⟩⟩
def b__law_cell : S :=
  .cons (.ifs (.cmp .Lt (.var 1) (.bi .len (.cons (.var 0) (.nil)))) (.cons (.ret (.ix (.var 0) (.var 1)))
    (.nil)) (.nil))
  (.cons (.ret (.bin .Add (.bin .Mult (.int 5) (.var 1)) (.int 3)))
  (.nil))
def t__law_cell : Told := ⟨"_law_cell", ["script", "k"], [], ⟨2, 2, b__law_cell⟩⟩
def B_q_draws_1 : S :=
  .cons (.ifs (.bop .And (.cons (.var 3) (.cons (.cmp .Gt (.var 2) (.int 0)) (.nil)))) (.cons (.app 5 (.bin .Mod (.bi .int (.cons (.var 2) (.nil))) (.int 5040)))
    (.cons (.asg (.n 2) (.bin .FloorDiv (.var 2) (.int 5040)))
    (.nil))) (.cons (.asg (.n 7) (.bin .Mod (.bi .int (.cons (.bin .Add (.bin .Add (.bin .Mult (.var 4) (.int 48271)) (.bin .Mult (.bin .Add (.var 6) (.int 1)) (.int 69621))) (.int 11)) (.nil))) (.int 2147483647)))
    (.cons (.asg (.n 7) (.bin .Mod (.bi .int (.cons (.bin .Add (.bin .Mult (.var 7) (.var 7)) (.bin .Mult (.int 40692) (.bin .Add (.var 6) (.int 3)))) (.nil))) (.int 2147483399)))
    (.cons (.app 5 (.bin .Mod (.bi .int (.cons (.bin .FloorDiv (.var 7) (.int 64)) (.nil))) (.int 5040)))
    (.nil)))))
  (.nil)
def L_q_draws_1 : S := .forr (.n 6) (.rng1 (.var 1)) B_q_draws_1 [5]
def b__law_draws : S :=
  .cons (.asg (.n 2) (.bi .abs (.cons (.bi .int (.cons (.var 0) (.nil))) (.nil))))
  (.cons (.asg (.n 3) (.cmp .GtE (.var 2) (.bin .Pow (.int 10) (.int 18))))
  (.cons (.asg (.n 4) (.var 2))
  (.cons (.asg (.n 5) (.lst (.nil)))
  (.cons (L_q_draws_1)
  (.cons (.frz 5)
  (.cons (.ret (.var 5))
  (.nil)))))))
def t__law_draws : Told := ⟨"_law_draws", ["cell", "count", "rest", "digits", "seed", "draws", "k", "mixed"], [5], ⟨2, 8, b__law_draws⟩⟩
def b__law_is_integer : S :=
  .cons (.ret (.bop .And (.cons (.isi (.var 0) .int) (.cons (.nt (.isi (.var 0) .bool)) (.nil)))))
  (.nil)
def t__law_is_integer : Told := ⟨"_law_is_integer", ["value"], [], ⟨1, 1, b__law_is_integer⟩⟩
def C_q_is_1 : PC.C := .lc (.n 2) (.rng1 (.bi .len (.cons (.var 1) (.nil)))) (.yes) (.call 7 (.cons (.ix (.var 0) (.var 2)) (.cons (.ix (.var 1) (.var 2)) (.nil)))) [2]
def b__law_is : S :=
  .cons (.ifs (.isn (.var 1)) (.cons (.ret (.isn (.var 0)))
    (.nil)) (.nil))
  (.cons (.ifs (.isi (.var 1) .bool) (.cons (.ret (.bop .And (.cons (.isi (.var 0) .bool) (.cons (.cmp .Eq (.var 0) (.var 1)) (.nil)))))
    (.nil)) (.nil))
  (.cons (.ifs (.isi (.var 1) .int) (.cons (.ret (.bop .And (.cons (.call 6 (.cons (.var 0) (.nil))) (.cons (.cmp .Eq (.var 0) (.var 1)) (.nil)))))
    (.nil)) (.nil))
  (.cons (.ifs (.isi (.var 1) .str) (.cons (.ret (.bop .And (.cons (.isi (.var 0) .str) (.cons (.cmp .Eq (.var 0) (.var 1)) (.nil)))))
    (.nil)) (.nil))
  (.cons (.ifs (.bop .Or (.cons (.nt (.isi (.var 0) .tuple)) (.cons (.cmp .NotEq (.bi .len (.cons (.var 0) (.nil))) (.bi .len (.cons (.var 1) (.nil)))) (.nil)))) (.cons (.ret (.bl false))
    (.nil)) (.nil))
  (.cons (.ret (.bi .all (.cons (C_q_is_1) (.nil))))
  (.nil))))))
def t__law_is : Told := ⟨"_law_is", ["value", "due", "at"], [], ⟨2, 3, b__law_is⟩⟩
def C_q_worths_1 : PC.C := .lc (.n 7) (.it (.var 1)) (.cmp .LtE (.var 7) (.var 3)) (.ix (.bor 2) (.bin .Sub (.var 3) (.var 7))) [7]
def B_q_worths_2 : S :=
  .cons (.asg (.n 5) (.ite (.cmp .In (.var 5) (.var 4)) (.bin .Add (.var 5) (.int 1)) (.var 5)))
  (.nil)
def L_q_worths_2 : S := .forr (.n 6) (.rng1 (.bi .len (.cons (.var 4) (.nil)))) B_q_worths_2 [2]
def B_q_worths_1 : S :=
  .cons (.asg (.n 4) (C_q_worths_1))
  (.cons (.asg (.n 5) (.int 0))
  (.cons (L_q_worths_2)
  (.cons (.app 2 (.var 5))
  (.nil))))
def L_q_worths_1 : S := .forr (.n 3) (.rng1 (.bin .Add (.var 0) (.int 1))) B_q_worths_1 [2]
def b__law_worths : S :=
  .cons (.asg (.n 2) (.lst (.nil)))
  (.cons (L_q_worths_1)
  (.cons (.frz 2)
  (.cons (.ret (.var 2))
  (.nil))))
def t__law_worths : Told := ⟨"_law_worths", ["depth", "digs", "worths", "deep", "near", "least", "turn", "dig"], [2], ⟨2, 8, b__law_worths⟩⟩
def C_q_joined_1 : PC.C := .lc (.n 4) (.it (.var 0)) (.cmp .Eq (.bin .Mod (.bi .int (.cons (.bin .FloorDiv (.var 4) (.var 2)) (.nil))) (.int 2)) (.int 1)) (.var 4) [4]
def B_q_joined_1 : S :=
  .cons (.asg (.n 3) (.bi .len (.cons (C_q_joined_1) (.nil))))
  (.cons (.asg (.n 1) (.bin .Add (.var 1) (.bin .Mult (.var 2) (.bin .Sub (.var 3) (.bin .Mult (.int 2) (.bin .FloorDiv (.var 3) (.int 2)))))))
  (.nil))
def L_q_joined_1 : S := .forr (.n 2) (.it (.tup (.cons (.int 1) (.cons (.int 2) (.cons (.int 4) (.cons (.int 8) (.nil))))))) B_q_joined_1 []
def b__law_joined : S :=
  .cons (.asg (.n 1) (.int 0))
  (.cons (L_q_joined_1)
  (.cons (.ret (.var 1))
  (.nil)))
def t__law_joined : Told := ⟨"_law_joined", ["worths", "total", "power", "odd", "worth"], [], ⟨1, 5, b__law_joined⟩⟩
def B_q_after_2 : S :=
  .cons (.ifs (.cmp .LtE (.var 4) (.ix (.var 0) (.var 3))) (.cons (.app 2 (.tup (.cons (.tup (.cons (.var 3) (.cons (.var 4) (.nil)))) (.cons (.bin .Add (.bin .Add (.sl (.var 0) (.nil) (.cons (.var 3) (.nil))) (.tup (.cons (.bin .Sub (.ix (.var 0) (.var 3)) (.var 4)) (.nil)))) (.sl (.var 0) (.cons (.bin .Add (.var 3) (.int 1)) (.nil)) (.nil))) (.nil)))))
    (.nil)) (.nil))
  (.nil)
def L_q_after_2 : S := .forr (.n 4) (.it (.var 1)) B_q_after_2 [2]
def B_q_after_1 : S :=
  .cons (L_q_after_2)
  (.nil)
def L_q_after_1 : S := .forr (.n 3) (.rng1 (.bi .len (.cons (.var 0) (.nil)))) B_q_after_1 [2]
def b__law_after : S :=
  .cons (.asg (.n 2) (.lst (.nil)))
  (.cons (L_q_after_1)
  (.cons (.frz 2)
  (.cons (.ret (.var 2))
  (.nil))))
def t__law_after : Told := ⟨"_law_after", ["wells", "digs", "found", "place", "dig"], [2], ⟨2, 5, b__law_after⟩⟩
def C_q_wins_1 : PC.C := .lc (.n 8) (.rng1 (.bin .Add (.var 3) (.int 1))) (.yes) (.bin .Add (.var 7) (.tup (.cons (.var 8) (.nil)))) [8]
def B_q_wins_2 : S :=
  .cons (.asg (.n 6) (.bin .Add (.var 6) (C_q_wins_1)))
  (.nil)
def L_q_wins_2 : S := .forr (.n 7) (.it (.var 2)) B_q_wins_2 []
def B_q_wins_1 : S :=
  .cons (.asg (.n 6) (.lst (.nil)))
  (.cons (L_q_wins_2)
  (.cons (.asg (.n 2) (.var 6))
  (.nil)))
def L_q_wins_1 : S := .forr (.n 3) (.it (.var 0)) B_q_wins_1 []
def C_q_wins_2 : PC.C := .lc (.n 9) (.it (.call 10 (.cons (.var 5) (.cons (.var 1) (.nil))))) (.nt (.ix (.bor 4) (.ix (.var 9) (.int 1)))) (.var 9) [9]
def B_q_wins_3 : S :=
  .cons (.put 4 (.var 5) (.cmp .Gt (.bi .len (.cons (C_q_wins_2) (.nil))) (.int 0)))
  (.nil)
def L_q_wins_3 : S := .forr (.n 5) (.it (.var 2)) B_q_wins_3 [4]
def b__law_wins : S :=
  .cons (.asg (.n 2) (.lst (.cons (.tup (.nil)) (.nil))))
  (.cons (L_q_wins_1)
  (.cons (.asg (.n 4) (.dic0))
  (.cons (L_q_wins_3)
  (.cons (.frz 4)
  (.cons (.ret (.var 4))
  (.nil))))))
def t__law_wins : Told := ⟨"_law_wins", ["wells", "digs", "every", "depth", "wins", "one", "longer", "row", "deep", "pair"], [4], ⟨2, 10, b__law_wins⟩⟩
def C_q_asked_1 : PC.C := .lc (.n 5) (.it (.call 10 (.cons (.var 0) (.cons (.var 1) (.nil))))) (.nt (.ix (.var 2) (.ix (.var 5) (.int 1)))) (.ix (.var 5) (.int 0)) [5]
def C_q_asked_2 : PC.C := .lc (.n 6) (.it (.var 0)) (.yes) (.ix (.call 8 (.cons (.var 6) (.cons (.var 1) (.nil)))) (.var 6)) [6]
def b__law_asked : S :=
  .cons (.asg (.n 2) (.call 11 (.cons (.var 0) (.cons (.var 1) (.nil)))))
  (.cons (.asg (.n 3) (C_q_asked_1))
  (.cons (.asg (.n 4) (.call 9 (.cons (C_q_asked_2) (.nil))))
  (.cons (.ifs (.bop .Or (.cons (.cmp .NotEq (.cmp .NotEq (.var 4) (.int 0)) (.ix (.var 2) (.var 0))) (.cons (.cmp .NotEq (.cmp .Gt (.bi .len (.cons (.var 3) (.nil))) (.int 0)) (.ix (.var 2) (.var 0))) (.nil)))) (.cons (.ret (.bl false))
    (.nil)) (.nil))
  (.cons (.ifs (.nt (.call 7 (.cons (.call 2 (.cons (.var 0) (.cons (.var 1) (.nil)))) (.cons (.var 4) (.nil))))) (.cons (.ret (.bl false))
    (.nil)) (.nil))
  (.cons (.ret (.call 7 (.cons (.call 3 (.cons (.var 0) (.cons (.var 1) (.nil)))) (.cons (.ite (.cmp .Gt (.bi .len (.cons (.var 3) (.nil))) (.int 0)) (.bi .min (.cons (.var 3) (.nil))) (.non)) (.nil)))))
  (.nil))))))
def t__law_asked : Told := ⟨"_law_asked", ["wells", "digs", "wins", "digged", "joined", "pair", "depth"], [], ⟨2, 7, b__law_asked⟩⟩
def B_q_case_1 : S :=
  .cons (.put 1 (.bin .Add (.int 1) (.bin .Mod (.bi .int (.cons (.ix (.var 0) (.bin .Add (.int 1) (.var 2))) (.nil))) (.ix (.tup (.cons (.int 5) (.cons (.int 3) (.nil)))) (.bin .Mod (.bi .int (.cons (.ix (.var 0) (.int 12)) (.nil))) (.int 2))))) (.bl true))
  (.nil)
def L_q_case_1 : S := .forr (.n 2) (.rng1 (.bin .Mod (.bi .int (.cons (.ix (.var 0) (.int 0)) (.nil))) (.int 4))) B_q_case_1 [1]
def C_q_case_1 : PC.C := .lc (.n 2) (.rng1 (.bin .Mod (.bi .int (.cons (.ix (.var 0) (.int 4)) (.nil))) (.int 4))) (.yes) (.bin .Mod (.bi .int (.cons (.ix (.var 0) (.bin .Add (.int 5) (.var 2))) (.nil))) (.int 8)) [2]
def C_q_case_2 : PC.C := .lc (.n 10) (.it (.var 3)) (.cmp .Gt (.var 10) (.int 1)) (.var 10) [10]
def C_q_case_3 : PC.C := .lc (.n 2) (.rng1 (.int 4)) (.yes) (.bin .Mod (.bi .int (.cons (.ix (.var 0) (.bin .Add (.int 8) (.var 2))) (.nil))) (.int 21)) [2]
def C_q_case_4 : PC.C := .lc (.n 9) (.it (.var 6)) (.yes) (.ix (.call 8 (.cons (.var 9) (.cons (.var 3) (.nil)))) (.var 9)) [9]
def C_q_case_5 : PC.C := .lc (.n 9) (.rng1 (.int 21)) (.nt (.call 7 (.cons (.call 1 (.cons (.var 9) (.cons (.var 3) (.nil)))) (.cons (.ix (.var 8) (.var 9)) (.nil))))) (.var 9) [9]
def b__law_case : S :=
  .cons (.asg (.n 1) (.dic0))
  (.cons (L_q_case_1)
  (.cons (.asg (.n 3) (.bi .tuple (.cons (.bi .sorted (.cons (.bor 1) (.nil))) (.nil))))
  (.cons (.asg (.n 4) (.bi .tuple (.cons (C_q_case_1) (.nil))))
  (.cons (.ifs (.bop .Or (.cons (.nt (.call 12 (.cons (.var 4) (.cons (.var 3) (.nil))))) (.cons (.nt (.call 12 (.cons (.sl (.var 4) (.nil) (.cons (.int 2) (.nil))) (.cons (.bin .Add (.tup (.cons (.int 1) (.nil))) (.bi .tuple (.cons (C_q_case_2) (.nil)))) (.nil))))) (.nil)))) (.cons (.ret (.bl false))
    (.nil)) (.nil))
  (.cons (.asg (.n 5) (.ite (.cmp .Gt (.bi .len (.cons (.var 4) (.nil))) (.int 0)) (.bin .Add (.sl (.var 4) (.nil) (.cons (.int 1) (.nil))) (.sl (.var 4) (.nil) (.cons (.int 1) (.nil)))) (.tup (.cons (.int 3) (.cons (.int 3) (.nil))))))
  (.cons (.ifs (.bop .Or (.cons (.nt (.call 12 (.cons (.var 5) (.cons (.var 3) (.nil))))) (.cons (.isnn (.call 3 (.cons (.var 5) (.cons (.var 3) (.nil))))) (.cons (.isn (.call 3 (.cons (.tup (.cons (.int 5) (.nil))) (.cons (.tup (.cons (.int 1) (.cons (.int 2) (.cons (.int 5) (.nil))))) (.nil))))) (.nil))))) (.cons (.ret (.bl false))
    (.nil)) (.nil))
  (.cons (.asg (.n 6) (.bi .tuple (.cons (C_q_case_3) (.nil))))
  (.cons (.asg (.n 7) (.call 9 (.cons (C_q_case_4) (.nil))))
  (.cons (.ifs (.bop .Or (.cons (.nt (.call 7 (.cons (.call 2 (.cons (.var 6) (.cons (.var 3) (.nil)))) (.cons (.var 7) (.nil))))) (.cons (.cmp .NotEq (.isn (.call 3 (.cons (.var 6) (.cons (.var 3) (.nil))))) (.cmp .Eq (.var 7) (.int 0))) (.nil)))) (.cons (.ret (.bl false))
    (.nil)) (.nil))
  (.cons (.asg (.n 8) (.call 8 (.cons (.int 20) (.cons (.var 3) (.nil)))))
  (.cons (.ret (.cmp .Eq (.bi .len (.cons (C_q_case_5) (.nil))) (.int 0)))
  (.nil))))))))))))
def t__law_case : Told := ⟨"_law_case", ["draws", "known", "at", "digs", "wells", "same", "deep", "joined", "worths", "depth", "dig"], [1], ⟨1, 11, b__law_case⟩⟩
def B_law_1 : S :=
  .cons (.ifs (.nt (.call 13 (.cons (.call 5 (.cons (.call 4 (.cons (.var 0) (.cons (.var 1) (.nil)))) (.cons (.int 13) (.nil)))) (.nil)))) (.cons (.ret (.bl false))
    (.nil)) (.nil))
  (.nil)
def L_law_1 : S := .forr (.n 1) (.rng1 (.int 3)) B_law_1 []
def b_law : S :=
  .cons (L_law_1)
  (.cons (.ret (.bl true))
  (.nil))
def t_law : Told := ⟨"law", ["script", "k"], [], ⟨1, 2, b_law⟩⟩
def told : List Told := [t_worths_to, t_worth_at, t_joined_worth, t_told_dig, t__law_cell, t__law_draws, t__law_is_integer, t__law_is, t__law_worths, t__law_joined, t__law_after, t__law_wins, t__law_asked, t__law_case, t_law]
theorem checked : ((told.zip sts).all fun p => ckD (told.map Told.name) p.1 p.2) = true := by decide +kernel
theorem stand {K : PySem.W.Frag} {mg : Str → Option Value}
    (a0 : At K mg "worths_to" "worths_to" (top 1))
    (a1 : At K mg "worth_at" "worth_at" (top 2))
    (a2 : At K mg "joined_worth" "joined_worth" (top 3))
    (a3 : At K mg "told_dig" "told_dig" (top 4))
    (a4 : At K mg "_law_cell" "_law_cell" (top 6))
    (a5 : At K mg "_law_draws" "_law_draws" (top 7))
    (a6 : At K mg "_law_is_integer" "_law_is_integer" (top 8))
    (a7 : At K mg "_law_is" "_law_is" (top 9))
    (a8 : At K mg "_law_worths" "_law_worths" (top 10))
    (a9 : At K mg "_law_joined" "_law_joined" (top 11))
    (a10 : At K mg "_law_after" "_law_after" (top 12))
    (a11 : At K mg "_law_wins" "_law_wins" (top 13))
    (a12 : At K mg "_law_asked" "_law_asked" (top 14))
    (a13 : At K mg "_law_case" "_law_case" (top 15))
    (a14 : At K mg "law" "law" (top 16))
    : Stand K mg told sts := by
  intro i d st hd hst
  match i, hd, hst with
  | 0, hd, hst => cases hd; cases hst; obtain ⟨f, fd, m, F⟩ := a0; exact ⟨f, fd, _, m, F, be_of F fun _ _ _ _ _ _ us hl => match us, hl with | [_, _], _ => rfl⟩
  | 1, hd, hst => cases hd; cases hst; obtain ⟨f, fd, m, F⟩ := a1; exact ⟨f, fd, _, m, F, be_of F fun _ _ _ _ _ _ us hl => match us, hl with | [_, _], _ => rfl⟩
  | 2, hd, hst => cases hd; cases hst; obtain ⟨f, fd, m, F⟩ := a2; exact ⟨f, fd, _, m, F, be_of F fun _ _ _ _ _ _ us hl => match us, hl with | [_, _], _ => rfl⟩
  | 3, hd, hst => cases hd; cases hst; obtain ⟨f, fd, m, F⟩ := a3; exact ⟨f, fd, _, m, F, be_of F fun _ _ _ _ _ _ us hl => match us, hl with | [_, _], _ => rfl⟩
  | 4, hd, hst => cases hd; cases hst; obtain ⟨f, fd, m, F⟩ := a4; exact ⟨f, fd, _, m, F, be_of F fun _ _ _ _ _ _ us hl => match us, hl with | [_, _], _ => rfl⟩
  | 5, hd, hst => cases hd; cases hst; obtain ⟨f, fd, m, F⟩ := a5; exact ⟨f, fd, _, m, F, be_of F fun _ _ _ _ _ _ us hl => match us, hl with | [_, _], _ => rfl⟩
  | 6, hd, hst => cases hd; cases hst; obtain ⟨f, fd, m, F⟩ := a6; exact ⟨f, fd, _, m, F, be_of F fun _ _ _ _ _ _ us hl => match us, hl with | [_], _ => rfl⟩
  | 7, hd, hst => cases hd; cases hst; obtain ⟨f, fd, m, F⟩ := a7; exact ⟨f, fd, _, m, F, be_of F fun _ _ _ _ _ _ us hl => match us, hl with | [_, _], _ => rfl⟩
  | 8, hd, hst => cases hd; cases hst; obtain ⟨f, fd, m, F⟩ := a8; exact ⟨f, fd, _, m, F, be_of F fun _ _ _ _ _ _ us hl => match us, hl with | [_, _], _ => rfl⟩
  | 9, hd, hst => cases hd; cases hst; obtain ⟨f, fd, m, F⟩ := a9; exact ⟨f, fd, _, m, F, be_of F fun _ _ _ _ _ _ us hl => match us, hl with | [_], _ => rfl⟩
  | 10, hd, hst => cases hd; cases hst; obtain ⟨f, fd, m, F⟩ := a10; exact ⟨f, fd, _, m, F, be_of F fun _ _ _ _ _ _ us hl => match us, hl with | [_, _], _ => rfl⟩
  | 11, hd, hst => cases hd; cases hst; obtain ⟨f, fd, m, F⟩ := a11; exact ⟨f, fd, _, m, F, be_of F fun _ _ _ _ _ _ us hl => match us, hl with | [_, _], _ => rfl⟩
  | 12, hd, hst => cases hd; cases hst; obtain ⟨f, fd, m, F⟩ := a12; exact ⟨f, fd, _, m, F, be_of F fun _ _ _ _ _ _ us hl => match us, hl with | [_, _], _ => rfl⟩
  | 13, hd, hst => cases hd; cases hst; obtain ⟨f, fd, m, F⟩ := a13; exact ⟨f, fd, _, m, F, be_of F fun _ _ _ _ _ _ us hl => match us, hl with | [_], _ => rfl⟩
  | 14, hd, hst => cases hd; cases hst; obtain ⟨f, fd, m, F⟩ := a14; exact ⟨f, fd, _, m, F, be_of F fun _ _ _ _ _ _ us hl => match us, hl with | [_], _ => rfl⟩
  | n + 15, hd, hst => simp [told] at hd
end LW

namespace LW
open PySem PC
abbrev P : List Df := told.map Told.df
abbrev R (W n : Nat) := run P W n
/-! ### the worths -/
def near (digs l : List Nat) (k : Nat) : List Nat := (digs.filter fun d => decide (d ≤ k)).map fun d => l.getD (k - d) 0
def wl (digs : List Nat) : Nat → List Nat
  | 0 => []
  | k + 1 => wl digs k ++ [mx (near digs (wl digs k) k)]
theorem wl_len (digs : List Nat) : ∀ k, (wl digs k).length = k
  | 0 => rfl
  | k + 1 => by rw [wl, List.length_append, wl_len digs k]; rfl
def Pos (digs : List Nat) : Prop := ∀ d ∈ digs, 1 ≤ d ∧ d < 1000
theorem near_comp {digs : List Nat} (hp : Pos digs) (hl : digs.length < 1000) (Φ : Nat → List D → Option D) (t cond elt : C) (vs : List Nat) (tg : T) (ρ : PC.Env) (k : Nat) (h : ∀ d ∈ digs, compF (ev Φ cond) (ev Φ elt) tg vs ρ (eN d) = some (if decide (d ≤ k) = true then some (eN ((wl digs k).getD (k - d) 0)) else none)) :
    lcX Φ tg cond elt vs (some (eNs digs)) ρ = some (.list (eNs (near digs (wl digs k) k))) := by
  rw [lcX_map eN (fun d => decide (d ≤ k)) (fun d => eN ((wl digs k).getD (k - d) 0)) (Nat.le_of_lt (Nat.lt_trans hl (by decide))) h]
  unfold near eNs
  rw [List.map_map]
  rfl
theorem getD_lt {l : List Nat} {i : Nat} (h : i < l.length) : l.getD i 0 = l[i] := by simp [h]
theorem near_len (digs l : List Nat) (k : Nat) : (near digs l k).length ≤ digs.length := by
  unfold near
  rw [List.length_map]
  exact List.length_filter_le _ _
theorem wt_C1 (Φ : Nat → List D → Option D) (a : D) {digs : List Nat} (hp : Pos digs) (hl : digs.length < 1000) (k : Nat) (p q r : Option D) :
    ev Φ C_worths_to_1 [some a, some (.tuple (eNs digs)), some (.list (eNs (wl digs k))), some (eN k), p, q, r] = some (.list (eNs (near digs (wl digs k) k))) := by
  rw [C_worths_to_1, e_lc, es_it, e_var, getE_succ, getE_zero, onI_some, u_itT]
  refine near_comp hp hl Φ .nil _ _ _ _ _ k fun d hd => ?_
  have hb : bindT (.n 5) (eN d) (wipeE [some a, some (.tuple (eNs digs)), some (.list (eNs (wl digs k))), some (eN k), p, q, r] [5]) = some [some a, some (.tuple (eNs digs)), some (.list (eNs (wl digs k))), some (eN k), p, some (eN d), r] := by simp [bindT, wipeE]
  by_cases h : d ≤ k
  · rw [if_pos (decide_eq_true h)]
    have h2 : k - d < (wl digs k).length := by rw [wl_len]; have := (hp d hd).1; omega
    rw [getD_lt h2]
    refine compF_t hb ?_ ?_
    · simp -implicitDefEqProofs only [x_nil, x_cons, x_pass, x_frz, x_asg, x_asgT, x_app, x_ext, x_put, x_aug, x_ret, x_ifs, seqX_nx, seqX_rt, ifX_t, ifX_f, asgX_some, retX_some, e_var, e_bor, e_int, e_bl, e_non, e_yes, e_str, e_bin, e_neg, e_nt, e_cmp, e_and, e_or, e_ite, e_call, e_bi, e_isi, e_ix, e_sl, e_tup, e_lst, e_dic, e_isn, e_isnn, es_nil, es_cons, es_it, es_rng1, es_rng2, es_enm, eb_one, eb_and, eb_or, eo_nil, eo_some, optI_int, op2_some, op1_some, onL_some, onI_some, consO_some, slX_some, tupX_nil, tupX_1, tupX_2, tupX_3, tupX_4, lstX_nil, negX_int, notX_bool, isnX_none, iteX_t, iteX_f, andX_t, andX_f, orX_t, orX_f, getE_zero, getE_succ, set_z, set_s, Option.map_some, Option.bind_some, mN_le, decide_eq_true h]
    · simp -implicitDefEqProofs only [x_nil, x_cons, x_pass, x_frz, x_asg, x_asgT, x_app, x_ext, x_put, x_aug, x_ret, x_ifs, seqX_nx, seqX_rt, ifX_t, ifX_f, asgX_some, retX_some, e_var, e_bor, e_int, e_bl, e_non, e_yes, e_str, e_bin, e_neg, e_nt, e_cmp, e_and, e_or, e_ite, e_call, e_bi, e_isi, e_ix, e_sl, e_tup, e_lst, e_dic, e_isn, e_isnn, es_nil, es_cons, es_it, es_rng1, es_rng2, es_enm, eb_one, eb_and, eb_or, eo_nil, eo_some, optI_int, op2_some, op1_some, onL_some, onI_some, consO_some, slX_some, tupX_nil, tupX_1, tupX_2, tupX_3, tupX_4, lstX_nil, negX_int, notX_bool, isnX_none, iteX_t, iteX_f, andX_t, andX_f, orX_t, orX_f, getE_zero, getE_succ, set_z, set_s, Option.map_some, Option.bind_some, bN_sub h, u_ixL, nth_eN _ h2]
  · rw [if_neg (by simp [h])]
    refine compF_f hb ?_
    simp -implicitDefEqProofs only [x_nil, x_cons, x_pass, x_frz, x_asg, x_asgT, x_app, x_ext, x_put, x_aug, x_ret, x_ifs, seqX_nx, seqX_rt, ifX_t, ifX_f, asgX_some, retX_some, e_var, e_bor, e_int, e_bl, e_non, e_yes, e_str, e_bin, e_neg, e_nt, e_cmp, e_and, e_or, e_ite, e_call, e_bi, e_isi, e_ix, e_sl, e_tup, e_lst, e_dic, e_isn, e_isnn, es_nil, es_cons, es_it, es_rng1, es_rng2, es_enm, eb_one, eb_and, eb_or, eo_nil, eo_some, optI_int, op2_some, op1_some, onL_some, onI_some, consO_some, slX_some, tupX_nil, tupX_1, tupX_2, tupX_3, tupX_4, lstX_nil, negX_int, notX_bool, isnX_none, iteX_t, iteX_f, andX_t, andX_f, orX_t, orX_f, getE_zero, getE_succ, set_z, set_s, Option.map_some, Option.bind_some, mN_le, decide_eq_false h]
theorem wt_C2 (Φ : Nat → List D → Option D) (a b c d : D) (nr : List Nat) (hl : nr.length < 1000) (q r : Option D) :
    ev Φ C_worths_to_2 [some a, some b, some c, some d, some (.list (eNs nr)), q, r] = some (.list (eNs ((List.range (nr.length + 1)).filter fun n => !decide (n ∈ nr)))) := by
  have hsm : rngX (eN (nr.length + 1)) = some (eNs (List.range (nr.length + 1))) := by rw [rngX_int (sm62 (by omega)), range_eN]
  have hlen : (eNs nr).length = nr.length := List.length_map _
  rw [C_worths_to_2, e_lc]
  simp -implicitDefEqProofs only [x_nil, x_cons, x_pass, x_frz, x_asg, x_asgT, x_app, x_ext, x_put, x_aug, x_ret, x_ifs, seqX_nx, seqX_rt, ifX_t, ifX_f, asgX_some, retX_some, e_var, e_bor, e_int, e_bl, e_non, e_yes, e_str, e_bin, e_neg, e_nt, e_cmp, e_and, e_or, e_ite, e_call, e_bi, e_isi, e_ix, e_sl, e_tup, e_lst, e_dic, e_isn, e_isnn, es_nil, es_cons, es_it, es_rng1, es_rng2, es_enm, eb_one, eb_and, eb_or, eo_nil, eo_some, optI_int, op2_some, op1_some, onL_some, onI_some, consO_some, slX_some, tupX_nil, tupX_1, tupX_2, tupX_3, tupX_4, lstX_nil, negX_int, notX_bool, isnX_none, iteX_t, iteX_f, andX_t, andX_f, orX_t, orX_f, getE_zero, getE_succ, set_z, set_s, Option.map_some, Option.bind_some, u_lenL, hlen, bN_add1, hsm]
  rw [lcX_map eN (fun n => !decide (n ∈ nr)) eN (by rw [List.length_range]; exact Nat.le_of_lt (Nat.lt_trans (by omega : nr.length + 1 < 1001) (by decide)))]
  intro n _
  have hb : bindT (.n 6) (eN n) (wipeE [some a, some b, some c, some d, some (.list (eNs nr)), q, r] [6]) = some [some a, some b, some c, some d, some (.list (eNs nr)), q, some (eN n)] := by simp [bindT, wipeE]
  cases h : decide (n ∈ nr) with
  | false =>
    rw [if_pos (by rfl)]
    refine compF_t hb ?_ ?_
    · simp -implicitDefEqProofs only [x_nil, x_cons, x_pass, x_frz, x_asg, x_asgT, x_app, x_ext, x_put, x_aug, x_ret, x_ifs, seqX_nx, seqX_rt, ifX_t, ifX_f, asgX_some, retX_some, e_var, e_bor, e_int, e_bl, e_non, e_yes, e_str, e_bin, e_neg, e_nt, e_cmp, e_and, e_or, e_ite, e_call, e_bi, e_isi, e_ix, e_sl, e_tup, e_lst, e_dic, e_isn, e_isnn, es_nil, es_cons, es_it, es_rng1, es_rng2, es_enm, eb_one, eb_and, eb_or, eo_nil, eo_some, optI_int, op2_some, op1_some, onL_some, onI_some, consO_some, slX_some, tupX_nil, tupX_1, tupX_2, tupX_3, tupX_4, lstX_nil, negX_int, notX_bool, isnX_none, iteX_t, iteX_f, andX_t, andX_f, orX_t, orX_f, getE_zero, getE_succ, set_z, set_s, Option.map_some, Option.bind_some, m_nin, h]
      rfl
    · simp -implicitDefEqProofs only [x_nil, x_cons, x_pass, x_frz, x_asg, x_asgT, x_app, x_ext, x_put, x_aug, x_ret, x_ifs, seqX_nx, seqX_rt, ifX_t, ifX_f, asgX_some, retX_some, e_var, e_bor, e_int, e_bl, e_non, e_yes, e_str, e_bin, e_neg, e_nt, e_cmp, e_and, e_or, e_ite, e_call, e_bi, e_isi, e_ix, e_sl, e_tup, e_lst, e_dic, e_isn, e_isnn, es_nil, es_cons, es_it, es_rng1, es_rng2, es_enm, eb_one, eb_and, eb_or, eo_nil, eo_some, optI_int, op2_some, op1_some, onL_some, onI_some, consO_some, slX_some, tupX_nil, tupX_1, tupX_2, tupX_3, tupX_4, lstX_nil, negX_int, notX_bool, isnX_none, iteX_t, iteX_f, andX_t, andX_f, orX_t, orX_f, getE_zero, getE_succ, set_z, set_s, Option.map_some, Option.bind_some]
  | true =>
    rw [if_neg (by simp)]
    refine compF_f hb ?_
    simp -implicitDefEqProofs only [x_nil, x_cons, x_pass, x_frz, x_asg, x_asgT, x_app, x_ext, x_put, x_aug, x_ret, x_ifs, seqX_nx, seqX_rt, ifX_t, ifX_f, asgX_some, retX_some, e_var, e_bor, e_int, e_bl, e_non, e_yes, e_str, e_bin, e_neg, e_nt, e_cmp, e_and, e_or, e_ite, e_call, e_bi, e_isi, e_ix, e_sl, e_tup, e_lst, e_dic, e_isn, e_isnn, es_nil, es_cons, es_it, es_rng1, es_rng2, es_enm, eb_one, eb_and, eb_or, eo_nil, eo_some, optI_int, op2_some, op1_some, onL_some, onI_some, consO_some, slX_some, tupX_nil, tupX_1, tupX_2, tupX_3, tupX_4, lstX_nil, negX_int, notX_bool, isnX_none, iteX_t, iteX_f, andX_t, andX_f, orX_t, orX_f, getE_zero, getE_succ, set_z, set_s, Option.map_some, Option.bind_some, m_nin, h]
    rfl
theorem wt_body (Φ : Nat → List D → Option D) (W : Nat) (a : D) {digs : List Nat} (hp : Pos digs) (hl : digs.length < 1000) (k : Nat) (hk : k < 1000) (p q r : Option D) :
    exec Φ W B_worths_to_1 [some a, some (.tuple (eNs digs)), some (.list (eNs (wl digs k))), some (eN k), p, q, r] = some (.nx [some a, some (.tuple (eNs digs)), some (.list (eNs (wl digs (k + 1)))), some (eN k), some (.list (eNs (near digs (wl digs k) k))), q, r]) := by
  have h1 := wt_C1 Φ a hp hl k p q r
  have hnl : (near digs (wl digs k) k).length < 1000 := Nat.lt_of_le_of_lt (near_len _ _ _) hl
  have h2 := wt_C2 Φ a (.tuple (eNs digs)) (.list (eNs (wl digs k))) (eN k) (near digs (wl digs k) k) hnl q r
  have h3 : nth (eNs ((List.range ((near digs (wl digs k) k).length + 1)).filter fun n => !decide (n ∈ near digs (wl digs k) k))) 0 = some (eN (mx (near digs (wl digs k) k))) := by
    have q := mx_first (near digs (wl digs k) k)
    obtain ⟨h, e⟩ := List.getElem?_eq_some_iff.mp q
    have z := nth_eN _ h
    rw [e] at z
    exact z
  have h4 : (eNs (wl digs k)).length < SL := by rw [List.length_map, wl_len]; exact Nat.lt_trans hk (by decide)
  simp -implicitDefEqProofs only [B_worths_to_1, x_nil, x_cons, x_pass, x_frz, x_asg, x_asgT, x_app, x_ext, x_put, x_aug, x_ret, x_ifs, seqX_nx, seqX_rt, ifX_t, ifX_f, asgX_some, retX_some, e_var, e_bor, e_int, e_bl, e_non, e_yes, e_str, e_bin, e_neg, e_nt, e_cmp, e_and, e_or, e_ite, e_call, e_bi, e_isi, e_ix, e_sl, e_tup, e_lst, e_dic, e_isn, e_isnn, es_nil, es_cons, es_it, es_rng1, es_rng2, es_enm, eb_one, eb_and, eb_or, eo_nil, eo_some, optI_int, op2_some, op1_some, onL_some, onI_some, consO_some, slX_some, tupX_nil, tupX_1, tupX_2, tupX_3, tupX_4, lstX_nil, negX_int, notX_bool, isnX_none, iteX_t, iteX_f, andX_t, andX_f, orX_t, orX_f, getE_zero, getE_succ, set_z, set_s, Option.map_some, Option.bind_some, h1, h2, u_ixL, h3, appX_some _ _ h4]
  rw [wl]
  simp
theorem wt_ok (W n : Nat) {digs : List Nat} (hp : Pos digs) (hl : digs.length < 1000) (k : Nat) (hk : k < 900) : R W (n + 1) 0 [eN k, .tuple (eNs digs)] = some (.list (eNs (wl digs (k + 1)))) := by
  refine run_eq (P := P) (d := t_worths_to.df) rfl rfl ?_
  show exec _ W b_worths_to [some (eN k), some (.tuple (eNs digs)), none, none, none, none, none] = _
  obtain ⟨ρ', e, p, q, r, s, rfl⟩ := forL_inv (f := fun x ρ => (bindT (.n 3) x ρ).bind (exec (run P W n) W B_worths_to_1)) (xs := eNs (List.range (k + 1)))
    (fun i ρ => ∃ p q r s : Option D, ρ = [some (eN k), some (.tuple (eNs digs)), some (.list (eNs (wl digs i))), p, q, r, s]) (by
      rintro i x ρ hx ⟨p, q, r, s, rfl⟩
      obtain ⟨j, hj, rfl⟩ : ∃ j, (List.range (k + 1))[i]? = some j ∧ eN j = x := by
        unfold eNs at hx
        rw [List.getElem?_map] at hx
        exact Option.map_eq_some_iff.mp hx
      obtain ⟨hlt, e⟩ := List.getElem?_eq_some_iff.mp hj
      rw [List.getElem_range] at e
      rw [List.length_range] at hlt
      subst e
      refine ⟨_, .inl ?_, some (eN i), some (.list (eNs (near digs (wl digs i) i))), r, s, rfl⟩
      have hb : bindT (.n 3) (eN i) [some (eN k), some (.tuple (eNs digs)), some (.list (eNs (wl digs i))), p, q, r, s] = some [some (eN k), some (.tuple (eNs digs)), some (.list (eNs (wl digs i))), some (eN i), q, r, s] := by simp [bindT]
      rw [hb, Option.bind_some]
      exact wt_body _ W _ hp hl i (by omega) q r s) [some (eN k), some (.tuple (eNs digs)), some (.list []), none, none, none, none] ⟨none, none, none, none, rfl⟩
  rw [show (eNs (List.range (k + 1))).length = k + 1 by simp] at e
  have hL : exec (run P W n) W L_worths_to_1 [some (eN k), some (.tuple (eNs digs)), some (.list []), none, none, none, none] = some (.nx [some (eN k), some (.tuple (eNs digs)), some (.list (eNs (wl digs (k + 1)))), p, q, r, s]) := by
    rw [L_worths_to_1, x_for]
    simp -implicitDefEqProofs only [x_nil, x_cons, x_pass, x_frz, x_asg, x_asgT, x_app, x_ext, x_put, x_aug, x_ret, x_ifs, seqX_nx, seqX_rt, ifX_t, ifX_f, asgX_some, retX_some, e_var, e_bor, e_int, e_bl, e_non, e_yes, e_str, e_bin, e_neg, e_nt, e_cmp, e_and, e_or, e_ite, e_call, e_bi, e_isi, e_ix, e_sl, e_tup, e_lst, e_dic, e_isn, e_isnn, es_nil, es_cons, es_it, es_rng1, es_rng2, es_enm, eb_one, eb_and, eb_or, eo_nil, eo_some, optI_int, op2_some, op1_some, onL_some, onI_some, consO_some, slX_some, tupX_nil, tupX_1, tupX_2, tupX_3, tupX_4, lstX_nil, negX_int, notX_bool, isnX_none, iteX_t, iteX_f, andX_t, andX_f, orX_t, orX_f, getE_zero, getE_succ, set_z, set_s, Option.map_some, Option.bind_some, bN_add1, rngX_int (sm62 (cnt := k + 1) (by omega)), range_eN, forX_some]
    exact e
  simp -implicitDefEqProofs only [b_worths_to, x_nil, x_cons, x_pass, x_frz, x_asg, x_asgT, x_app, x_ext, x_put, x_aug, x_ret, x_ifs, seqX_nx, seqX_rt, ifX_t, ifX_f, asgX_some, retX_some, e_var, e_bor, e_int, e_bl, e_non, e_yes, e_str, e_bin, e_neg, e_nt, e_cmp, e_and, e_or, e_ite, e_call, e_bi, e_isi, e_ix, e_sl, e_tup, e_lst, e_dic, e_isn, e_isnn, es_nil, es_cons, es_it, es_rng1, es_rng2, es_enm, eb_one, eb_and, eb_or, eo_nil, eo_some, optI_int, op2_some, op1_some, onL_some, onI_some, consO_some, slX_some, tupX_nil, tupX_1, tupX_2, tupX_3, tupX_4, lstX_nil, negX_int, notX_bool, isnX_none, iteX_t, iteX_f, andX_t, andX_f, orX_t, orX_f, getE_zero, getE_succ, set_z, set_s, Option.map_some, Option.bind_some, hL]
end LW

namespace LW
open PySem PC
def wt (digs : List Nat) (k : Nat) : Nat := mx (near digs (wl digs k) k)
theorem nth_last (xs : List D) (x : D) : nth (xs ++ [x]) (-1) = some x := by
  unfold nth
  rw [if_neg (by decide), if_pos (by simp; omega)]
  have : (-1 + ((xs ++ [x]).length : Int)).toNat = xs.length := by simp; omega
  rw [this]
  simp
theorem wl_succ (digs : List Nat) (k : Nat) : wl digs (k + 1) = wl digs k ++ [wt digs k] := rfl
theorem at_ok (W n : Nat) {digs : List Nat} (hp : Pos digs) (hl : digs.length < 1000) (k : Nat) (hk : k < 900) : R W (n + 2) 1 [eN k, .tuple (eNs digs)] = some (eN (wt digs k)) := by
  refine run_eq (P := P) (d := t_worth_at.df) rfl rfl ?_
  show exec _ W b_worth_at [some (eN k), some (.tuple (eNs digs))] = _
  have h := wt_ok W n hp hl k hk
  have h2 : ixD (.list (eNs (wl digs (k + 1)))) (.int (-1)) = some (eN (wt digs k)) := by
    rw [u_ixL, wl_succ]
    unfold eNs
    rw [List.map_append]
    exact nth_last _ _
  simp -implicitDefEqProofs only [b_worth_at, x_nil, x_cons, x_pass, x_frz, x_asg, x_asgT, x_app, x_ext, x_put, x_aug, x_ret, x_ifs, seqX_nx, seqX_rt, ifX_t, ifX_f, asgX_some, retX_some, e_var, e_bor, e_int, e_bl, e_non, e_yes, e_str, e_bin, e_neg, e_nt, e_cmp, e_and, e_or, e_ite, e_call, e_bi, e_isi, e_ix, e_sl, e_tup, e_lst, e_dic, e_isn, e_isnn, es_nil, es_cons, es_it, es_rng1, es_rng2, es_enm, eb_one, eb_and, eb_or, eo_nil, eo_some, optI_int, op2_some, op1_some, onL_some, onI_some, consO_some, slX_some, tupX_nil, tupX_1, tupX_2, tupX_3, tupX_4, lstX_nil, negX_int, notX_bool, isnX_none, iteX_t, iteX_f, andX_t, andX_f, orX_t, orX_f, getE_zero, getE_succ, set_z, set_s, Option.map_some, Option.bind_some, h, h2]
def jx (digs : List Nat) (ws : List Nat) : Nat := ws.foldl (fun a w => a ^^^ wt digs w) 0
theorem bN_xor (a b : Nat) : binD .BitXor (eN a) (eN b) = some (eN (a ^^^ b)) := by
  show some (PyData.int (Builtin.bitXor (a : Int) (b : Int))) = _
  rw [Bits.bitXor_pp (by omega) (by omega)]
  rfl
theorem eNs_get {l : List Nat} {i : Nat} {x : D} (h : (eNs l)[i]? = some x) : ∃ a, l[i]? = some a ∧ x = eN a := by
  unfold eNs at h
  rw [List.getElem?_map] at h
  obtain ⟨a, h1, h2⟩ := Option.map_eq_some_iff.mp h
  exact ⟨a, h1, h2.symm⟩
theorem foldl_take {α β : Type} (f : β → α → β) (b : β) {l : List α} {i : Nat} {a : α} (h : l[i]? = some a) : (l.take (i + 1)).foldl f b = f ((l.take i).foldl f b) a := by
  rw [List.take_add_one, h]
  simp
theorem jn_ok (W n : Nat) {digs : List Nat} (hp : Pos digs) (hl : digs.length < 1000) (ws : List Nat) (hw : ∀ w ∈ ws, w < 900) : R W (n + 3) 2 [.tuple (eNs ws), .tuple (eNs digs)] = some (eN (jx digs ws)) := by
  refine run_eq (P := P) (d := t_joined_worth.df) rfl rfl ?_
  show exec _ W b_joined_worth [some (.tuple (eNs ws)), some (.tuple (eNs digs)), none, none] = _
  obtain ⟨ρ', e, p, rfl⟩ := forL_inv (f := fun x ρ => (bindT (.n 3) x ρ).bind (exec (run P W (n + 2)) W B_joined_worth_1)) (xs := eNs ws)
    (fun i ρ => ∃ p : Option D, ρ = [some (.tuple (eNs ws)), some (.tuple (eNs digs)), some (eN (jx digs (ws.take i))), p]) (by
      rintro i x ρ hx ⟨p, rfl⟩
      obtain ⟨w, hj, rfl⟩ := eNs_get hx
      have hwm : w ∈ ws := List.mem_of_getElem? hj
      refine ⟨_, .inl ?_, some (eN w), rfl⟩
      have hb : bindT (.n 3) (eN w) [some (.tuple (eNs ws)), some (.tuple (eNs digs)), some (eN (jx digs (ws.take i))), p] = some [some (.tuple (eNs ws)), some (.tuple (eNs digs)), some (eN (jx digs (ws.take i))), some (eN w)] := by simp [bindT]
      have hc := at_ok W n hp hl w (hw w hwm)
      have hj2 : jx digs (ws.take (i + 1)) = jx digs (ws.take i) ^^^ wt digs w := foldl_take _ _ hj
      rw [hb, Option.bind_some, hj2]
      simp -implicitDefEqProofs only [B_joined_worth_1, x_nil, x_cons, x_pass, x_frz, x_asg, x_asgT, x_app, x_ext, x_put, x_aug, x_ret, x_ifs, seqX_nx, seqX_rt, ifX_t, ifX_f, asgX_some, retX_some, e_var, e_bor, e_int, e_bl, e_non, e_yes, e_str, e_bin, e_neg, e_nt, e_cmp, e_and, e_or, e_ite, e_call, e_bi, e_isi, e_ix, e_sl, e_tup, e_lst, e_dic, e_isn, e_isnn, es_nil, es_cons, es_it, es_rng1, es_rng2, es_enm, eb_one, eb_and, eb_or, eo_nil, eo_some, optI_int, op2_some, op1_some, onL_some, onI_some, consO_some, slX_some, tupX_nil, tupX_1, tupX_2, tupX_3, tupX_4, lstX_nil, negX_int, notX_bool, isnX_none, iteX_t, iteX_f, andX_t, andX_f, orX_t, orX_f, getE_zero, getE_succ, set_z, set_s, Option.map_some, Option.bind_some, hc, bN_xor]) [some (.tuple (eNs ws)), some (.tuple (eNs digs)), some (.int 0), none] ⟨none, rfl⟩
  rw [show (eNs ws).length = ws.length by simp, List.take_length] at e
  have hL : exec (run P W (n + 2)) W L_joined_worth_1 [some (.tuple (eNs ws)), some (.tuple (eNs digs)), some (.int 0), none] = some (.nx [some (.tuple (eNs ws)), some (.tuple (eNs digs)), some (eN (jx digs ws)), p]) := by
    rw [L_joined_worth_1, x_for]
    simp -implicitDefEqProofs only [x_nil, x_cons, x_pass, x_frz, x_asg, x_asgT, x_app, x_ext, x_put, x_aug, x_ret, x_ifs, seqX_nx, seqX_rt, ifX_t, ifX_f, asgX_some, retX_some, e_var, e_bor, e_int, e_bl, e_non, e_yes, e_str, e_bin, e_neg, e_nt, e_cmp, e_and, e_or, e_ite, e_call, e_bi, e_isi, e_ix, e_sl, e_tup, e_lst, e_dic, e_isn, e_isnn, es_nil, es_cons, es_it, es_rng1, es_rng2, es_enm, eb_one, eb_and, eb_or, eo_nil, eo_some, optI_int, op2_some, op1_some, onL_some, onI_some, consO_some, slX_some, tupX_nil, tupX_1, tupX_2, tupX_3, tupX_4, lstX_nil, negX_int, notX_bool, isnX_none, iteX_t, iteX_f, andX_t, andX_f, orX_t, orX_f, getE_zero, getE_succ, set_z, set_s, Option.map_some, Option.bind_some, u_itT, forX_some]
    exact e
  simp -implicitDefEqProofs only [b_joined_worth, x_nil, x_cons, x_pass, x_frz, x_asg, x_asgT, x_app, x_ext, x_put, x_aug, x_ret, x_ifs, seqX_nx, seqX_rt, ifX_t, ifX_f, asgX_some, retX_some, e_var, e_bor, e_int, e_bl, e_non, e_yes, e_str, e_bin, e_neg, e_nt, e_cmp, e_and, e_or, e_ite, e_call, e_bi, e_isi, e_ix, e_sl, e_tup, e_lst, e_dic, e_isn, e_isnn, es_nil, es_cons, es_it, es_rng1, es_rng2, es_enm, eb_one, eb_and, eb_or, eo_nil, eo_some, optI_int, op2_some, op1_some, onL_some, onI_some, consO_some, slX_some, tupX_nil, tupX_1, tupX_2, tupX_3, tupX_4, lstX_nil, negX_int, notX_bool, isnX_none, iteX_t, iteX_f, andX_t, andX_f, orX_t, orX_f, getE_zero, getE_succ, set_z, set_s, Option.map_some, Option.bind_some, hL]
/-! ### the law's worths -/
theorem lw_C1 (Φ : Nat → List D → Option D) (a : D) {digs : List Nat} (hp : Pos digs) (hl : digs.length < 1000) (k : Nat) (p q r s : Option D) :
    ev Φ C_q_worths_1 [some a, some (.tuple (eNs digs)), some (.list (eNs (wl digs k))), some (eN k), p, q, r, s] = some (.list (eNs (near digs (wl digs k) k))) := by
  rw [C_q_worths_1, e_lc, es_it, e_var, getE_succ, getE_zero, onI_some, u_itT]
  refine near_comp hp hl Φ .nil _ _ _ _ _ k fun d hd => ?_
  have hb : bindT (.n 7) (eN d) (wipeE [some a, some (.tuple (eNs digs)), some (.list (eNs (wl digs k))), some (eN k), p, q, r, s] [7]) = some [some a, some (.tuple (eNs digs)), some (.list (eNs (wl digs k))), some (eN k), p, q, r, some (eN d)] := by simp [bindT, wipeE]
  by_cases h : d ≤ k
  · rw [if_pos (decide_eq_true h)]
    have h2 : k - d < (wl digs k).length := by rw [wl_len]; have := (hp d hd).1; omega
    rw [getD_lt h2]
    refine compF_t hb ?_ ?_
    · simp -implicitDefEqProofs only [x_nil, x_cons, x_pass, x_frz, x_asg, x_asgT, x_app, x_ext, x_put, x_aug, x_ret, x_ifs, seqX_nx, seqX_rt, ifX_t, ifX_f, asgX_some, retX_some, e_var, e_bor, e_int, e_bl, e_non, e_yes, e_str, e_bin, e_neg, e_nt, e_cmp, e_and, e_or, e_ite, e_call, e_bi, e_isi, e_ix, e_sl, e_tup, e_lst, e_dic, e_isn, e_isnn, es_nil, es_cons, es_it, es_rng1, es_rng2, es_enm, eb_one, eb_and, eb_or, eo_nil, eo_some, optI_int, op2_some, op1_some, onL_some, onI_some, consO_some, slX_some, tupX_nil, tupX_1, tupX_2, tupX_3, tupX_4, lstX_nil, negX_int, notX_bool, isnX_none, iteX_t, iteX_f, andX_t, andX_f, orX_t, orX_f, getE_zero, getE_succ, set_z, set_s, Option.map_some, Option.bind_some, mN_le, decide_eq_true h]
    · simp -implicitDefEqProofs only [x_nil, x_cons, x_pass, x_frz, x_asg, x_asgT, x_app, x_ext, x_put, x_aug, x_ret, x_ifs, seqX_nx, seqX_rt, ifX_t, ifX_f, asgX_some, retX_some, e_var, e_bor, e_int, e_bl, e_non, e_yes, e_str, e_bin, e_neg, e_nt, e_cmp, e_and, e_or, e_ite, e_call, e_bi, e_isi, e_ix, e_sl, e_tup, e_lst, e_dic, e_isn, e_isnn, es_nil, es_cons, es_it, es_rng1, es_rng2, es_enm, eb_one, eb_and, eb_or, eo_nil, eo_some, optI_int, op2_some, op1_some, onL_some, onI_some, consO_some, slX_some, tupX_nil, tupX_1, tupX_2, tupX_3, tupX_4, lstX_nil, negX_int, notX_bool, isnX_none, iteX_t, iteX_f, andX_t, andX_f, orX_t, orX_f, getE_zero, getE_succ, set_z, set_s, Option.map_some, Option.bind_some, bN_sub h, u_ixL, nth_eN _ h2]
  · rw [if_neg (by simp [h])]
    refine compF_f hb ?_
    simp -implicitDefEqProofs only [x_nil, x_cons, x_pass, x_frz, x_asg, x_asgT, x_app, x_ext, x_put, x_aug, x_ret, x_ifs, seqX_nx, seqX_rt, ifX_t, ifX_f, asgX_some, retX_some, e_var, e_bor, e_int, e_bl, e_non, e_yes, e_str, e_bin, e_neg, e_nt, e_cmp, e_and, e_or, e_ite, e_call, e_bi, e_isi, e_ix, e_sl, e_tup, e_lst, e_dic, e_isn, e_isnn, es_nil, es_cons, es_it, es_rng1, es_rng2, es_enm, eb_one, eb_and, eb_or, eo_nil, eo_some, optI_int, op2_some, op1_some, onL_some, onI_some, consO_some, slX_some, tupX_nil, tupX_1, tupX_2, tupX_3, tupX_4, lstX_nil, negX_int, notX_bool, isnX_none, iteX_t, iteX_f, andX_t, andX_f, orX_t, orX_f, getE_zero, getE_succ, set_z, set_s, Option.map_some, Option.bind_some, mN_le, decide_eq_false h]
theorem mxI_add (nr : List Nat) : ∀ (i m : Nat), mxI nr (i + 1) m = (if mxI nr i m ∈ nr then mxI nr i m + 1 else mxI nr i m)
  | 0, m => rfl
  | i + 1, m => by
    rw [mxI, mxI_add nr i]
    rfl
theorem lw_L2 (Φ : Nat → List D → Option D) (W : Nat) (a b c d : D) (nr : List Nat) (hl : nr.length < 1000) (r s : Option D) :
    ∃ r', exec Φ W L_q_worths_2 [some a, some b, some c, some d, some (.list (eNs nr)), some (.int 0), r, s] = some (.nx [some a, some b, some c, some d, some (.list (eNs nr)), some (eN (mx nr)), r', s]) := by
  obtain ⟨ρ', e, r', rfl⟩ := forL_inv (f := fun x ρ => (bindT (.n 6) x ρ).bind (exec Φ W B_q_worths_2)) (xs := eNs (List.range nr.length))
    (fun i ρ => ∃ r : Option D, ρ = [some a, some b, some c, some d, some (.list (eNs nr)), some (eN (mxI nr i 0)), r, s]) (by
      rintro i x ρ hx ⟨r, rfl⟩
      obtain ⟨w, hj, rfl⟩ := eNs_get hx
      refine ⟨_, .inl ?_, some (eN w), rfl⟩
      have hb : bindT (.n 6) (eN w) [some a, some b, some c, some d, some (.list (eNs nr)), some (eN (mxI nr i 0)), r, s] = some [some a, some b, some c, some d, some (.list (eNs nr)), some (eN (mxI nr i 0)), some (eN w), s] := by simp [bindT]
      rw [hb, Option.bind_some, mxI_add]
      by_cases h : mxI nr i 0 ∈ nr
      · rw [if_pos h]
        simp -implicitDefEqProofs only [B_q_worths_2, x_nil, x_cons, x_pass, x_frz, x_asg, x_asgT, x_app, x_ext, x_put, x_aug, x_ret, x_ifs, seqX_nx, seqX_rt, ifX_t, ifX_f, asgX_some, retX_some, e_var, e_bor, e_int, e_bl, e_non, e_yes, e_str, e_bin, e_neg, e_nt, e_cmp, e_and, e_or, e_ite, e_call, e_bi, e_isi, e_ix, e_sl, e_tup, e_lst, e_dic, e_isn, e_isnn, es_nil, es_cons, es_it, es_rng1, es_rng2, es_enm, eb_one, eb_and, eb_or, eo_nil, eo_some, optI_int, op2_some, op1_some, onL_some, onI_some, consO_some, slX_some, tupX_nil, tupX_1, tupX_2, tupX_3, tupX_4, lstX_nil, negX_int, notX_bool, isnX_none, iteX_t, iteX_f, andX_t, andX_f, orX_t, orX_f, getE_zero, getE_succ, set_z, set_s, Option.map_some, Option.bind_some, m_in, decide_eq_true h, bN_add1]
      · rw [if_neg h]
        simp -implicitDefEqProofs only [B_q_worths_2, x_nil, x_cons, x_pass, x_frz, x_asg, x_asgT, x_app, x_ext, x_put, x_aug, x_ret, x_ifs, seqX_nx, seqX_rt, ifX_t, ifX_f, asgX_some, retX_some, e_var, e_bor, e_int, e_bl, e_non, e_yes, e_str, e_bin, e_neg, e_nt, e_cmp, e_and, e_or, e_ite, e_call, e_bi, e_isi, e_ix, e_sl, e_tup, e_lst, e_dic, e_isn, e_isnn, es_nil, es_cons, es_it, es_rng1, es_rng2, es_enm, eb_one, eb_and, eb_or, eo_nil, eo_some, optI_int, op2_some, op1_some, onL_some, onI_some, consO_some, slX_some, tupX_nil, tupX_1, tupX_2, tupX_3, tupX_4, lstX_nil, negX_int, notX_bool, isnX_none, iteX_t, iteX_f, andX_t, andX_f, orX_t, orX_f, getE_zero, getE_succ, set_z, set_s, Option.map_some, Option.bind_some, m_in, decide_eq_false h]) [some a, some b, some c, some d, some (.list (eNs nr)), some (.int 0), r, s] ⟨r, rfl⟩
  rw [show (eNs (List.range nr.length)).length = nr.length by simp] at e
  refine ⟨r', ?_⟩
  have hlen : (eNs nr).length = nr.length := List.length_map _
  rw [L_q_worths_2, x_for]
  simp -implicitDefEqProofs only [x_nil, x_cons, x_pass, x_frz, x_asg, x_asgT, x_app, x_ext, x_put, x_aug, x_ret, x_ifs, seqX_nx, seqX_rt, ifX_t, ifX_f, asgX_some, retX_some, e_var, e_bor, e_int, e_bl, e_non, e_yes, e_str, e_bin, e_neg, e_nt, e_cmp, e_and, e_or, e_ite, e_call, e_bi, e_isi, e_ix, e_sl, e_tup, e_lst, e_dic, e_isn, e_isnn, es_nil, es_cons, es_it, es_rng1, es_rng2, es_enm, eb_one, eb_and, eb_or, eo_nil, eo_some, optI_int, op2_some, op1_some, onL_some, onI_some, consO_some, slX_some, tupX_nil, tupX_1, tupX_2, tupX_3, tupX_4, lstX_nil, negX_int, notX_bool, isnX_none, iteX_t, iteX_f, andX_t, andX_f, orX_t, orX_f, getE_zero, getE_succ, set_z, set_s, Option.map_some, Option.bind_some, u_lenL, hlen, rngX_int (sm62 (cnt := nr.length) (by omega)), range_eN, forX_some]
  exact e
theorem lw_ok (W n : Nat) {digs : List Nat} (hp : Pos digs) (hl : digs.length < 1000) (k : Nat) (hk : k < 900) : R W (n + 1) 8 [eN k, .tuple (eNs digs)] = some (.list (eNs (wl digs (k + 1)))) := by
  refine run_eq (P := P) (d := t__law_worths.df) rfl rfl ?_
  show exec _ W b__law_worths [some (eN k), some (.tuple (eNs digs)), none, none, none, none, none, none] = _
  obtain ⟨ρ', e, p, q, r, s, u, rfl⟩ := forL_inv (f := fun x ρ => (bindT (.n 3) x ρ).bind (exec (run P W n) W B_q_worths_1)) (xs := eNs (List.range (k + 1)))
    (fun i ρ => ∃ p q r s u : Option D, ρ = [some (eN k), some (.tuple (eNs digs)), some (.list (eNs (wl digs i))), p, q, r, s, u]) (by
      rintro i x ρ hx ⟨p, q, r, s, u, rfl⟩
      obtain ⟨j, hj, rfl⟩ := eNs_get hx
      obtain ⟨hlt, e⟩ := List.getElem?_eq_some_iff.mp hj
      rw [List.getElem_range] at e
      rw [List.length_range] at hlt
      subst e
      have hb : bindT (.n 3) (eN i) [some (eN k), some (.tuple (eNs digs)), some (.list (eNs (wl digs i))), p, q, r, s, u] = some [some (eN k), some (.tuple (eNs digs)), some (.list (eNs (wl digs i))), some (eN i), q, r, s, u] := by simp [bindT]
      have h1 := lw_C1 (run P W n) (eN k) hp hl i q r s u
      obtain ⟨r', h2⟩ := lw_L2 (run P W n) W (eN k) (.tuple (eNs digs)) (.list (eNs (wl digs i))) (eN i) (near digs (wl digs i) i) (Nat.lt_of_le_of_lt (near_len _ _ _) hl) s u
      have h4 : (eNs (wl digs i)).length < SL := by rw [List.length_map, wl_len]; exact Nat.lt_trans (by omega : i < 1000) (by decide)
      refine ⟨_, .inl ?_, some (eN i), some (.list (eNs (near digs (wl digs i) i))), some (eN (wt digs i)), r', u, rfl⟩
      rw [hb, Option.bind_some, wl_succ]
      simp -implicitDefEqProofs only [B_q_worths_1, x_nil, x_cons, x_pass, x_frz, x_asg, x_asgT, x_app, x_ext, x_put, x_aug, x_ret, x_ifs, seqX_nx, seqX_rt, ifX_t, ifX_f, asgX_some, retX_some, e_var, e_bor, e_int, e_bl, e_non, e_yes, e_str, e_bin, e_neg, e_nt, e_cmp, e_and, e_or, e_ite, e_call, e_bi, e_isi, e_ix, e_sl, e_tup, e_lst, e_dic, e_isn, e_isnn, es_nil, es_cons, es_it, es_rng1, es_rng2, es_enm, eb_one, eb_and, eb_or, eo_nil, eo_some, optI_int, op2_some, op1_some, onL_some, onI_some, consO_some, slX_some, tupX_nil, tupX_1, tupX_2, tupX_3, tupX_4, lstX_nil, negX_int, notX_bool, isnX_none, iteX_t, iteX_f, andX_t, andX_f, orX_t, orX_f, getE_zero, getE_succ, set_z, set_s, Option.map_some, Option.bind_some, h1, h2, appX_some _ _ h4]
      unfold wt
      simp) [some (eN k), some (.tuple (eNs digs)), some (.list []), none, none, none, none, none] ⟨none, none, none, none, none, rfl⟩
  rw [show (eNs (List.range (k + 1))).length = k + 1 by simp] at e
  have hL : exec (run P W n) W L_q_worths_1 [some (eN k), some (.tuple (eNs digs)), some (.list []), none, none, none, none, none] = some (.nx [some (eN k), some (.tuple (eNs digs)), some (.list (eNs (wl digs (k + 1)))), p, q, r, s, u]) := by
    rw [L_q_worths_1, x_for]
    simp -implicitDefEqProofs only [x_nil, x_cons, x_pass, x_frz, x_asg, x_asgT, x_app, x_ext, x_put, x_aug, x_ret, x_ifs, seqX_nx, seqX_rt, ifX_t, ifX_f, asgX_some, retX_some, e_var, e_bor, e_int, e_bl, e_non, e_yes, e_str, e_bin, e_neg, e_nt, e_cmp, e_and, e_or, e_ite, e_call, e_bi, e_isi, e_ix, e_sl, e_tup, e_lst, e_dic, e_isn, e_isnn, es_nil, es_cons, es_it, es_rng1, es_rng2, es_enm, eb_one, eb_and, eb_or, eo_nil, eo_some, optI_int, op2_some, op1_some, onL_some, onI_some, consO_some, slX_some, tupX_nil, tupX_1, tupX_2, tupX_3, tupX_4, lstX_nil, negX_int, notX_bool, isnX_none, iteX_t, iteX_f, andX_t, andX_f, orX_t, orX_f, getE_zero, getE_succ, set_z, set_s, Option.map_some, Option.bind_some, bN_add1, rngX_int (sm62 (cnt := k + 1) (by omega)), range_eN, forX_some]
    exact e
  simp -implicitDefEqProofs only [b__law_worths, x_nil, x_cons, x_pass, x_frz, x_asg, x_asgT, x_app, x_ext, x_put, x_aug, x_ret, x_ifs, seqX_nx, seqX_rt, ifX_t, ifX_f, asgX_some, retX_some, e_var, e_bor, e_int, e_bl, e_non, e_yes, e_str, e_bin, e_neg, e_nt, e_cmp, e_and, e_or, e_ite, e_call, e_bi, e_isi, e_ix, e_sl, e_tup, e_lst, e_dic, e_isn, e_isnn, es_nil, es_cons, es_it, es_rng1, es_rng2, es_enm, eb_one, eb_and, eb_or, eo_nil, eo_some, optI_int, op2_some, op1_some, onL_some, onI_some, consO_some, slX_some, tupX_nil, tupX_1, tupX_2, tupX_3, tupX_4, lstX_nil, negX_int, notX_bool, isnX_none, iteX_t, iteX_f, andX_t, andX_f, orX_t, orX_f, getE_zero, getE_succ, set_z, set_s, Option.map_some, Option.bind_some, hL]
end LW

namespace LW
open PySem PC
/-! ### the law's joined worth -/
def cnt (ws : List Nat) (p : Nat) : Nat := (ws.filter fun w => decide (w / p % 2 = 1)).length
def lj (ws : List Nat) : Nat := 1 * (cnt ws 1 % 2) + 2 * (cnt ws 2 % 2) + 4 * (cnt ws 4 % 2) + 8 * (cnt ws 8 % 2)
theorem lj_C (Φ : Nat → List D → Option D) (ws : List Nat) (hl : ws.length < 1000) (t : D) (p : Nat) (h0 : 0 < p) (h1 : p < 1000) (o w : Option D) :
    ev Φ C_q_joined_1 [some (.list (eNs ws)), some t, some (eN p), o, w] = some (.list (eNs (ws.filter fun w => decide (w / p % 2 = 1)))) := by
  rw [C_q_joined_1, e_lc, es_it, e_var, getE_zero, onI_some, u_itL]
  refine lcX_map eN (fun w => decide (w / p % 2 = 1)) eN (Nat.le_of_lt (Nat.lt_trans hl (by decide))) fun x _ => ?_
  have hb : bindT (.n 4) (eN x) (wipeE [some (.list (eNs ws)), some t, some (eN p), o, w] [4]) = some [some (.list (eNs ws)), some t, some (eN p), o, some (eN x)] := by simp [bindT, wipeE]
  have hd : binD .FloorDiv (eN x) (eN p) = some (.int ((x / p : Nat) : Int)) := by rw [b_div _ (by omega) (by omega)]; simp
  have hm : decide (((x / p : Nat) : Int) % 2 = 1) = decide (x / p % 2 = 1) := by
    by_cases h : x / p % 2 = 1
    · rw [decide_eq_true h, decide_eq_true (by omega)]
    · rw [decide_eq_false h, decide_eq_false (by omega)]
  have hc : ev Φ (.cmp .Eq (.bin .Mod (.bi .int (.cons (.bin .FloorDiv (.var 4) (.var 2)) (.nil))) (.int 2)) (.int 1)) [some (.list (eNs ws)), some t, some (eN p), o, some (eN x)] = some (.bool (decide (x / p % 2 = 1))) := by
    simp -implicitDefEqProofs only [x_nil, x_cons, x_pass, x_frz, x_asg, x_asgT, x_app, x_ext, x_put, x_aug, x_ret, x_ifs, seqX_nx, seqX_rt, ifX_t, ifX_f, asgX_some, retX_some, e_var, e_bor, e_int, e_bl, e_non, e_yes, e_str, e_bin, e_neg, e_nt, e_cmp, e_and, e_or, e_ite, e_call, e_bi, e_isi, e_ix, e_sl, e_tup, e_lst, e_dic, e_isn, e_isnn, es_nil, es_cons, es_it, es_rng1, es_rng2, es_enm, eb_one, eb_and, eb_or, eo_nil, eo_some, optI_int, op2_some, op1_some, onL_some, onI_some, consO_some, slX_some, tupX_nil, tupX_1, tupX_2, tupX_3, tupX_4, lstX_nil, negX_int, notX_bool, isnX_none, iteX_t, iteX_f, andX_t, andX_f, orX_t, orX_f, getE_zero, getE_succ, set_z, set_s, Option.map_some, Option.bind_some, hd, u_int, b_mod _ (show (0 : Int) < 2 by decide), m_eq]
    rw [hm]
  by_cases h : x / p % 2 = 1
  · rw [decide_eq_true h] at hc ⊢
    rw [if_pos rfl]
    exact compF_t hb hc (by simp -implicitDefEqProofs only [x_nil, x_cons, x_pass, x_frz, x_asg, x_asgT, x_app, x_ext, x_put, x_aug, x_ret, x_ifs, seqX_nx, seqX_rt, ifX_t, ifX_f, asgX_some, retX_some, e_var, e_bor, e_int, e_bl, e_non, e_yes, e_str, e_bin, e_neg, e_nt, e_cmp, e_and, e_or, e_ite, e_call, e_bi, e_isi, e_ix, e_sl, e_tup, e_lst, e_dic, e_isn, e_isnn, es_nil, es_cons, es_it, es_rng1, es_rng2, es_enm, eb_one, eb_and, eb_or, eo_nil, eo_some, optI_int, op2_some, op1_some, onL_some, onI_some, consO_some, slX_some, tupX_nil, tupX_1, tupX_2, tupX_3, tupX_4, lstX_nil, negX_int, notX_bool, isnX_none, iteX_t, iteX_f, andX_t, andX_f, orX_t, orX_f, getE_zero, getE_succ, set_z, set_s, Option.map_some, Option.bind_some])
  · rw [decide_eq_false h] at hc ⊢
    rw [if_neg Bool.false_ne_true]
    exact compF_f hb hc
theorem lj_step (Φ : Nat → List D → Option D) (W : Nat) (ws : List Nat) (hl : ws.length < 1000) (t p : Nat) (h0 : 0 < p) (h1 : p < 1000) (q o w : Option D) :
    (bindT (.n 2) (eN p) [some (.list (eNs ws)), some (eN t), q, o, w]).bind (exec Φ W B_q_joined_1) = some (.nx [some (.list (eNs ws)), some (eN (t + p * (cnt ws p % 2))), some (eN p), some (eN (cnt ws p)), w]) := by
  have hb : bindT (.n 2) (eN p) [some (.list (eNs ws)), some (eN t), q, o, w] = some [some (.list (eNs ws)), some (eN t), some (eN p), o, w] := by simp [bindT]
  have hC := lj_C Φ ws hl (eN t) p h0 h1 o w
  have hn : ((eNs (ws.filter fun w => decide (w / p % 2 = 1))).length : Int) = (cnt ws p : Int) := by rw [List.length_map]; rfl
  have hs : small64 (p : Int) = true := small_of (by omega) (by omega)
  rw [hb, Option.bind_some]
  simp -implicitDefEqProofs only [B_q_joined_1, x_nil, x_cons, x_pass, x_frz, x_asg, x_asgT, x_app, x_ext, x_put, x_aug, x_ret, x_ifs, seqX_nx, seqX_rt, ifX_t, ifX_f, asgX_some, retX_some, e_var, e_bor, e_int, e_bl, e_non, e_yes, e_str, e_bin, e_neg, e_nt, e_cmp, e_and, e_or, e_ite, e_call, e_bi, e_isi, e_ix, e_sl, e_tup, e_lst, e_dic, e_isn, e_isnn, es_nil, es_cons, es_it, es_rng1, es_rng2, es_enm, eb_one, eb_and, eb_or, eo_nil, eo_some, optI_int, op2_some, op1_some, onL_some, onI_some, consO_some, slX_some, tupX_nil, tupX_1, tupX_2, tupX_3, tupX_4, lstX_nil, negX_int, notX_bool, isnX_none, iteX_t, iteX_f, andX_t, andX_f, orX_t, orX_f, getE_zero, getE_succ, set_z, set_s, Option.map_some, Option.bind_some, hC, u_lenL, hn, b_div _ (show (0 : Int) < 2 by decide) (show (2 : Int) < 1073741824 by decide), b_mulL _ (show small64 2 = true by decide), b_sub, b_mulL _ hs, b_add]
  have e1 : ((cnt ws p : Int) - 2 * ((cnt ws p : Int) / 2)) = ((cnt ws p % 2 : Nat) : Int) := by omega
  rw [e1]
  have e2 : (t : Int) + (p : Int) * ((cnt ws p % 2 : Nat) : Int) = ((t + p * (cnt ws p % 2) : Nat) : Int) := by rw [Int.natCast_add, Int.natCast_mul]
  rw [e2]
theorem lj_ok (W n : Nat) (ws : List Nat) (hl : ws.length < 1000) : R W (n + 1) 9 [.list (eNs ws)] = some (eN (lj ws)) := by
  refine run_eq (P := P) (d := t__law_joined.df) rfl rfl ?_
  show exec _ W b__law_joined [some (.list (eNs ws)), none, none, none, none] = _
  have hL : exec (run P W n) W L_q_joined_1 [some (.list (eNs ws)), some (.int 0), none, none, none] = some (.nx [some (.list (eNs ws)), some (eN (lj ws)), some (eN 8), some (eN (cnt ws 8)), none]) := by
    rw [L_q_joined_1, x_for]
    simp -implicitDefEqProofs only [x_nil, x_cons, x_pass, x_frz, x_asg, x_asgT, x_app, x_ext, x_put, x_aug, x_ret, x_ifs, seqX_nx, seqX_rt, ifX_t, ifX_f, asgX_some, retX_some, e_var, e_bor, e_int, e_bl, e_non, e_yes, e_str, e_bin, e_neg, e_nt, e_cmp, e_and, e_or, e_ite, e_call, e_bi, e_isi, e_ix, e_sl, e_tup, e_lst, e_dic, e_isn, e_isnn, es_nil, es_cons, es_it, es_rng1, es_rng2, es_enm, eb_one, eb_and, eb_or, eo_nil, eo_some, optI_int, op2_some, op1_some, onL_some, onI_some, consO_some, slX_some, tupX_nil, tupX_1, tupX_2, tupX_3, tupX_4, lstX_nil, negX_int, notX_bool, isnX_none, iteX_t, iteX_f, andX_t, andX_f, orX_t, orX_f, getE_zero, getE_succ, set_z, set_s, Option.map_some, Option.bind_some, u_itT, forX_some]
    rw [forL_nx (lj_step (run P W n) W ws hl 0 1 (by decide) (by decide) none none none), forL_nx (lj_step (run P W n) W ws hl _ 2 (by decide) (by decide) _ _ none), forL_nx (lj_step (run P W n) W ws hl _ 4 (by decide) (by decide) _ _ none),
      forL_nx (lj_step (run P W n) W ws hl _ 8 (by decide) (by decide) _ _ none), forL_nil]
    unfold lj
    rw [Nat.zero_add]
  simp -implicitDefEqProofs only [b__law_joined, x_nil, x_cons, x_pass, x_frz, x_asg, x_asgT, x_app, x_ext, x_put, x_aug, x_ret, x_ifs, seqX_nx, seqX_rt, ifX_t, ifX_f, asgX_some, retX_some, e_var, e_bor, e_int, e_bl, e_non, e_yes, e_str, e_bin, e_neg, e_nt, e_cmp, e_and, e_or, e_ite, e_call, e_bi, e_isi, e_ix, e_sl, e_tup, e_lst, e_dic, e_isn, e_isnn, es_nil, es_cons, es_it, es_rng1, es_rng2, es_enm, eb_one, eb_and, eb_or, eo_nil, eo_some, optI_int, op2_some, op1_some, onL_some, onI_some, consO_some, slX_some, tupX_nil, tupX_1, tupX_2, tupX_3, tupX_4, lstX_nil, negX_int, notX_bool, isnX_none, iteX_t, iteX_f, andX_t, andX_f, orX_t, orX_f, getE_zero, getE_succ, set_z, set_s, Option.map_some, Option.bind_some, hL]
def bit4 (a b c d : Nat) : Nat := 1 * (a % 2) + 2 * (b % 2) + 4 * (c % 2) + 8 * (d % 2)
theorem cnt_cons (w : Nat) (ws : List Nat) (p : Nat) : cnt (w :: ws) p % 2 = (cnt ws p % 2 + w / p % 2) % 2 := by
  unfold cnt
  by_cases h : w / p % 2 = 1
  · rw [List.filter_cons_of_pos (by simpa using h), List.length_cons]
    omega
  · rw [List.filter_cons_of_neg (by simpa using h)]
    omega
theorem xor_tab : ∀ w : Fin 16, ∀ a b c d : Fin 2, 1 * ((a.val + w.val / 1 % 2) % 2) + 2 * ((b.val + w.val / 2 % 2) % 2) + 4 * ((c.val + w.val / 4 % 2) % 2) + 8 * ((d.val + w.val / 8 % 2) % 2) = (1 * a.val + 2 * b.val + 4 * c.val + 8 * d.val) ^^^ w.val := by decide +kernel
theorem lj_cons (w : Nat) (hw : w < 16) (ws : List Nat) : lj (w :: ws) = lj ws ^^^ w := by
  have q := xor_tab ⟨w, hw⟩ ⟨cnt ws 1 % 2, Nat.mod_lt _ (by decide)⟩ ⟨cnt ws 2 % 2, Nat.mod_lt _ (by decide)⟩ ⟨cnt ws 4 % 2, Nat.mod_lt _ (by decide)⟩ ⟨cnt ws 8 % 2, Nat.mod_lt _ (by decide)⟩
  unfold lj
  rw [cnt_cons, cnt_cons, cnt_cons, cnt_cons]
  exact q
theorem lj_eq : ∀ ws : List Nat, (∀ w ∈ ws, w < 16) → lj ws = ws.foldl (· ^^^ ·) 0 := by
  have q : ∀ (ws : List Nat) (a : Nat), ws.foldl (· ^^^ ·) a = a ^^^ ws.foldl (· ^^^ ·) 0 := by
    intro ws
    induction ws with
    | nil => intro a; simp
    | cons w ws ih =>
      intro a
      rw [List.foldl_cons, List.foldl_cons, ih (a ^^^ w), ih (0 ^^^ w), Nat.zero_xor, Nat.xor_assoc]
  intro ws
  induction ws with
  | nil => intro _; rfl
  | cons w ws ih =>
    intro h
    rw [lj_cons w (h w (by simp)), ih fun x hx => h x (by simp [hx]), List.foldl_cons, Nat.zero_xor, q ws w, Nat.xor_comm]
end LW

namespace LW
open PySem PC
/-! ### what stands behind a dig -/
abbrev Mv := Nat × Nat × List Nat
def put1 (ws : List Nat) (p d : Nat) : List Nat := ws.take p ++ (ws.getD p 0 - d) :: ws.drop (p + 1)
def aft1 (ws digs : List Nat) (p : Nat) : List Mv := (digs.filter fun d => decide (d ≤ ws.getD p 0)).map fun d => (p, d, put1 ws p d)
def aft (ws digs : List Nat) : List Mv := (List.range ws.length).flatMap (aft1 ws digs)
def encA (t : Mv) : D := .tuple [.tuple [eN t.1, eN t.2.1], .tuple (eNs t.2.2)]
theorem put1_ev (Φ : Nat → List D → Option D) {ws : List Nat} {p d : Nat} (hp : p < ws.length) (hl : ws.length ≤ 10) (hd : d ≤ ws.getD p 0) (ρ : PC.Env) (a b : C)
    (h0 : getE ρ 0 = some (.tuple (eNs ws))) (h3 : getE ρ 3 = some (eN p)) (h4 : getE ρ 4 = some (eN d)) : ev Φ (.bin .Add (.bin .Add (.sl (.var 0) (.nil) (.cons (.var 3) (.nil))) (.tup (.cons (.bin .Sub (.ix (.var 0) (.var 3)) (.var 4)) (.nil)))) (.sl (.var 0) (.cons (.bin .Add (.var 3) (.int 1)) (.nil)) (.nil))) ρ = some (.tuple (eNs (put1 ws p d))) := by
  have g := nth_eN ws hp
  have e0 : ws.getD p 0 = ws[p] := getD_lt hp
  rw [e0] at hd
  have l1 : ((eNs ws).take p).length + [eN (ws[p] - d)].length < 1000000 := by simp; omega
  have l2 : ((eNs ws).take p ++ [eN (ws[p] - d)]).length + ((eNs ws).drop (p + 1)).length < 1000000 := by simp; omega
  simp -implicitDefEqProofs only [x_nil, x_cons, x_pass, x_frz, x_asg, x_asgT, x_app, x_ext, x_put, x_aug, x_ret, x_ifs, seqX_nx, seqX_rt, ifX_t, ifX_f, asgX_some, retX_some, e_var, e_bor, e_int, e_bl, e_non, e_yes, e_str, e_bin, e_neg, e_nt, e_cmp, e_and, e_or, e_ite, e_call, e_bi, e_isi, e_ix, e_sl, e_tup, e_lst, e_dic, e_isn, e_isnn, es_nil, es_cons, es_it, es_rng1, es_rng2, es_enm, eb_one, eb_and, eb_or, eo_nil, eo_some, optI_int, op2_some, op1_some, onL_some, onI_some, consO_some, slX_some, tupX_nil, tupX_1, tupX_2, tupX_3, tupX_4, lstX_nil, negX_int, notX_bool, isnX_none, iteX_t, iteX_f, andX_t, andX_f, orX_t, orX_f, getE_zero, getE_succ, set_z, set_s, Option.map_some, Option.bind_some, h0, h3, h4, sl_take, sl_drop, u_ixT, g, bN_sub hd, bN_add1, bT_add l1, bT_add l2]
  unfold put1
  rw [e0]
  simp [eNs]
theorem af_B2 (Φ : Nat → List D → Option D) (W : Nat) {ws : List Nat} (digs : D) {p d : Nat} (hp : p < ws.length) (hl : ws.length ≤ 10) (l0 : List Mv) (hl0 : l0.length < 1000000) :
    exec Φ W B_q_after_2 [some (.tuple (eNs ws)), some digs, some (.list (l0.map encA)), some (eN p), some (eN d)] = some (.nx [some (.tuple (eNs ws)), some digs, some (.list ((l0 ++ (if decide (d ≤ ws.getD p 0) = true then [(p, d, put1 ws p d)] else [])).map encA)), some (eN p), some (eN d)]) := by
  have g := nth_eN ws hp
  have e0 : ws.getD p 0 = ws[p] := getD_lt hp
  by_cases h : d ≤ ws.getD p 0
  · have hv := put1_ev Φ hp hl h [some (.tuple (eNs ws)), some digs, some (.list (l0.map encA)), some (eN p), some (eN d)] .nil .nil (by simp [getE]) (by simp [getE]) (by simp [getE])
    have ha : (l0.map encA).length < SL := by rw [List.length_map]; exact Nat.lt_trans hl0 sl_big
    rw [decide_eq_true h, if_pos rfl]
    rw [e0] at h
    have hv' : ev Φ (.tup (.cons (.tup (.cons (.var 3) (.cons (.var 4) (.nil)))) (.cons (.bin .Add (.bin .Add (.sl (.var 0) (.nil) (.cons (.var 3) (.nil))) (.tup (.cons (.bin .Sub (.ix (.var 0) (.var 3)) (.var 4)) (.nil)))) (.sl (.var 0) (.cons (.bin .Add (.var 3) (.int 1)) (.nil)) (.nil))) (.nil)))) [some (.tuple (eNs ws)), some digs, some (.list (l0.map encA)), some (eN p), some (eN d)] = some (encA (p, d, put1 ws p d)) := by
      rw [e_tup, es_cons, es_cons, hv]
      simp -implicitDefEqProofs only [x_nil, x_cons, x_pass, x_frz, x_asg, x_asgT, x_app, x_ext, x_put, x_aug, x_ret, x_ifs, seqX_nx, seqX_rt, ifX_t, ifX_f, asgX_some, retX_some, e_var, e_bor, e_int, e_bl, e_non, e_yes, e_str, e_bin, e_neg, e_nt, e_cmp, e_and, e_or, e_ite, e_call, e_bi, e_isi, e_ix, e_sl, e_tup, e_lst, e_dic, e_isn, e_isnn, es_nil, es_cons, es_it, es_rng1, es_rng2, es_enm, eb_one, eb_and, eb_or, eo_nil, eo_some, optI_int, op2_some, op1_some, onL_some, onI_some, consO_some, slX_some, tupX_nil, tupX_1, tupX_2, tupX_3, tupX_4, lstX_nil, negX_int, notX_bool, isnX_none, iteX_t, iteX_f, andX_t, andX_f, orX_t, orX_f, getE_zero, getE_succ, set_z, set_s, Option.map_some, Option.bind_some]
      rfl
    rw [B_q_after_2, x_cons, x_ifs]
    have hc : ev Φ (.cmp .LtE (.var 4) (.ix (.var 0) (.var 3))) [some (.tuple (eNs ws)), some digs, some (.list (l0.map encA)), some (eN p), some (eN d)] = some (.bool true) := by
      simp -implicitDefEqProofs only [x_nil, x_cons, x_pass, x_frz, x_asg, x_asgT, x_app, x_ext, x_put, x_aug, x_ret, x_ifs, seqX_nx, seqX_rt, ifX_t, ifX_f, asgX_some, retX_some, e_var, e_bor, e_int, e_bl, e_non, e_yes, e_str, e_bin, e_neg, e_nt, e_cmp, e_and, e_or, e_ite, e_call, e_bi, e_isi, e_ix, e_sl, e_tup, e_lst, e_dic, e_isn, e_isnn, es_nil, es_cons, es_it, es_rng1, es_rng2, es_enm, eb_one, eb_and, eb_or, eo_nil, eo_some, optI_int, op2_some, op1_some, onL_some, onI_some, consO_some, slX_some, tupX_nil, tupX_1, tupX_2, tupX_3, tupX_4, lstX_nil, negX_int, notX_bool, isnX_none, iteX_t, iteX_f, andX_t, andX_f, orX_t, orX_f, getE_zero, getE_succ, set_z, set_s, Option.map_some, Option.bind_some, u_ixT, g, mN_le, decide_eq_true h]
    rw [hc, ifX_t, x_cons, x_app, hv', getE_succ, getE_succ, getE_zero, appX_some _ _ ha, seqX_nx, x_nil, seqX_nx, x_nil]
    simp
  · rw [decide_eq_false h, if_neg Bool.false_ne_true, List.append_nil]
    rw [e0] at h
    simp -implicitDefEqProofs only [B_q_after_2, x_nil, x_cons, x_pass, x_frz, x_asg, x_asgT, x_app, x_ext, x_put, x_aug, x_ret, x_ifs, seqX_nx, seqX_rt, ifX_t, ifX_f, asgX_some, retX_some, e_var, e_bor, e_int, e_bl, e_non, e_yes, e_str, e_bin, e_neg, e_nt, e_cmp, e_and, e_or, e_ite, e_call, e_bi, e_isi, e_ix, e_sl, e_tup, e_lst, e_dic, e_isn, e_isnn, es_nil, es_cons, es_it, es_rng1, es_rng2, es_enm, eb_one, eb_and, eb_or, eo_nil, eo_some, optI_int, op2_some, op1_some, onL_some, onI_some, consO_some, slX_some, tupX_nil, tupX_1, tupX_2, tupX_3, tupX_4, lstX_nil, negX_int, notX_bool, isnX_none, iteX_t, iteX_f, andX_t, andX_f, orX_t, orX_f, getE_zero, getE_succ, set_z, set_s, Option.map_some, Option.bind_some, u_ixT, g, mN_le, decide_eq_false h]
theorem aft1_pre (ws : List Nat) (p : Nat) (pre : List Nat) (d : Nat) : aft1 ws (pre ++ [d]) p = aft1 ws pre p ++ (if decide (d ≤ ws.getD p 0) = true then [(p, d, put1 ws p d)] else []) := by
  unfold aft1
  rw [List.filter_append, List.map_append]
  congr 1
  by_cases h : d ≤ ws.getD p 0
  · simp only [List.filter_cons, List.filter_nil, decide_eq_true h, if_true, List.map_cons, List.map_nil]
  · simp only [List.filter_cons, List.filter_nil, decide_eq_false h, Bool.false_eq_true, if_false, List.map_nil]
theorem aft1_len (ws digs : List Nat) (p : Nat) : (aft1 ws digs p).length ≤ digs.length := by
  unfold aft1
  rw [List.length_map]
  exact List.length_filter_le _ _
theorem af_L2 (Φ : Nat → List D → Option D) (W : Nat) {ws digs : List Nat} {p : Nat} (hp : p < ws.length) (hl : ws.length ≤ 10) (hdl : digs.length ≤ 10) (l0 : List Mv) (hl0 : l0.length < 1000) (o : Option D) :
    ∃ o', exec Φ W L_q_after_2 [some (.tuple (eNs ws)), some (.tuple (eNs digs)), some (.list (l0.map encA)), some (eN p), o] = some (.nx [some (.tuple (eNs ws)), some (.tuple (eNs digs)), some (.list ((l0 ++ aft1 ws digs p).map encA)), some (eN p), o']) := by
  obtain ⟨ρ', e, o', rfl⟩ := forL_list eN (f := fun x ρ => (bindT (.n 4) x ρ).bind (exec Φ W B_q_after_2)) (fun pre ρ => ∃ o : Option D, ρ = [some (.tuple (eNs ws)), some (.tuple (eNs digs)), some (.list ((l0 ++ aft1 ws pre p).map encA)), some (eN p), o]) digs []
    [some (.tuple (eNs ws)), some (.tuple (eNs digs)), some (.list (l0.map encA)), some (eN p), o] ⟨o, by simp [aft1]⟩ (by
      rintro pre d post ρ e ⟨o, rfl⟩
      have hpl : pre.length ≤ 10 := by have := congrArg List.length e; simp at this; omega
      have hb : bindT (.n 4) (eN d) [some (.tuple (eNs ws)), some (.tuple (eNs digs)), some (.list ((l0 ++ aft1 ws pre p).map encA)), some (eN p), o] = some [some (.tuple (eNs ws)), some (.tuple (eNs digs)), some (.list ((l0 ++ aft1 ws pre p).map encA)), some (eN p), some (eN d)] := by simp [bindT]
      have := aft1_len ws pre p
      refine ⟨_, ?_, some (eN d), rfl⟩
      show (bindT (.n 4) (eN d) _).bind _ = _
      rw [hb, Option.bind_some, af_B2 Φ W _ hp hl _ (by rw [List.length_append]; omega), aft1_pre, List.append_assoc])
  refine ⟨o', ?_⟩
  rw [L_q_after_2, x_for]
  simp -implicitDefEqProofs only [x_nil, x_cons, x_pass, x_frz, x_asg, x_asgT, x_app, x_ext, x_put, x_aug, x_ret, x_ifs, seqX_nx, seqX_rt, ifX_t, ifX_f, asgX_some, retX_some, e_var, e_bor, e_int, e_bl, e_non, e_yes, e_str, e_bin, e_neg, e_nt, e_cmp, e_and, e_or, e_ite, e_call, e_bi, e_isi, e_ix, e_sl, e_tup, e_lst, e_dic, e_isn, e_isnn, es_nil, es_cons, es_it, es_rng1, es_rng2, es_enm, eb_one, eb_and, eb_or, eo_nil, eo_some, optI_int, op2_some, op1_some, onL_some, onI_some, consO_some, slX_some, tupX_nil, tupX_1, tupX_2, tupX_3, tupX_4, lstX_nil, negX_int, notX_bool, isnX_none, iteX_t, iteX_f, andX_t, andX_f, orX_t, orX_f, getE_zero, getE_succ, set_z, set_s, Option.map_some, Option.bind_some, u_itT, forX_some]
  exact e
def aftN (ws digs : List Nat) (n : Nat) : List Mv := (List.range n).flatMap (aft1 ws digs)
theorem aftN_succ (ws digs : List Nat) (n : Nat) : aftN ws digs (n + 1) = aftN ws digs n ++ aft1 ws digs n := by
  unfold aftN
  rw [List.range_succ, List.flatMap_append]
  simp
theorem aftN_len (ws digs : List Nat) (hdl : digs.length ≤ 10) : ∀ n, (aftN ws digs n).length ≤ 10 * n
  | 0 => by simp [aftN]
  | n + 1 => by
    have := aftN_len ws digs hdl n
    have := aft1_len ws digs n
    rw [aftN_succ, List.length_append]
    omega
theorem af_ok (W n : Nat) {ws digs : List Nat} (hl : ws.length ≤ 10) (hdl : digs.length ≤ 10) : R W (n + 1) 10 [.tuple (eNs ws), .tuple (eNs digs)] = some (.list ((aft ws digs).map encA)) := by
  refine run_eq (P := P) (d := t__law_after.df) rfl rfl ?_
  show exec _ W b__law_after [some (.tuple (eNs ws)), some (.tuple (eNs digs)), none, none, none] = _
  obtain ⟨ρ', e, p, q, rfl⟩ := forL_inv (f := fun x ρ => (bindT (.n 3) x ρ).bind (exec (run P W n) W B_q_after_1)) (xs := eNs (List.range ws.length))
    (fun i ρ => ∃ p q : Option D, ρ = [some (.tuple (eNs ws)), some (.tuple (eNs digs)), some (.list ((aftN ws digs i).map encA)), p, q]) (by
      rintro i x ρ hx ⟨p, q, rfl⟩
      obtain ⟨j, hj, rfl⟩ := eNs_get hx
      obtain ⟨hlt, e⟩ := List.getElem?_eq_some_iff.mp hj
      rw [List.getElem_range] at e
      rw [List.length_range] at hlt
      subst e
      have hb : bindT (.n 3) (eN i) [some (.tuple (eNs ws)), some (.tuple (eNs digs)), some (.list ((aftN ws digs i).map encA)), p, q] = some [some (.tuple (eNs ws)), some (.tuple (eNs digs)), some (.list ((aftN ws digs i).map encA)), some (eN i), q] := by simp [bindT]
      have := aftN_len ws digs hdl i
      obtain ⟨o', h⟩ := af_L2 (run P W n) W hlt hl hdl (aftN ws digs i) (by omega) q
      refine ⟨_, .inl ?_, some (eN i), o', rfl⟩
      rw [hb, Option.bind_some, aftN_succ]
      simp -implicitDefEqProofs only [B_q_after_1, x_nil, x_cons, x_pass, x_frz, x_asg, x_asgT, x_app, x_ext, x_put, x_aug, x_ret, x_ifs, seqX_nx, seqX_rt, ifX_t, ifX_f, asgX_some, retX_some, e_var, e_bor, e_int, e_bl, e_non, e_yes, e_str, e_bin, e_neg, e_nt, e_cmp, e_and, e_or, e_ite, e_call, e_bi, e_isi, e_ix, e_sl, e_tup, e_lst, e_dic, e_isn, e_isnn, es_nil, es_cons, es_it, es_rng1, es_rng2, es_enm, eb_one, eb_and, eb_or, eo_nil, eo_some, optI_int, op2_some, op1_some, onL_some, onI_some, consO_some, slX_some, tupX_nil, tupX_1, tupX_2, tupX_3, tupX_4, lstX_nil, negX_int, notX_bool, isnX_none, iteX_t, iteX_f, andX_t, andX_f, orX_t, orX_f, getE_zero, getE_succ, set_z, set_s, Option.map_some, Option.bind_some, h]) [some (.tuple (eNs ws)), some (.tuple (eNs digs)), some (.list []), none, none] ⟨none, none, rfl⟩
  rw [show (eNs (List.range ws.length)).length = ws.length by simp] at e
  have hlen : (eNs ws).length = ws.length := List.length_map _
  have hL : exec (run P W n) W L_q_after_1 [some (.tuple (eNs ws)), some (.tuple (eNs digs)), some (.list []), none, none] = some (.nx [some (.tuple (eNs ws)), some (.tuple (eNs digs)), some (.list ((aft ws digs).map encA)), p, q]) := by
    rw [L_q_after_1, x_for]
    simp -implicitDefEqProofs only [x_nil, x_cons, x_pass, x_frz, x_asg, x_asgT, x_app, x_ext, x_put, x_aug, x_ret, x_ifs, seqX_nx, seqX_rt, ifX_t, ifX_f, asgX_some, retX_some, e_var, e_bor, e_int, e_bl, e_non, e_yes, e_str, e_bin, e_neg, e_nt, e_cmp, e_and, e_or, e_ite, e_call, e_bi, e_isi, e_ix, e_sl, e_tup, e_lst, e_dic, e_isn, e_isnn, es_nil, es_cons, es_it, es_rng1, es_rng2, es_enm, eb_one, eb_and, eb_or, eo_nil, eo_some, optI_int, op2_some, op1_some, onL_some, onI_some, consO_some, slX_some, tupX_nil, tupX_1, tupX_2, tupX_3, tupX_4, lstX_nil, negX_int, notX_bool, isnX_none, iteX_t, iteX_f, andX_t, andX_f, orX_t, orX_f, getE_zero, getE_succ, set_z, set_s, Option.map_some, Option.bind_some, u_lenT, hlen, rngX_int (sm62 (cnt := ws.length) (by omega)), range_eN, forX_some]
    exact e
  simp -implicitDefEqProofs only [b__law_after, x_nil, x_cons, x_pass, x_frz, x_asg, x_asgT, x_app, x_ext, x_put, x_aug, x_ret, x_ifs, seqX_nx, seqX_rt, ifX_t, ifX_f, asgX_some, retX_some, e_var, e_bor, e_int, e_bl, e_non, e_yes, e_str, e_bin, e_neg, e_nt, e_cmp, e_and, e_or, e_ite, e_call, e_bi, e_isi, e_ix, e_sl, e_tup, e_lst, e_dic, e_isn, e_isnn, es_nil, es_cons, es_it, es_rng1, es_rng2, es_enm, eb_one, eb_and, eb_or, eo_nil, eo_some, optI_int, op2_some, op1_some, onL_some, onI_some, consO_some, slX_some, tupX_nil, tupX_1, tupX_2, tupX_3, tupX_4, lstX_nil, negX_int, notX_bool, isnX_none, iteX_t, iteX_f, andX_t, andX_f, orX_t, orX_f, getE_zero, getE_succ, set_z, set_s, Option.map_some, Option.bind_some, hL]
end LW

namespace LW
open PySem PC
/-! ### the told dig -/
def rIn (digs ws : List Nat) (p d : Nat) : Option D := if d ≤ ws.getD p 0 ∧ jx digs (put1 ws p d) = 0 then some (.tuple [eN p, eN d]) else none
def rOut (digs ws : List Nat) (p : Nat) : Option D := digs.findSome? (rIn digs ws p)
def TD (digs ws : List Nat) : D := if jx digs ws = 0 then .none else ((List.range ws.length).findSome? (rOut digs ws)).getD .none
theorem put1_ev2 (Φ : Nat → List D → Option D) {ws : List Nat} {p d : Nat} (hp : p < ws.length) (hl : ws.length ≤ 10) (hd : d ≤ ws.getD p 0) (ρ : PC.Env) (h0 : getE ρ 0 = some (.tuple (eNs ws))) (h2 : getE ρ 2 = some (eN p)) (h3 : getE ρ 3 = some (eN (ws.getD p 0))) (h4 : getE ρ 4 = some (eN d)) :
    ev Φ (.bin .Add (.bin .Add (.sl (.var 0) (.nil) (.cons (.var 2) (.nil))) (.tup (.cons (.bin .Sub (.var 3) (.var 4)) (.nil)))) (.sl (.var 0) (.cons (.bin .Add (.var 2) (.int 1)) (.nil)) (.nil))) ρ = some (.tuple (eNs (put1 ws p d))) := by
  have l1 : ((eNs ws).take p).length + [eN (ws.getD p 0 - d)].length < 1000000 := by simp; omega
  have l2 : ((eNs ws).take p ++ [eN (ws.getD p 0 - d)]).length + ((eNs ws).drop (p + 1)).length < 1000000 := by simp; omega
  simp -implicitDefEqProofs only [x_nil, x_cons, x_pass, x_frz, x_asg, x_asgT, x_app, x_ext, x_put, x_aug, x_ret, x_ifs, seqX_nx, seqX_rt, ifX_t, ifX_f, asgX_some, retX_some, e_var, e_bor, e_int, e_bl, e_non, e_yes, e_str, e_bin, e_neg, e_nt, e_cmp, e_and, e_or, e_ite, e_call, e_bi, e_isi, e_ix, e_sl, e_tup, e_lst, e_dic, e_isn, e_isnn, es_nil, es_cons, es_it, es_rng1, es_rng2, es_enm, eb_one, eb_and, eb_or, eo_nil, eo_some, optI_int, op2_some, op1_some, onL_some, onI_some, consO_some, slX_some, tupX_nil, tupX_1, tupX_2, tupX_3, tupX_4, lstX_nil, negX_int, notX_bool, isnX_none, iteX_t, iteX_f, andX_t, andX_f, orX_t, orX_f, getE_zero, getE_succ, set_z, set_s, Option.map_some, Option.bind_some, h0, h2, h3, h4, sl_take, sl_drop, bN_sub hd, bN_add1, bT_add l1, bT_add l2]
  unfold put1
  simp [eNs]
theorem put1_small {ws : List Nat} (hw : ∀ w ∈ ws, w < 900) (p d : Nat) : ∀ w ∈ put1 ws p d, w < 900 := by
  intro w h
  unfold put1 at h
  rcases List.mem_append.mp h with h | h
  · exact hw w (List.mem_of_mem_take h)
  · rcases List.mem_cons.mp h with h | h
    · subst h
      by_cases hp : p < ws.length
      · have := hw ws[p] (List.getElem_mem hp)
        rw [getD_lt hp]
        omega
      · simp [hp]
    · exact hw w (List.mem_of_mem_drop h)
theorem td_B2 (W n : Nat) {digs ws : List Nat} (hp : Pos digs) (hdl : digs.length < 1000) (hw : ∀ w ∈ ws, w < 900) (hl : ws.length ≤ 10) {p d : Nat} (hpl : p < ws.length) :
    exec (run P W (n + 3)) W B_told_dig_2 [some (.tuple (eNs ws)), some (.tuple (eNs digs)), some (eN p), some (eN (ws.getD p 0)), some (eN d)] = match rIn digs ws p d with
      | some r => some (.rt r)
      | none => some (.nx [some (.tuple (eNs ws)), some (.tuple (eNs digs)), some (eN p), some (eN (ws.getD p 0)), some (eN d)]) := by
  by_cases h : d ≤ ws.getD p 0
  · have hv := put1_ev2 (run P W (n + 3)) hpl hl h [some (.tuple (eNs ws)), some (.tuple (eNs digs)), some (eN p), some (eN (ws.getD p 0)), some (eN d)] (by simp [getE]) (by simp [getE]) (by simp [getE]) (by simp [getE])
    have hj := jn_ok W n hp hdl (put1 ws p d) (put1_small hw p d)
    have hcall : ev (run P W (n + 3)) (.call 2 (.cons (.bin .Add (.bin .Add (.sl (.var 0) (.nil) (.cons (.var 2) (.nil))) (.tup (.cons (.bin .Sub (.var 3) (.var 4)) (.nil)))) (.sl (.var 0) (.cons (.bin .Add (.var 2) (.int 1)) (.nil)) (.nil))) (.cons (.var 1) (.nil)))) [some (.tuple (eNs ws)), some (.tuple (eNs digs)), some (eN p), some (eN (ws.getD p 0)), some (eN d)] = some (eN (jx digs (put1 ws p d))) := by
      rw [e_call, es_cons, hv]
      simp -implicitDefEqProofs only [x_nil, x_cons, x_pass, x_frz, x_asg, x_asgT, x_app, x_ext, x_put, x_aug, x_ret, x_ifs, seqX_nx, seqX_rt, ifX_t, ifX_f, asgX_some, retX_some, e_var, e_bor, e_int, e_bl, e_non, e_yes, e_str, e_bin, e_neg, e_nt, e_cmp, e_and, e_or, e_ite, e_call, e_bi, e_isi, e_ix, e_sl, e_tup, e_lst, e_dic, e_isn, e_isnn, es_nil, es_cons, es_it, es_rng1, es_rng2, es_enm, eb_one, eb_and, eb_or, eo_nil, eo_some, optI_int, op2_some, op1_some, onL_some, onI_some, consO_some, slX_some, tupX_nil, tupX_1, tupX_2, tupX_3, tupX_4, lstX_nil, negX_int, notX_bool, isnX_none, iteX_t, iteX_f, andX_t, andX_f, orX_t, orX_f, getE_zero, getE_succ, set_z, set_s, Option.map_some, Option.bind_some]
      exact hj
    have hle : ev (run P W (n + 3)) (.cmp .LtE (.var 4) (.var 3)) [some (.tuple (eNs ws)), some (.tuple (eNs digs)), some (eN p), some (eN (ws.getD p 0)), some (eN d)] = some (.bool true) := by
      simp -implicitDefEqProofs only [x_nil, x_cons, x_pass, x_frz, x_asg, x_asgT, x_app, x_ext, x_put, x_aug, x_ret, x_ifs, seqX_nx, seqX_rt, ifX_t, ifX_f, asgX_some, retX_some, e_var, e_bor, e_int, e_bl, e_non, e_yes, e_str, e_bin, e_neg, e_nt, e_cmp, e_and, e_or, e_ite, e_call, e_bi, e_isi, e_ix, e_sl, e_tup, e_lst, e_dic, e_isn, e_isnn, es_nil, es_cons, es_it, es_rng1, es_rng2, es_enm, eb_one, eb_and, eb_or, eo_nil, eo_some, optI_int, op2_some, op1_some, onL_some, onI_some, consO_some, slX_some, tupX_nil, tupX_1, tupX_2, tupX_3, tupX_4, lstX_nil, negX_int, notX_bool, isnX_none, iteX_t, iteX_f, andX_t, andX_f, orX_t, orX_f, getE_zero, getE_succ, set_z, set_s, Option.map_some, Option.bind_some, mN_le, decide_eq_true h]
    have hz : decide (((jx digs (put1 ws p d) : Nat) : Int) = 0) = decide (jx digs (put1 ws p d) = 0) := by
      by_cases e : jx digs (put1 ws p d) = 0
      · rw [e]; rfl
      · rw [decide_eq_false e, decide_eq_false (by omega)]
    unfold rIn
    rw [B_told_dig_2, x_cons, x_ifs, e_and, eb_and, hle, andX_t, eb_one, e_cmp, hcall, e_int, op2_some, m_eq, hz]
    by_cases e : jx digs (put1 ws p d) = 0
    · rw [decide_eq_true e, if_pos ⟨h, e⟩]
      simp -implicitDefEqProofs only [x_nil, x_cons, x_pass, x_frz, x_asg, x_asgT, x_app, x_ext, x_put, x_aug, x_ret, x_ifs, seqX_nx, seqX_rt, ifX_t, ifX_f, asgX_some, retX_some, e_var, e_bor, e_int, e_bl, e_non, e_yes, e_str, e_bin, e_neg, e_nt, e_cmp, e_and, e_or, e_ite, e_call, e_bi, e_isi, e_ix, e_sl, e_tup, e_lst, e_dic, e_isn, e_isnn, es_nil, es_cons, es_it, es_rng1, es_rng2, es_enm, eb_one, eb_and, eb_or, eo_nil, eo_some, optI_int, op2_some, op1_some, onL_some, onI_some, consO_some, slX_some, tupX_nil, tupX_1, tupX_2, tupX_3, tupX_4, lstX_nil, negX_int, notX_bool, isnX_none, iteX_t, iteX_f, andX_t, andX_f, orX_t, orX_f, getE_zero, getE_succ, set_z, set_s, Option.map_some, Option.bind_some]
    · rw [decide_eq_false e, if_neg fun q => e q.2]
      simp -implicitDefEqProofs only [x_nil, x_cons, x_pass, x_frz, x_asg, x_asgT, x_app, x_ext, x_put, x_aug, x_ret, x_ifs, seqX_nx, seqX_rt, ifX_t, ifX_f, asgX_some, retX_some, e_var, e_bor, e_int, e_bl, e_non, e_yes, e_str, e_bin, e_neg, e_nt, e_cmp, e_and, e_or, e_ite, e_call, e_bi, e_isi, e_ix, e_sl, e_tup, e_lst, e_dic, e_isn, e_isnn, es_nil, es_cons, es_it, es_rng1, es_rng2, es_enm, eb_one, eb_and, eb_or, eo_nil, eo_some, optI_int, op2_some, op1_some, onL_some, onI_some, consO_some, slX_some, tupX_nil, tupX_1, tupX_2, tupX_3, tupX_4, lstX_nil, negX_int, notX_bool, isnX_none, iteX_t, iteX_f, andX_t, andX_f, orX_t, orX_f, getE_zero, getE_succ, set_z, set_s, Option.map_some, Option.bind_some]
  · unfold rIn
    rw [if_neg fun q => h q.1]
    simp -implicitDefEqProofs only [B_told_dig_2, x_nil, x_cons, x_pass, x_frz, x_asg, x_asgT, x_app, x_ext, x_put, x_aug, x_ret, x_ifs, seqX_nx, seqX_rt, ifX_t, ifX_f, asgX_some, retX_some, e_var, e_bor, e_int, e_bl, e_non, e_yes, e_str, e_bin, e_neg, e_nt, e_cmp, e_and, e_or, e_ite, e_call, e_bi, e_isi, e_ix, e_sl, e_tup, e_lst, e_dic, e_isn, e_isnn, es_nil, es_cons, es_it, es_rng1, es_rng2, es_enm, eb_one, eb_and, eb_or, eo_nil, eo_some, optI_int, op2_some, op1_some, onL_some, onI_some, consO_some, slX_some, tupX_nil, tupX_1, tupX_2, tupX_3, tupX_4, lstX_nil, negX_int, notX_bool, isnX_none, iteX_t, iteX_f, andX_t, andX_f, orX_t, orX_f, getE_zero, getE_succ, set_z, set_s, Option.map_some, Option.bind_some, mN_le, decide_eq_false h]
theorem td_L2 (W n : Nat) {digs ws : List Nat} (hp : Pos digs) (hdl : digs.length < 1000) (hw : ∀ w ∈ ws, w < 900) (hl : ws.length ≤ 10) {p : Nat} (hpl : p < ws.length) (o : Option D) :
    (rOut digs ws p = none → ∃ o', exec (run P W (n + 3)) W L_told_dig_2 [some (.tuple (eNs ws)), some (.tuple (eNs digs)), some (eN p), some (eN (ws.getD p 0)), o] = some (.nx [some (.tuple (eNs ws)), some (.tuple (eNs digs)), some (eN p), some (eN (ws.getD p 0)), o'])) ∧
    ∀ r, rOut digs ws p = some r → exec (run P W (n + 3)) W L_told_dig_2 [some (.tuple (eNs ws)), some (.tuple (eNs digs)), some (eN p), some (eN (ws.getD p 0)), o] = some (.rt r) := by
  have q := forL_find eN (f := fun x ρ => (bindT (.n 4) x ρ).bind (exec (run P W (n + 3)) W B_told_dig_2)) (fun ρ => ∃ o : Option D, ρ = [some (.tuple (eNs ws)), some (.tuple (eNs digs)), some (eN p), some (eN (ws.getD p 0)), o]) (rIn digs ws p) digs (by
    rintro d _ ρ ⟨o, rfl⟩
    have hb : bindT (.n 4) (eN d) [some (.tuple (eNs ws)), some (.tuple (eNs digs)), some (eN p), some (eN (ws.getD p 0)), o] = some [some (.tuple (eNs ws)), some (.tuple (eNs digs)), some (eN p), some (eN (ws.getD p 0)), some (eN d)] := by simp [bindT]
    have hB := td_B2 W n hp hdl hw hl hpl (d := d)
    refine ⟨fun hr => ⟨_, ?_, some (eN d), rfl⟩, fun r hr => ?_⟩
    · show (bindT (.n 4) (eN d) _).bind _ = _
      rw [hb, Option.bind_some, hB, hr]
    · show (bindT (.n 4) (eN d) _).bind _ = _
      rw [hb, Option.bind_some, hB, hr]) _ ⟨o, rfl⟩
  have hL : exec (run P W (n + 3)) W L_told_dig_2 [some (.tuple (eNs ws)), some (.tuple (eNs digs)), some (eN p), some (eN (ws.getD p 0)), o] = forL (fun x ρ => (bindT (.n 4) x ρ).bind (exec (run P W (n + 3)) W B_told_dig_2)) (digs.map eN) [some (.tuple (eNs ws)), some (.tuple (eNs digs)), some (eN p), some (eN (ws.getD p 0)), o] := by
    rw [L_told_dig_2, x_for]
    simp -implicitDefEqProofs only [x_nil, x_cons, x_pass, x_frz, x_asg, x_asgT, x_app, x_ext, x_put, x_aug, x_ret, x_ifs, seqX_nx, seqX_rt, ifX_t, ifX_f, asgX_some, retX_some, e_var, e_bor, e_int, e_bl, e_non, e_yes, e_str, e_bin, e_neg, e_nt, e_cmp, e_and, e_or, e_ite, e_call, e_bi, e_isi, e_ix, e_sl, e_tup, e_lst, e_dic, e_isn, e_isnn, es_nil, es_cons, es_it, es_rng1, es_rng2, es_enm, eb_one, eb_and, eb_or, eo_nil, eo_some, optI_int, op2_some, op1_some, onL_some, onI_some, consO_some, slX_some, tupX_nil, tupX_1, tupX_2, tupX_3, tupX_4, lstX_nil, negX_int, notX_bool, isnX_none, iteX_t, iteX_f, andX_t, andX_f, orX_t, orX_f, getE_zero, getE_succ, set_z, set_s, Option.map_some, Option.bind_some, u_itT, forX_some]
  refine ⟨fun hr => ?_, fun r hr => by rw [hL]; exact q.2 r hr⟩
  obtain ⟨ρ', e, o', rfl⟩ := q.1 hr
  exact ⟨o', by rw [hL]; exact e⟩
theorem enmX_T (xs : List D) : enmX (.tuple xs) = some (enumL xs) := by rw [enmX]
theorem td_ok (W n : Nat) {digs ws : List Nat} (hp : Pos digs) (hdl : digs.length < 1000) (hw : ∀ w ∈ ws, w < 900) (hl : ws.length ≤ 10) : R W (n + 4) 3 [.tuple (eNs ws), .tuple (eNs digs)] = some (TD digs ws) := by
  refine run_eq (P := P) (d := t_told_dig.df) rfl rfl ?_
  show exec _ W b_told_dig [some (.tuple (eNs ws)), some (.tuple (eNs digs)), none, none, none] = _
  have hj := jn_ok W n hp hdl ws hw
  have hz : decide (((jx digs ws : Nat) : Int) = 0) = decide (jx digs ws = 0) := by
    by_cases e : jx digs ws = 0
    · rw [e]; rfl
    · rw [decide_eq_false e, decide_eq_false (by omega)]
  unfold TD
  by_cases h0 : jx digs ws = 0
  · rw [if_pos h0]
    rw [decide_eq_true h0] at hz
    simp -implicitDefEqProofs only [b_told_dig, x_nil, x_cons, x_pass, x_frz, x_asg, x_asgT, x_app, x_ext, x_put, x_aug, x_ret, x_ifs, seqX_nx, seqX_rt, ifX_t, ifX_f, asgX_some, retX_some, e_var, e_bor, e_int, e_bl, e_non, e_yes, e_str, e_bin, e_neg, e_nt, e_cmp, e_and, e_or, e_ite, e_call, e_bi, e_isi, e_ix, e_sl, e_tup, e_lst, e_dic, e_isn, e_isnn, es_nil, es_cons, es_it, es_rng1, es_rng2, es_enm, eb_one, eb_and, eb_or, eo_nil, eo_some, optI_int, op2_some, op1_some, onL_some, onI_some, consO_some, slX_some, tupX_nil, tupX_1, tupX_2, tupX_3, tupX_4, lstX_nil, negX_int, notX_bool, isnX_none, iteX_t, iteX_f, andX_t, andX_f, orX_t, orX_f, getE_zero, getE_succ, set_z, set_s, Option.map_some, Option.bind_some, show run P W (n + 3) 2 [.tuple (eNs ws), .tuple (eNs digs)] = _ from hj, m_eq, hz]
  · rw [if_neg h0]
    rw [decide_eq_false h0] at hz
    have q := forL_find (fun p => PyData.tuple [eN p, eN (ws.getD p 0)]) (f := fun x ρ => (bindT (.cons (.n 2) (.cons (.n 3) (.nil))) x ρ).bind (exec (run P W (n + 3)) W B_told_dig_1)) (fun ρ => ∃ a b c : Option D, ρ = [some (.tuple (eNs ws)), some (.tuple (eNs digs)), a, b, c]) (rOut digs ws) (List.range ws.length) (by
      rintro p hpm ρ ⟨a, b, c, rfl⟩
      have hpl : p < ws.length := List.mem_range.mp hpm
      have hb : bindT (.cons (.n 2) (.cons (.n 3) (.nil))) (.tuple [eN p, eN (ws.getD p 0)]) [some (.tuple (eNs ws)), some (.tuple (eNs digs)), a, b, c] = some [some (.tuple (eNs ws)), some (.tuple (eNs digs)), some (eN p), some (eN (ws.getD p 0)), c] := by simp [bindT, bindTs]
      obtain ⟨g1, g2⟩ := td_L2 W n hp hdl hw hl hpl c
      refine ⟨fun hr => ?_, fun r hr => ?_⟩
      · obtain ⟨o', e⟩ := g1 hr
        refine ⟨_, ?_, some (eN p), some (eN (ws.getD p 0)), o', rfl⟩
        show (bindT _ _ _).bind _ = _
        rw [hb, Option.bind_some]
        simp -implicitDefEqProofs only [B_told_dig_1, x_nil, x_cons, x_pass, x_frz, x_asg, x_asgT, x_app, x_ext, x_put, x_aug, x_ret, x_ifs, seqX_nx, seqX_rt, ifX_t, ifX_f, asgX_some, retX_some, e_var, e_bor, e_int, e_bl, e_non, e_yes, e_str, e_bin, e_neg, e_nt, e_cmp, e_and, e_or, e_ite, e_call, e_bi, e_isi, e_ix, e_sl, e_tup, e_lst, e_dic, e_isn, e_isnn, es_nil, es_cons, es_it, es_rng1, es_rng2, es_enm, eb_one, eb_and, eb_or, eo_nil, eo_some, optI_int, op2_some, op1_some, onL_some, onI_some, consO_some, slX_some, tupX_nil, tupX_1, tupX_2, tupX_3, tupX_4, lstX_nil, negX_int, notX_bool, isnX_none, iteX_t, iteX_f, andX_t, andX_f, orX_t, orX_f, getE_zero, getE_succ, set_z, set_s, Option.map_some, Option.bind_some, e]
      · show (bindT _ _ _).bind _ = _
        rw [hb, Option.bind_some]
        simp -implicitDefEqProofs only [B_told_dig_1, x_nil, x_cons, x_pass, x_frz, x_asg, x_asgT, x_app, x_ext, x_put, x_aug, x_ret, x_ifs, seqX_nx, seqX_rt, ifX_t, ifX_f, asgX_some, retX_some, e_var, e_bor, e_int, e_bl, e_non, e_yes, e_str, e_bin, e_neg, e_nt, e_cmp, e_and, e_or, e_ite, e_call, e_bi, e_isi, e_ix, e_sl, e_tup, e_lst, e_dic, e_isn, e_isnn, es_nil, es_cons, es_it, es_rng1, es_rng2, es_enm, eb_one, eb_and, eb_or, eo_nil, eo_some, optI_int, op2_some, op1_some, onL_some, onI_some, consO_some, slX_some, tupX_nil, tupX_1, tupX_2, tupX_3, tupX_4, lstX_nil, negX_int, notX_bool, isnX_none, iteX_t, iteX_f, andX_t, andX_f, orX_t, orX_f, getE_zero, getE_succ, set_z, set_s, Option.map_some, Option.bind_some, g2 r hr]) [some (.tuple (eNs ws)), some (.tuple (eNs digs)), none, none, none] ⟨none, none, none, rfl⟩
    have hL : exec (run P W (n + 3)) W L_told_dig_1 [some (.tuple (eNs ws)), some (.tuple (eNs digs)), none, none, none] = forL (fun x ρ => (bindT (.cons (.n 2) (.cons (.n 3) (.nil))) x ρ).bind (exec (run P W (n + 3)) W B_told_dig_1)) ((List.range ws.length).map fun p => PyData.tuple [eN p, eN (ws.getD p 0)]) [some (.tuple (eNs ws)), some (.tuple (eNs digs)), none, none, none] := by
      rw [L_told_dig_1, x_for]
      simp -implicitDefEqProofs only [x_nil, x_cons, x_pass, x_frz, x_asg, x_asgT, x_app, x_ext, x_put, x_aug, x_ret, x_ifs, seqX_nx, seqX_rt, ifX_t, ifX_f, asgX_some, retX_some, e_var, e_bor, e_int, e_bl, e_non, e_yes, e_str, e_bin, e_neg, e_nt, e_cmp, e_and, e_or, e_ite, e_call, e_bi, e_isi, e_ix, e_sl, e_tup, e_lst, e_dic, e_isn, e_isnn, es_nil, es_cons, es_it, es_rng1, es_rng2, es_enm, eb_one, eb_and, eb_or, eo_nil, eo_some, optI_int, op2_some, op1_some, onL_some, onI_some, consO_some, slX_some, tupX_nil, tupX_1, tupX_2, tupX_3, tupX_4, lstX_nil, negX_int, notX_bool, isnX_none, iteX_t, iteX_f, andX_t, andX_f, orX_t, orX_f, getE_zero, getE_succ, set_z, set_s, Option.map_some, Option.bind_some, enmX_T, enum_map, forX_some]
    cases hr : (List.range ws.length).findSome? (rOut digs ws) with
    | none =>
      obtain ⟨ρ', e, _⟩ := q.1 hr
      rw [← hL] at e
      simp -implicitDefEqProofs only [b_told_dig, x_nil, x_cons, x_pass, x_frz, x_asg, x_asgT, x_app, x_ext, x_put, x_aug, x_ret, x_ifs, seqX_nx, seqX_rt, ifX_t, ifX_f, asgX_some, retX_some, e_var, e_bor, e_int, e_bl, e_non, e_yes, e_str, e_bin, e_neg, e_nt, e_cmp, e_and, e_or, e_ite, e_call, e_bi, e_isi, e_ix, e_sl, e_tup, e_lst, e_dic, e_isn, e_isnn, es_nil, es_cons, es_it, es_rng1, es_rng2, es_enm, eb_one, eb_and, eb_or, eo_nil, eo_some, optI_int, op2_some, op1_some, onL_some, onI_some, consO_some, slX_some, tupX_nil, tupX_1, tupX_2, tupX_3, tupX_4, lstX_nil, negX_int, notX_bool, isnX_none, iteX_t, iteX_f, andX_t, andX_f, orX_t, orX_f, getE_zero, getE_succ, set_z, set_s, Option.map_some, Option.bind_some, show run P W (n + 3) 2 [.tuple (eNs ws), .tuple (eNs digs)] = _ from hj, m_eq, hz, e, Option.getD_none]
    | some r =>
      have e := q.2 r hr
      rw [← hL] at e
      simp -implicitDefEqProofs only [b_told_dig, x_nil, x_cons, x_pass, x_frz, x_asg, x_asgT, x_app, x_ext, x_put, x_aug, x_ret, x_ifs, seqX_nx, seqX_rt, ifX_t, ifX_f, asgX_some, retX_some, e_var, e_bor, e_int, e_bl, e_non, e_yes, e_str, e_bin, e_neg, e_nt, e_cmp, e_and, e_or, e_ite, e_call, e_bi, e_isi, e_ix, e_sl, e_tup, e_lst, e_dic, e_isn, e_isnn, es_nil, es_cons, es_it, es_rng1, es_rng2, es_enm, eb_one, eb_and, eb_or, eo_nil, eo_some, optI_int, op2_some, op1_some, onL_some, onI_some, consO_some, slX_some, tupX_nil, tupX_1, tupX_2, tupX_3, tupX_4, lstX_nil, negX_int, notX_bool, isnX_none, iteX_t, iteX_f, andX_t, andX_f, orX_t, orX_f, getE_zero, getE_succ, set_z, set_s, Option.map_some, Option.bind_some, show run P W (n + 3) 2 [.tuple (eNs ws), .tuple (eNs digs)] = _ from hj, m_eq, hz, e, Option.getD_some]
end LW

namespace LW
open PySem PC
/-! ### all smaller wells -/
def block (w : Nat) (row : List Nat) : List (List Nat) := (List.range (w + 1)).map fun x => row ++ [x]
def grow (E : List (List Nat)) (w : Nat) : List (List Nat) := E.flatMap (block w)
def every (ws : List Nat) : List (List Nat) := ws.foldl grow [[]]
def Move (l l' : List Nat) : Prop := ∃ i v, i < l.length ∧ v < l.getD i 0 ∧ l' = l.take i ++ v :: l.drop (i + 1)
def Closed (E : List (List Nat)) : Prop := ∀ p a q, E = p ++ a :: q → ∀ l, Move a l → l ∈ p
theorem block_split {w : Nat} {row a : List Nat} {p q : List (List Nat)} (h : block w row = p ++ a :: q) : ∃ x, x ≤ w ∧ a = row ++ [x] ∧ ∀ y < x, row ++ [y] ∈ p := by
  have hl := congrArg List.length h
  simp [block] at hl
  have hx : p.length < w + 1 := by omega
  have ha : (block w row)[p.length]? = some a := by rw [h]; simp
  simp [block, hx] at ha
  refine ⟨p.length, by omega, ha.symm, fun y hy => ?_⟩
  have hy' : (block w row)[y]? = p[y]? := by rw [h, List.getElem?_append_left hy]
  have hyw : y < w + 1 := Nat.lt_trans hy hx
  have hy2 : (block w row)[y]? = some (row ++ [y]) := by simp [block, hyw]
  rw [hy2] at hy'
  exact List.mem_of_getElem? hy'.symm
theorem grow_split {w : Nat} : ∀ {E p q : List (List Nat)} {a : List Nat}, grow E w = p ++ a :: q → ∃ P row Q x, E = P ++ row :: Q ∧ x ≤ w ∧ a = row ++ [x] ∧ (∀ l ∈ grow P w, l ∈ p) ∧ ∀ y < x, row ++ [y] ∈ p
  | [], p, q, a, h => by
    have := congrArg List.length h
    simp [grow] at this
  | row :: E, p, q, a, h => by
    have h' : block w row ++ grow E w = p ++ a :: q := by rw [← h]; simp [grow]
    rcases List.append_eq_append_iff.mp h' with ⟨r, h1, h2⟩ | ⟨r, h1, h2⟩
    · -- p = block ++ r
      obtain ⟨P, row', Q, x, e1, e2, e3, e4, e5⟩ := grow_split h2
      refine ⟨row :: P, row', Q, x, by rw [e1]; rfl, e2, e3, fun l hl => ?_, fun y hy => ?_⟩
      · have hl' : l ∈ block w row ++ grow P w := by simpa [grow] using hl
        rw [h1]
        rcases List.mem_append.mp hl' with z | z
        · exact List.mem_append_left _ z
        · exact List.mem_append_right _ (e4 l z)
      · rw [h1]; exact List.mem_append_right _ (e5 y hy)
    · -- block = p ++ r
      cases r with
      | nil =>
        rw [List.append_nil] at h1
        rw [List.nil_append] at h2
        obtain ⟨P, row', Q, x, e1, e2, e3, e4, e5⟩ := grow_split (p := []) (a := a) (q := q) (E := E) h2.symm
        refine ⟨row :: P, row', Q, x, by rw [e1]; rfl, e2, e3, fun l hl => ?_, fun y hy => absurd (e5 y hy) (by simp)⟩
        have hl' : l ∈ block w row ++ grow P w := by simpa [grow] using hl
        rcases List.mem_append.mp hl' with z | z
        · rw [← h1]; exact z
        · exact absurd (e4 l z) (by simp)
      | cons b r =>
        rw [List.cons_append] at h2
        injection h2 with h3 h4
        subst h3
        obtain ⟨x, e1, e2, e3⟩ := block_split h1
        exact ⟨[], row, E, x, rfl, e1, e2, fun l hl => absurd hl (by simp [grow]), e3⟩
theorem closed_grow {E : List (List Nat)} (h : Closed E) (w : Nat) : Closed (grow E w) := by
  intro p a q e l ⟨i, v, hi, hv, hl⟩
  obtain ⟨P, row, Q, x, e1, e2, rfl, e4, e5⟩ := grow_split e
  by_cases hr : i < row.length
  · have hv' : v < row.getD i 0 := by
      simp [List.getElem?_append_left hr] at hv ⊢
      exact hv
    have hm := h P row Q e1 _ ⟨i, v, hr, hv', rfl⟩
    refine e4 l ?_
    rw [hl, List.take_append_of_le_length (by omega), List.drop_append_of_le_length (by omega)]
    unfold grow
    rw [List.mem_flatMap]
    refine ⟨_, hm, ?_⟩
    unfold block
    rw [List.mem_map]
    exact ⟨x, by simp; omega, by simp⟩
  · have hi' : i = row.length := by simp at hi; omega
    subst hi'
    have hv' : v < x := by simpa using hv
    rw [hl]
    simpa using e5 v hv'
theorem closed_every : ∀ (ws : List Nat) (E : List (List Nat)), Closed E → Closed (ws.foldl grow E)
  | [], _, h => h
  | w :: ws, E, h => closed_every ws (grow E w) (closed_grow h w)
theorem closed_one : Closed [[]] := by
  intro p a q e l ⟨i, v, hi, hv, hl⟩
  have : a = [] := by
    cases p with
    | nil => simp at e; exact e.1
    | cons b p =>
      have := congrArg List.length e
      simp at this
  subst this
  simp at hi
theorem grow_len (E : List (List Nat)) (w : Nat) : (grow E w).length = E.length * (w + 1) := by
  induction E with
  | nil => simp [grow]
  | cons a E ih =>
    have : grow (a :: E) w = block w a ++ grow E w := by simp [grow]
    rw [this, List.length_append, ih]
    simp [block, Nat.add_mul]
    omega
theorem every_len : ∀ (ws : List Nat) (E : List (List Nat)), (∀ w ∈ ws, w ≤ 7) → (ws.foldl grow E).length ≤ E.length * 8 ^ ws.length
  | [], E, _ => by simp
  | w :: ws, E, h => by
    have ih := every_len ws (grow E w) fun x hx => h x (by simp [hx])
    have hw := h w (by simp)
    rw [grow_len] at ih
    rw [List.foldl_cons, List.length_cons, Nat.pow_succ]
    refine Nat.le_trans ih ?_
    have : E.length * (w + 1) * 8 ^ ws.length ≤ E.length * 8 * 8 ^ ws.length := Nat.mul_le_mul_right _ (Nat.mul_le_mul_left _ (by omega))
    rw [Nat.mul_comm (8 ^ ws.length) 8, ← Nat.mul_assoc]
    exact this
theorem aft_move {ws digs : List Nat} (hp : Pos digs) : ∀ t ∈ aft ws digs, Move ws t.2.2 := by
  intro t ht
  unfold aft at ht
  obtain ⟨p, hpm, ht⟩ := List.mem_flatMap.mp ht
  unfold aft1 at ht
  obtain ⟨d, hd, rfl⟩ := List.mem_map.mp ht
  obtain ⟨hd1, hd2⟩ := List.mem_filter.mp hd
  have h1 := (hp d hd1).1
  have h2 : d ≤ ws.getD p 0 := by simpa using hd2
  exact ⟨p, ws.getD p 0 - d, List.mem_range.mp hpm, by omega, rfl⟩
/-! ### every: the code -/
theorem lw2_C1 (Φ : Nat → List D → Option D) (a b c : D) (w : Nat) (hw : w ≤ 30) (row : List Nat) (hr : row.length ≤ 10) (e f g h i : Option D) :
    ev Φ C_q_wins_1 [some a, some b, some c, some (eN w), e, f, g, some (eT row), h, i] = some (.list ((block w row).map eT)) := by
  rw [C_q_wins_1, e_lc]
  simp -implicitDefEqProofs only [x_nil, x_cons, x_pass, x_frz, x_asg, x_asgT, x_app, x_ext, x_put, x_aug, x_ret, x_ifs, seqX_nx, seqX_rt, ifX_t, ifX_f, asgX_some, retX_some, e_var, e_bor, e_int, e_bl, e_non, e_yes, e_str, e_bin, e_neg, e_nt, e_cmp, e_and, e_or, e_ite, e_call, e_bi, e_isi, e_ix, e_sl, e_tup, e_lst, e_dic, e_isn, e_isnn, es_nil, es_cons, es_it, es_rng1, es_rng2, es_enm, eb_one, eb_and, eb_or, eo_nil, eo_some, optI_int, op2_some, op1_some, onL_some, onI_some, consO_some, slX_some, tupX_nil, tupX_1, tupX_2, tupX_3, tupX_4, lstX_nil, negX_int, notX_bool, isnX_none, iteX_t, iteX_f, andX_t, andX_f, orX_t, orX_f, getE_zero, getE_succ, set_z, set_s, Option.map_some, Option.bind_some, bN_add1, rngX_int (sm62 (cnt := w + 1) (by omega)), range_eN]
  rw [lcX_all eN (fun x => eT (row ++ [x])) (by rw [List.length_range]; exact Nat.le_of_lt (Nat.lt_trans (by omega : w + 1 < 1000) (by decide)))]
  · unfold block
    rw [List.map_map]
    rfl
  intro x _
  have hb : bindT (.n 8) (eN x) (wipeE [some a, some b, some c, some (eN w), e, f, g, some (eT row), h, i] [8]) = some [some a, some b, some c, some (eN w), e, f, g, some (eT row), some (eN x), i] := by simp [bindT, wipeE]
  have l1 : (eNs row).length + [eN x].length < 1000000 := by simp; omega
  refine compF_t hb (by simp -implicitDefEqProofs only [x_nil, x_cons, x_pass, x_frz, x_asg, x_asgT, x_app, x_ext, x_put, x_aug, x_ret, x_ifs, seqX_nx, seqX_rt, ifX_t, ifX_f, asgX_some, retX_some, e_var, e_bor, e_int, e_bl, e_non, e_yes, e_str, e_bin, e_neg, e_nt, e_cmp, e_and, e_or, e_ite, e_call, e_bi, e_isi, e_ix, e_sl, e_tup, e_lst, e_dic, e_isn, e_isnn, es_nil, es_cons, es_it, es_rng1, es_rng2, es_enm, eb_one, eb_and, eb_or, eo_nil, eo_some, optI_int, op2_some, op1_some, onL_some, onI_some, consO_some, slX_some, tupX_nil, tupX_1, tupX_2, tupX_3, tupX_4, lstX_nil, negX_int, notX_bool, isnX_none, iteX_t, iteX_f, andX_t, andX_f, orX_t, orX_f, getE_zero, getE_succ, set_z, set_s, Option.map_some, Option.bind_some]) ?_
  simp -implicitDefEqProofs only [x_nil, x_cons, x_pass, x_frz, x_asg, x_asgT, x_app, x_ext, x_put, x_aug, x_ret, x_ifs, seqX_nx, seqX_rt, ifX_t, ifX_f, asgX_some, retX_some, e_var, e_bor, e_int, e_bl, e_non, e_yes, e_str, e_bin, e_neg, e_nt, e_cmp, e_and, e_or, e_ite, e_call, e_bi, e_isi, e_ix, e_sl, e_tup, e_lst, e_dic, e_isn, e_isnn, es_nil, es_cons, es_it, es_rng1, es_rng2, es_enm, eb_one, eb_and, eb_or, eo_nil, eo_some, optI_int, op2_some, op1_some, onL_some, onI_some, consO_some, slX_some, tupX_nil, tupX_1, tupX_2, tupX_3, tupX_4, lstX_nil, negX_int, notX_bool, isnX_none, iteX_t, iteX_f, andX_t, andX_f, orX_t, orX_f, getE_zero, getE_succ, set_z, set_s, Option.map_some, Option.bind_some, bT_add l1]
  simp
theorem lw2_L2 (Φ : Nat → List D → Option D) (W : Nat) (a b : D) (E : List (List Nat)) (hE : E.length ≤ 600) (hr : ∀ r ∈ E, r.length ≤ 10) (w : Nat) (hw : w ≤ 30) (e f h i : Option D) :
    ∃ r' h', exec Φ W L_q_wins_2 [some a, some b, some (.list (E.map eT)), some (eN w), e, f, some (.list []), h, i, none] = some (.nx [some a, some b, some (.list (E.map eT)), some (eN w), e, f, some (.list ((grow E w).map eT)), r', h', none]) := by
  obtain ⟨ρ', e1, r', h', rfl⟩ := forL_list eT (f := fun x ρ => (bindT (.n 7) x ρ).bind (exec Φ W B_q_wins_2)) (fun pre ρ => ∃ r h : Option D, ρ = [some a, some b, some (.list (E.map eT)), some (eN w), e, f, some (.list ((grow pre w).map eT)), r, h, none]) E []
    [some a, some b, some (.list (E.map eT)), some (eN w), e, f, some (.list []), h, i, none] ⟨h, i, by simp [grow]⟩ (by
      rintro pre row post ρ eq ⟨r, h, rfl⟩
      have hpl : pre.length ≤ 600 := by have := congrArg List.length eq; simp at this; omega
      have hrow : row.length ≤ 10 := hr row (by have : E = pre ++ row :: post := by simpa using eq
                                                rw [this]; simp)
      have hb : bindT (.n 7) (eT row) [some a, some b, some (.list (E.map eT)), some (eN w), e, f, some (.list ((grow pre w).map eT)), r, h, none] = some [some a, some b, some (.list (E.map eT)), some (eN w), e, f, some (.list ((grow pre w).map eT)), some (eT row), h, none] := by simp [bindT]
      have hC := lw2_C1 Φ a b (.list (E.map eT)) w hw row hrow e f (some (.list ((grow pre w).map eT))) h none
      have l1 : ((grow pre w).map eT).length + ((block w row).map eT).length < 1000000 := by
        rw [List.length_map, grow_len, List.length_map]
        simp [block]
        have : pre.length * (w + 1) ≤ 600 * 31 := Nat.mul_le_mul hpl (by omega)
        omega
      refine ⟨_, ?_, some (eT row), h, rfl⟩
      show (bindT (.n 7) (eT row) _).bind _ = _
      rw [hb, Option.bind_some]
      have hg : grow (pre ++ [row]) w = grow pre w ++ block w row := by simp [grow]
      simp -implicitDefEqProofs only [B_q_wins_2, x_nil, x_cons, x_pass, x_frz, x_asg, x_asgT, x_app, x_ext, x_put, x_aug, x_ret, x_ifs, seqX_nx, seqX_rt, ifX_t, ifX_f, asgX_some, retX_some, e_var, e_bor, e_int, e_bl, e_non, e_yes, e_str, e_bin, e_neg, e_nt, e_cmp, e_and, e_or, e_ite, e_call, e_bi, e_isi, e_ix, e_sl, e_tup, e_lst, e_dic, e_isn, e_isnn, es_nil, es_cons, es_it, es_rng1, es_rng2, es_enm, eb_one, eb_and, eb_or, eo_nil, eo_some, optI_int, op2_some, op1_some, onL_some, onI_some, consO_some, slX_some, tupX_nil, tupX_1, tupX_2, tupX_3, tupX_4, lstX_nil, negX_int, notX_bool, isnX_none, iteX_t, iteX_f, andX_t, andX_f, orX_t, orX_f, getE_zero, getE_succ, set_z, set_s, Option.map_some, Option.bind_some, hC, bL_add l1]
      rw [hg, List.map_append])
  refine ⟨r', h', ?_⟩
  rw [L_q_wins_2, x_for]
  simp -implicitDefEqProofs only [x_nil, x_cons, x_pass, x_frz, x_asg, x_asgT, x_app, x_ext, x_put, x_aug, x_ret, x_ifs, seqX_nx, seqX_rt, ifX_t, ifX_f, asgX_some, retX_some, e_var, e_bor, e_int, e_bl, e_non, e_yes, e_str, e_bin, e_neg, e_nt, e_cmp, e_and, e_or, e_ite, e_call, e_bi, e_isi, e_ix, e_sl, e_tup, e_lst, e_dic, e_isn, e_isnn, es_nil, es_cons, es_it, es_rng1, es_rng2, es_enm, eb_one, eb_and, eb_or, eo_nil, eo_some, optI_int, op2_some, op1_some, onL_some, onI_some, consO_some, slX_some, tupX_nil, tupX_1, tupX_2, tupX_3, tupX_4, lstX_nil, negX_int, notX_bool, isnX_none, iteX_t, iteX_f, andX_t, andX_f, orX_t, orX_f, getE_zero, getE_succ, set_z, set_s, Option.map_some, Option.bind_some, u_itL, forX_some]
  exact e1
theorem every_row : ∀ (ws : List Nat) (E : List (List Nat)) (n : Nat), (∀ r ∈ E, r.length = n) → ∀ r ∈ ws.foldl grow E, r.length = n + ws.length
  | [], E, n, h, r, hr => by simpa using h r hr
  | w :: ws, E, n, h, r, hr => by
    have := every_row ws (grow E w) (n + 1) (fun r hr => by
      unfold grow block at hr
      obtain ⟨row, h1, h2⟩ := List.mem_flatMap.mp hr
      obtain ⟨x, _, rfl⟩ := List.mem_map.mp h2
      simp [h row h1]) r hr
    rw [this, List.length_cons]
    omega
theorem lw2_L1 (Φ : Nat → List D → Option D) (W : Nat) (b : D) {ws : List Nat} (hl : ws.length ≤ 3) (hw : ∀ w ∈ ws, w ≤ 7) :
    ∃ c f g h, exec Φ W L_q_wins_1 [some (eT ws), some b, some (.list [eT []]), none, none, none, none, none, none, none] = some (.nx [some (eT ws), some b, some (.list ((every ws).map eT)), c, none, none, f, g, h, none]) := by
  obtain ⟨ρ', e, c, f, g, h, rfl⟩ := forL_inv (f := fun x ρ => (bindT (.n 3) x ρ).bind (exec Φ W B_q_wins_1)) (xs := eNs ws)
    (fun i ρ => ∃ c f g h : Option D, ρ = [some (eT ws), some b, some (.list ((every (ws.take i)).map eT)), c, none, none, f, g, h, none]) (by
      rintro i x ρ hx ⟨c, f, g, h, rfl⟩
      obtain ⟨w, hj, rfl⟩ := eNs_get hx
      have hwm := hw w (List.mem_of_getElem? hj)
      have hlen : (every (ws.take i)).length ≤ 600 := by
        have := every_len (ws.take i) [[]] fun x hx => hw x (List.mem_of_mem_take hx)
        have h2 : 8 ^ (ws.take i).length ≤ 8 ^ 3 := Nat.pow_le_pow_right (by decide) (by rw [List.length_take]; omega)
        unfold every
        simp at this h2 ⊢
        omega
      have hrow : ∀ r ∈ every (ws.take i), r.length ≤ 10 := fun r hr => by
        have := every_row (ws.take i) [[]] 0 (by simp) r hr
        rw [List.length_take] at this
        omega
      have hb : bindT (.n 3) (eN w) [some (eT ws), some b, some (.list ((every (ws.take i)).map eT)), c, none, none, f, g, h, none] = some [some (eT ws), some b, some (.list ((every (ws.take i)).map eT)), some (eN w), none, none, f, g, h, none] := by simp [bindT]
      obtain ⟨r', h', hL⟩ := lw2_L2 Φ W (eT ws) b (every (ws.take i)) hlen hrow w (by omega) none none g h
      have he : every (ws.take (i + 1)) = grow (every (ws.take i)) w := foldl_take _ _ hj
      refine ⟨_, .inl ?_, some (eN w), some (.list ((grow (every (ws.take i)) w).map eT)), r', h', rfl⟩
      rw [hb, Option.bind_some, he]
      simp -implicitDefEqProofs only [B_q_wins_1, x_nil, x_cons, x_pass, x_frz, x_asg, x_asgT, x_app, x_ext, x_put, x_aug, x_ret, x_ifs, seqX_nx, seqX_rt, ifX_t, ifX_f, asgX_some, retX_some, e_var, e_bor, e_int, e_bl, e_non, e_yes, e_str, e_bin, e_neg, e_nt, e_cmp, e_and, e_or, e_ite, e_call, e_bi, e_isi, e_ix, e_sl, e_tup, e_lst, e_dic, e_isn, e_isnn, es_nil, es_cons, es_it, es_rng1, es_rng2, es_enm, eb_one, eb_and, eb_or, eo_nil, eo_some, optI_int, op2_some, op1_some, onL_some, onI_some, consO_some, slX_some, tupX_nil, tupX_1, tupX_2, tupX_3, tupX_4, lstX_nil, negX_int, notX_bool, isnX_none, iteX_t, iteX_f, andX_t, andX_f, orX_t, orX_f, getE_zero, getE_succ, set_z, set_s, Option.map_some, Option.bind_some, hL]) [some (eT ws), some b, some (.list [eT []]), none, none, none, none, none, none, none] ⟨none, none, none, none, rfl⟩
  rw [show (eNs ws).length = ws.length by simp, List.take_length] at e
  refine ⟨c, f, g, h, ?_⟩
  rw [L_q_wins_1, x_for]
  simp -implicitDefEqProofs only [x_nil, x_cons, x_pass, x_frz, x_asg, x_asgT, x_app, x_ext, x_put, x_aug, x_ret, x_ifs, seqX_nx, seqX_rt, ifX_t, ifX_f, asgX_some, retX_some, e_var, e_bor, e_int, e_bl, e_non, e_yes, e_str, e_bin, e_neg, e_nt, e_cmp, e_and, e_or, e_ite, e_call, e_bi, e_isi, e_ix, e_sl, e_tup, e_lst, e_dic, e_isn, e_isnn, es_nil, es_cons, es_it, es_rng1, es_rng2, es_enm, eb_one, eb_and, eb_or, eo_nil, eo_some, optI_int, op2_some, op1_some, onL_some, onI_some, consO_some, slX_some, tupX_nil, tupX_1, tupX_2, tupX_3, tupX_4, lstX_nil, negX_int, notX_bool, isnX_none, iteX_t, iteX_f, andX_t, andX_f, orX_t, orX_f, getE_zero, getE_succ, set_z, set_s, Option.map_some, Option.bind_some, u_itT, forX_some]
  exact e
end LW

namespace LW
open PySem PC
/-! ### the sum of wells -/
def xl (l : List Nat) : Nat := l.foldl (· ^^^ ·) 0
theorem xl_acc : ∀ (l : List Nat) (a : Nat), l.foldl (· ^^^ ·) a = a ^^^ xl l
  | [], a => by simp [xl]
  | x :: l, a => by
    unfold xl
    rw [List.foldl_cons, List.foldl_cons, xl_acc l (a ^^^ x), xl_acc l (0 ^^^ x), Nat.zero_xor, Nat.xor_assoc]
theorem xl_app (a b : List Nat) : xl (a ++ b) = xl a ^^^ xl b := by
  unfold xl
  rw [List.foldl_append, xl_acc]
  rfl
theorem xl_cons (x : Nat) (b : List Nat) : xl (x :: b) = x ^^^ xl b := by
  have := xl_app [x] b
  have e : xl [x] = x := by simp [xl]
  rw [e] at this
  exact this
theorem jx_eq (digs ws : List Nat) : jx digs ws = xl (ws.map (wt digs)) := by
  unfold jx xl
  rw [List.foldl_map]
theorem wl_get (digs : List Nat) : ∀ (k i : Nat), i < k → (wl digs k).getD i 0 = wt digs i
  | 0, _, h => absurd h (Nat.not_lt_zero _)
  | k + 1, i, h => by
    rw [wl_succ]
    by_cases hk : i < k
    · have := wl_get digs k i hk
      have hl : i < (wl digs k).length := by rw [wl_len]; exact hk
      rw [List.getD_eq_getElem?_getD, List.getElem?_append_left hl, ← List.getD_eq_getElem?_getD]
      exact this
    · have e : i = k := by omega
      subst e
      rw [List.getD_eq_getElem?_getD, List.getElem?_append_right (by rw [wl_len]; exact Nat.le_refl _), wl_len]
      simp
theorem mem_near {digs : List Nat} (hp : Pos digs) (k j : Nat) : j ∈ near digs (wl digs k) k ↔ ∃ d ∈ digs, d ≤ k ∧ wt digs (k - d) = j := by
  unfold near
  rw [List.mem_map]
  constructor
  · rintro ⟨d, h1, h2⟩
    obtain ⟨h3, h4⟩ := List.mem_filter.mp h1
    have h4 : d ≤ k := by simpa using h4
    have := (hp d h3).1
    exact ⟨d, h3, h4, by rw [← h2, wl_get digs k _ (by omega)]⟩
  · rintro ⟨d, h3, h4, h5⟩
    have := (hp d h3).1
    exact ⟨d, List.mem_filter.mpr ⟨h3, by simpa using h4⟩, by rw [wl_get digs k _ (by omega)]; exact h5⟩
theorem wt_ne {digs : List Nat} (hp : Pos digs) {k d : Nat} (hd : d ∈ digs) (h : d ≤ k) : wt digs (k - d) ≠ wt digs k := by
  intro e
  have := (mx_spec (near digs (wl digs k) k)).2.1
  exact this ((mem_near hp k _).mpr ⟨d, hd, h, e⟩)
theorem wt_below {digs : List Nat} (hp : Pos digs) {k j : Nat} (h : j < wt digs k) : ∃ d ∈ digs, d ≤ k ∧ wt digs (k - d) = j :=
  (mem_near hp k j).mp ((mx_spec (near digs (wl digs k) k)).1 j h)
theorem wt_le (digs : List Nat) (k : Nat) : wt digs k ≤ digs.length := Nat.le_trans (mx_spec (near digs (wl digs k) k)).2.2 (near_len _ _ _)
theorem split_at {ws : List Nat} {p : Nat} (h : p < ws.length) : ws = ws.take p ++ ws.getD p 0 :: ws.drop (p + 1) := by
  rw [getD_lt h, ← List.drop_eq_getElem_cons h, List.take_append_drop]
theorem jx_put {digs ws : List Nat} {p : Nat} (h : p < ws.length) (d : Nat) : jx digs (put1 ws p d) = jx digs ws ^^^ (wt digs (ws.getD p 0) ^^^ wt digs (ws.getD p 0 - d)) := by
  have e : jx digs ws = xl ((ws.take p).map (wt digs)) ^^^ (wt digs (ws.getD p 0) ^^^ xl ((ws.drop (p + 1)).map (wt digs))) := by
    have q := split_at h
    rw [jx_eq]
    conv => lhs; rw [q]
    rw [List.map_append, List.map_cons, xl_app, xl_cons]
  have e2 : jx digs (put1 ws p d) = xl ((ws.take p).map (wt digs)) ^^^ (wt digs (ws.getD p 0 - d) ^^^ xl ((ws.drop (p + 1)).map (wt digs))) := by
    rw [jx_eq]
    unfold put1
    rw [List.map_append, List.map_cons, xl_app, xl_cons]
  rw [e, e2]
  generalize xl ((ws.take p).map (wt digs)) = a
  generalize xl ((ws.drop (p + 1)).map (wt digs)) = b
  generalize wt digs (ws.getD p 0) = u
  generalize wt digs (ws.getD p 0 - d) = v
  have : a ^^^ (u ^^^ b) ^^^ (u ^^^ v) = a ^^^ ((u ^^^ u) ^^^ (b ^^^ v)) := by
    rw [Nat.xor_assoc, Nat.xor_assoc, ← Nat.xor_assoc b u v, Nat.xor_comm b u, Nat.xor_assoc u b v, ← Nat.xor_assoc u u]
  rw [this, Nat.xor_self, Nat.zero_xor, Nat.xor_comm b v]
theorem nim2 : ∀ a b : Fin 5, a.val ^^^ b.val ≠ 0 → a.val ^^^ (a.val ^^^ b.val) < a.val ∨ b.val ^^^ (a.val ^^^ b.val) < b.val := by decide +kernel
theorem nim3 : ∀ a b c : Fin 5, a.val ^^^ (b.val ^^^ c.val) ≠ 0 → a.val ^^^ (a.val ^^^ (b.val ^^^ c.val)) < a.val ∨ b.val ^^^ (a.val ^^^ (b.val ^^^ c.val)) < b.val ∨ c.val ^^^ (a.val ^^^ (b.val ^^^ c.val)) < c.val := by decide +kernel
theorem nim4 : ∀ a b c d : Fin 5, a.val ^^^ (b.val ^^^ (c.val ^^^ d.val)) ≠ 0 → a.val ^^^ (a.val ^^^ (b.val ^^^ (c.val ^^^ d.val))) < a.val ∨ b.val ^^^ (a.val ^^^ (b.val ^^^ (c.val ^^^ d.val))) < b.val ∨ c.val ^^^ (a.val ^^^ (b.val ^^^ (c.val ^^^ d.val))) < c.val ∨ d.val ^^^ (a.val ^^^ (b.val ^^^ (c.val ^^^ d.val))) < d.val := by decide +kernel
theorem xl_nil : xl [] = 0 := rfl
theorem nim_l {l : List Nat} (hl : l.length ≤ 4) (hx : ∀ x ∈ l, x ≤ 4) (h : xl l ≠ 0) : ∃ i, i < l.length ∧ (l.getD i 0) ^^^ xl l < l.getD i 0 := by
  match l, hl with
  | [], _ => exact absurd rfl h
  | [a], _ =>
    refine ⟨0, by simp, ?_⟩
    rw [xl_cons, xl_nil, Nat.xor_zero] at h ⊢
    simp
    omega
  | [a, b], _ =>
    have ha := hx a (by simp)
    have hb := hx b (by simp)
    simp only [xl_cons, xl_nil, Nat.xor_zero] at h ⊢
    rcases nim2 ⟨a, by omega⟩ ⟨b, by omega⟩ h with q | q
    · exact ⟨0, by simp, by simpa using q⟩
    · exact ⟨1, by simp, by simpa using q⟩
  | [a, b, c], _ =>
    have ha := hx a (by simp)
    have hb := hx b (by simp)
    have hc := hx c (by simp)
    simp only [xl_cons, xl_nil, Nat.xor_zero] at h ⊢
    rcases nim3 ⟨a, by omega⟩ ⟨b, by omega⟩ ⟨c, by omega⟩ h with q | q | q
    · exact ⟨0, by simp, q⟩
    · exact ⟨1, by simp, q⟩
    · exact ⟨2, by simp, q⟩
  | [a, b, c, d], _ =>
    have ha := hx a (by simp)
    have hb := hx b (by simp)
    have hc := hx c (by simp)
    have hd := hx d (by simp)
    simp only [xl_cons, xl_nil, Nat.xor_zero] at h ⊢
    rcases nim4 ⟨a, by omega⟩ ⟨b, by omega⟩ ⟨c, by omega⟩ ⟨d, by omega⟩ h with q | q | q | q
    · exact ⟨0, by simp, q⟩
    · exact ⟨1, by simp, q⟩
    · exact ⟨2, by simp, q⟩
    · exact ⟨3, by simp, q⟩
  | _ :: _ :: _ :: _ :: _ :: _, hl => simp at hl
theorem mem_aft {ws digs : List Nat} {t : Mv} : t ∈ aft ws digs ↔ ∃ p d, p < ws.length ∧ d ∈ digs ∧ d ≤ ws.getD p 0 ∧ t = (p, d, put1 ws p d) := by
  unfold aft
  rw [List.mem_flatMap]
  constructor
  · rintro ⟨p, h1, h2⟩
    unfold aft1 at h2
    obtain ⟨d, h3, h4⟩ := List.mem_map.mp h2
    obtain ⟨h5, h6⟩ := List.mem_filter.mp h3
    exact ⟨p, d, List.mem_range.mp h1, h5, by simpa using h6, h4.symm⟩
  · rintro ⟨p, d, h1, h2, h3, rfl⟩
    refine ⟨p, List.mem_range.mpr h1, ?_⟩
    unfold aft1
    exact List.mem_map.mpr ⟨d, List.mem_filter.mpr ⟨h2, by simpa using h3⟩, rfl⟩
theorem xor_zero {a b : Nat} (h : a ^^^ b = 0) : a = b := by
  have : a ^^^ (b ^^^ b) = b := by rw [← Nat.xor_assoc, h, Nat.zero_xor]
  rwa [Nat.xor_self, Nat.xor_zero] at this
/-- who wins -/
theorem nim {digs ws : List Nat} (hp : Pos digs) (hd : digs.length ≤ 4) (hl : ws.length ≤ 4) : jx digs ws ≠ 0 ↔ ∃ t ∈ aft ws digs, jx digs t.2.2 = 0 := by
  constructor
  · intro h
    rw [jx_eq] at h
    obtain ⟨i, hi, hlt⟩ := nim_l (l := ws.map (wt digs)) (by simpa using hl) (fun x hx => by
      obtain ⟨w, _, rfl⟩ := List.mem_map.mp hx
      exact Nat.le_trans (wt_le digs w) hd) h
    rw [List.length_map] at hi
    have eg : (ws.map (wt digs)).getD i 0 = wt digs (ws.getD i 0) := by
      rw [getD_lt (by simpa using hi), List.getElem_map, getD_lt hi]
    rw [eg] at hlt
    obtain ⟨d, h1, h2, h3⟩ := wt_below hp hlt
    refine ⟨(i, d, put1 ws i d), mem_aft.mpr ⟨i, d, hi, h1, h2, rfl⟩, ?_⟩
    show jx digs (put1 ws i d) = 0
    rw [jx_put hi, h3, ← jx_eq, ← Nat.xor_assoc (wt digs _), Nat.xor_self, Nat.zero_xor, Nat.xor_self]
  · rintro ⟨t, ht, h⟩ h0
    obtain ⟨p, d, h1, h2, h3, rfl⟩ := mem_aft.mp ht
    have h : jx digs (put1 ws p d) = 0 := h
    rw [jx_put h1, h0, Nat.zero_xor] at h
    exact wt_ne hp h2 h3 (xor_zero h).symm
end LW

namespace LW
open PySem PC
def win (digs l : List Nat) : Bool := decide (jx digs l ≠ 0)
def Wins (digs : List Nat) (E : List (List Nat)) (m : List (List Nat × D)) : Prop := ∀ l ∈ E, look m l = some (.bool (win digs l))
theorem ix_wins {digs : List Nat} {E : List (List Nat)} {m : List (List Nat × D)} (h : Wins digs E m) {l : List Nat} (hl : l ∈ E) : ixD (.dict (encM eT m)) (eT l) = some (.bool (win digs l)) := by
  rw [ix_dict' eqv_eT m l (key_eT l) fun _ => rfl]
  exact h l hl
theorem nthA1 (t : Mv) : ixD (encA t) (.int 1) = some (eT t.2.2) := by
  rw [show encA t = .tuple [.tuple [eN t.1, eN t.2.1], eT t.2.2] from rfl, u_ixT]
  exact nth_nat (k := 1) _ (by simp)
theorem nthA0 (t : Mv) : ixD (encA t) (.int 0) = some (.tuple [eN t.1, eN t.2.1]) := by
  rw [show encA t = .tuple [.tuple [eN t.1, eN t.2.1], eT t.2.2] from rfl, u_ixT]
  exact nth_nat (k := 0) _ (by simp)
theorem aft_len (ws digs : List Nat) (hdl : digs.length ≤ 10) (hl : ws.length ≤ 10) : (aft ws digs).length ≤ 100 := by
  have := aftN_len ws digs hdl ws.length
  have e : aft ws digs = aftN ws digs ws.length := rfl
  rw [e]
  omega
theorem wn_C2 (W n : Nat) {digs : List Nat} (hdl : digs.length ≤ 10) {one : List Nat} (hl : one.length ≤ 10) (a : D) (ev1 c : Option D) (m : List (List Nat × D)) (hm : ∀ t ∈ aft one digs, look m t.2.2 = some (.bool (win digs t.2.2))) (f g h i : Option D) :
    ev (run P W (n + 1)) C_q_wins_2 [some a, some (eT digs), ev1, c, some (.dict (encM eT m)), some (eT one), f, g, h, i] = some (.list (((aft one digs).filter fun t => !win digs t.2.2).map encA)) := by
  rw [C_q_wins_2, e_lc]
  have hc := af_ok W n hl hdl
  simp -implicitDefEqProofs only [x_nil, x_cons, x_pass, x_frz, x_asg, x_asgT, x_app, x_ext, x_put, x_aug, x_ret, x_ifs, seqX_nx, seqX_rt, ifX_t, ifX_f, asgX_some, retX_some, e_var, e_bor, e_int, e_bl, e_non, e_yes, e_str, e_bin, e_neg, e_nt, e_cmp, e_and, e_or, e_ite, e_call, e_bi, e_isi, e_ix, e_sl, e_tup, e_lst, e_dic, e_isn, e_isnn, es_nil, es_cons, es_it, es_rng1, es_rng2, es_enm, eb_one, eb_and, eb_or, eo_nil, eo_some, optI_int, op2_some, op1_some, onL_some, onI_some, consO_some, slX_some, tupX_nil, tupX_1, tupX_2, tupX_3, tupX_4, lstX_nil, negX_int, notX_bool, isnX_none, iteX_t, iteX_f, andX_t, andX_f, orX_t, orX_f, getE_zero, getE_succ, set_z, set_s, Option.map_some, Option.bind_some, show run P W (n + 1) 10 [.tuple (eNs one), .tuple (eNs digs)] = _ from hc, u_itL]
  refine lcX_map encA (fun t => !win digs t.2.2) encA (Nat.le_trans (aft_len one digs hdl hl) (by decide)) fun t ht => ?_
  have hb : bindT (.n 9) (encA t) (wipeE [some a, some (eT digs), ev1, c, some (.dict (encM eT m)), some (eT one), f, g, h, i] [9]) = some [some a, some (eT digs), ev1, c, some (.dict (encM eT m)), some (eT one), f, g, h, some (encA t)] := by simp [bindT, wipeE]
  have hx : ixD (.dict (encM eT m)) (eT t.2.2) = some (.bool (win digs t.2.2)) := by
    rw [ix_dict' eqv_eT m _ (key_eT _) fun _ => rfl]
    exact hm t ht
  have hcond : ev (run P W (n + 1)) (.nt (.ix (.bor 4) (.ix (.var 9) (.int 1)))) [some a, some (eT digs), ev1, c, some (.dict (encM eT m)), some (eT one), f, g, h, some (encA t)] = some (.bool (!win digs t.2.2)) := by
    simp -implicitDefEqProofs only [x_nil, x_cons, x_pass, x_frz, x_asg, x_asgT, x_app, x_ext, x_put, x_aug, x_ret, x_ifs, seqX_nx, seqX_rt, ifX_t, ifX_f, asgX_some, retX_some, e_var, e_bor, e_int, e_bl, e_non, e_yes, e_str, e_bin, e_neg, e_nt, e_cmp, e_and, e_or, e_ite, e_call, e_bi, e_isi, e_ix, e_sl, e_tup, e_lst, e_dic, e_isn, e_isnn, es_nil, es_cons, es_it, es_rng1, es_rng2, es_enm, eb_one, eb_and, eb_or, eo_nil, eo_some, optI_int, op2_some, op1_some, onL_some, onI_some, consO_some, slX_some, tupX_nil, tupX_1, tupX_2, tupX_3, tupX_4, lstX_nil, negX_int, notX_bool, isnX_none, iteX_t, iteX_f, andX_t, andX_f, orX_t, orX_f, getE_zero, getE_succ, set_z, set_s, Option.map_some, Option.bind_some, nthA1, hx]
  cases hw : win digs t.2.2 with
  | true =>
    rw [hw] at hcond
    exact compF_f hb hcond
  | false =>
    rw [hw] at hcond
    exact compF_t hb hcond (by simp -implicitDefEqProofs only [x_nil, x_cons, x_pass, x_frz, x_asg, x_asgT, x_app, x_ext, x_put, x_aug, x_ret, x_ifs, seqX_nx, seqX_rt, ifX_t, ifX_f, asgX_some, retX_some, e_var, e_bor, e_int, e_bl, e_non, e_yes, e_str, e_bin, e_neg, e_nt, e_cmp, e_and, e_or, e_ite, e_call, e_bi, e_isi, e_ix, e_sl, e_tup, e_lst, e_dic, e_isn, e_isnn, es_nil, es_cons, es_it, es_rng1, es_rng2, es_enm, eb_one, eb_and, eb_or, eo_nil, eo_some, optI_int, op2_some, op1_some, onL_some, onI_some, consO_some, slX_some, tupX_nil, tupX_1, tupX_2, tupX_3, tupX_4, lstX_nil, negX_int, notX_bool, isnX_none, iteX_t, iteX_f, andX_t, andX_f, orX_t, orX_f, getE_zero, getE_succ, set_z, set_s, Option.map_some, Option.bind_some])
theorem win_nim {digs one : List Nat} (hp : Pos digs) (hd : digs.length ≤ 4) (hl : one.length ≤ 4) : decide ((0 : Int) < ((((aft one digs).filter fun t => !win digs t.2.2).map encA).length : Nat)) = win digs one := by
  rw [List.length_map]
  have q := nim hp hd hl
  have hne : (∃ t ∈ aft one digs, jx digs t.2.2 = 0) ↔ 0 < ((aft one digs).filter fun t => !win digs t.2.2).length := by
    rw [List.length_pos_iff_exists_mem]
    constructor
    · rintro ⟨t, h1, h2⟩
      exact ⟨t, List.mem_filter.mpr ⟨h1, by simp [win, h2]⟩⟩
    · rintro ⟨t, h⟩
      obtain ⟨h1, h2⟩ := List.mem_filter.mp h
      exact ⟨t, h1, by simpa [win] using h2⟩
  unfold win
  by_cases h : jx digs one ≠ 0
  · rw [decide_eq_true h, decide_eq_true]
    have := hne.mp (q.mp h)
    unfold win at this
    omega
  · rw [decide_eq_false h, decide_eq_false]
    intro h2
    apply h
    apply q.mpr
    apply hne.mpr
    unfold win
    omega
theorem wn_L3 (W n : Nat) {digs : List Nat} (hp : Pos digs) (hd : digs.length ≤ 4) (a : D) {E : List (List Nat)} (hc : Closed E) (hE : E.length ≤ 600) (hr : ∀ r ∈ E, r.length ≤ 4) (c f g h i : Option D) :
    ∃ m o, Wins digs E m ∧ exec (run P W (n + 1)) W L_q_wins_3 [some a, some (eT digs), some (.list (E.map eT)), c, some (.dict []), none, f, g, h, i] = some (.nx [some a, some (eT digs), some (.list (E.map eT)), c, some (.dict (encM eT m)), o, f, g, h, i]) := by
  obtain ⟨ρ', e, m, o, hm, _, rfl⟩ := forL_list eT (f := fun x ρ => (bindT (.n 5) x ρ).bind (exec (run P W (n + 1)) W B_q_wins_3)) (fun pre ρ => ∃ (m : List (List Nat × D)) (o : Option D), Wins digs pre m ∧ m.length ≤ pre.length ∧ ρ = [some a, some (eT digs), some (.list (E.map eT)), c, some (.dict (encM eT m)), o, f, g, h, i]) E []
    [some a, some (eT digs), some (.list (E.map eT)), c, some (.dict []), none, f, g, h, i] ⟨[], none, fun l hl => absurd hl (by simp), by simp, rfl⟩ (by
      rintro pre one post ρ eq ⟨m, o, hm, hml, rfl⟩
      have eq' : E = pre ++ one :: post := by simpa using eq
      have hone : one.length ≤ 4 := hr one (by rw [eq']; simp)
      have hpl : pre.length ≤ 600 := by rw [eq'] at hE; simp at hE; omega
      have hb : bindT (.n 5) (eT one) [some a, some (eT digs), some (.list (E.map eT)), c, some (.dict (encM eT m)), o, f, g, h, i] = some [some a, some (eT digs), some (.list (E.map eT)), c, some (.dict (encM eT m)), some (eT one), f, g, h, i] := by simp [bindT]
      have hC := wn_C2 W n (digs := digs) (by omega) (one := one) (by omega) a (some (.list (E.map eT))) c m (fun t ht => hm _ (hc pre one post eq' _ (aft_move hp t ht))) f g h i
      have hput := put_dict eqv_eT m one (.bool (win digs one)) (key_eT one) (fun _ => rfl) (by omega)
      refine ⟨[some a, some (eT digs), some (.list (E.map eT)), c, some (.dict (encM eT (putM m one (.bool (win digs one))))), some (eT one), f, g, h, i], ?_, putM m one (.bool (win digs one)), some (eT one), fun l hl => ?_, ?_, rfl⟩
      · show (bindT (.n 5) (eT one) _).bind _ = _
        rw [hb, Option.bind_some]
        simp -implicitDefEqProofs only [B_q_wins_3, x_nil, x_cons, x_pass, x_frz, x_asg, x_asgT, x_app, x_ext, x_put, x_aug, x_ret, x_ifs, seqX_nx, seqX_rt, ifX_t, ifX_f, asgX_some, retX_some, e_var, e_bor, e_int, e_bl, e_non, e_yes, e_str, e_bin, e_neg, e_nt, e_cmp, e_and, e_or, e_ite, e_call, e_bi, e_isi, e_ix, e_sl, e_tup, e_lst, e_dic, e_isn, e_isnn, es_nil, es_cons, es_it, es_rng1, es_rng2, es_enm, eb_one, eb_and, eb_or, eo_nil, eo_some, optI_int, op2_some, op1_some, onL_some, onI_some, consO_some, slX_some, tupX_nil, tupX_1, tupX_2, tupX_3, tupX_4, lstX_nil, negX_int, notX_bool, isnX_none, iteX_t, iteX_f, andX_t, andX_f, orX_t, orX_f, getE_zero, getE_succ, set_z, set_s, Option.map_some, Option.bind_some, hC, u_lenL, m_gt, win_nim hp hd hone, putX_some _ _ hput]
      · rw [look_put]
        by_cases h : one = l
        · rw [if_pos h, h]
        · rw [if_neg h]
          rcases List.mem_append.mp hl with z | z
          · exact hm l z
          · exact absurd (List.mem_singleton.mp z).symm h
      · have := putM_len m one (.bool (win digs one))
        rw [List.length_append, List.length_singleton]
        omega)
  refine ⟨m, o, by simpa using hm, ?_⟩
  rw [L_q_wins_3, x_for]
  simp -implicitDefEqProofs only [x_nil, x_cons, x_pass, x_frz, x_asg, x_asgT, x_app, x_ext, x_put, x_aug, x_ret, x_ifs, seqX_nx, seqX_rt, ifX_t, ifX_f, asgX_some, retX_some, e_var, e_bor, e_int, e_bl, e_non, e_yes, e_str, e_bin, e_neg, e_nt, e_cmp, e_and, e_or, e_ite, e_call, e_bi, e_isi, e_ix, e_sl, e_tup, e_lst, e_dic, e_isn, e_isnn, es_nil, es_cons, es_it, es_rng1, es_rng2, es_enm, eb_one, eb_and, eb_or, eo_nil, eo_some, optI_int, op2_some, op1_some, onL_some, onI_some, consO_some, slX_some, tupX_nil, tupX_1, tupX_2, tupX_3, tupX_4, lstX_nil, negX_int, notX_bool, isnX_none, iteX_t, iteX_f, andX_t, andX_f, orX_t, orX_f, getE_zero, getE_succ, set_z, set_s, Option.map_some, Option.bind_some, u_itL, forX_some]
  exact e
theorem wn_ok (W n : Nat) {digs ws : List Nat} (hp : Pos digs) (hd : digs.length ≤ 4) (hl : ws.length ≤ 3) (hw : ∀ w ∈ ws, w ≤ 7) : ∃ m, Wins digs (every ws) m ∧ R W (n + 2) 11 [eT ws, eT digs] = some (.dict (encM eT m)) := by
  obtain ⟨c, f, g, h, h1⟩ := lw2_L1 (run P W (n + 1)) W (eT digs) hl hw
  have hlen : (every ws).length ≤ 600 := by
    have := every_len ws [[]] hw
    have h2 : 8 ^ ws.length ≤ 8 ^ 3 := Nat.pow_le_pow_right (by decide) hl
    unfold every
    simp at this h2 ⊢
    omega
  have hrow : ∀ r ∈ every ws, r.length ≤ 4 := fun r hr => by
    have := every_row ws [[]] 0 (by simp) r hr
    omega
  obtain ⟨m, o, hm, h2⟩ := wn_L3 (E := every ws) W n hp hd (eT ws) (closed_every ws _ closed_one) hlen hrow c f g h none
  refine ⟨m, hm, ?_⟩
  refine run_eq (P := P) (d := t__law_wins.df) rfl rfl ?_
  show exec _ W b__law_wins [some (eT ws), some (eT digs), none, none, none, none, none, none, none, none] = _
  have hls : lstX (some [eT []]) = some (.list [eT []]) := lstX_some _ (by simp)
  have e0 : (PyData.tuple [] : D) = eT [] := rfl
  simp -implicitDefEqProofs only [b__law_wins, x_nil, x_cons, x_pass, x_frz, x_asg, x_asgT, x_app, x_ext, x_put, x_aug, x_ret, x_ifs, seqX_nx, seqX_rt, ifX_t, ifX_f, asgX_some, retX_some, e_var, e_bor, e_int, e_bl, e_non, e_yes, e_str, e_bin, e_neg, e_nt, e_cmp, e_and, e_or, e_ite, e_call, e_bi, e_isi, e_ix, e_sl, e_tup, e_lst, e_dic, e_isn, e_isnn, es_nil, es_cons, es_it, es_rng1, es_rng2, es_enm, eb_one, eb_and, eb_or, eo_nil, eo_some, optI_int, op2_some, op1_some, onL_some, onI_some, consO_some, slX_some, tupX_nil, tupX_1, tupX_2, tupX_3, tupX_4, lstX_nil, negX_int, notX_bool, isnX_none, iteX_t, iteX_f, andX_t, andX_f, orX_t, orX_f, getE_zero, getE_succ, set_z, set_s, Option.map_some, Option.bind_some, e0, hls, h1, h2]
end LW

namespace LW
open PySem PC
def encP (t : Mv) : D := .tuple [eN t.1, eN t.2.1]
def good (digs ws : List Nat) : List Mv := (aft ws digs).filter fun t => !win digs t.2.2
/-! ### the told dig is the first good one -/
theorem find_flat {α β : Type} (q : β → Bool) (e : β → D) (f : α → List β) : ∀ l : List α, l.findSome? (fun p => ((f p).filter q).head?.map e) = ((l.flatMap f).filter q).head?.map e
  | [] => rfl
  | a :: l => by
    rw [List.findSome?_cons, List.flatMap_cons, List.filter_append, List.head?_append, find_flat q e f l]
    cases ((f a).filter q).head? <;> rfl
theorem rIn_eq (digs ws : List Nat) (p : Nat) : ∀ l : List Nat, l.findSome? (rIn digs ws p) = ((((l.filter fun d => decide (d ≤ ws.getD p 0)).map fun d => ((p, d, put1 ws p d) : Mv)).filter fun t => !win digs t.2.2).head?.map encP)
  | [] => rfl
  | d :: l => by
    rw [List.findSome?_cons]
    have ih := rIn_eq digs ws p l
    by_cases h : d ≤ ws.getD p 0
    · have e1 : (d :: l).filter (fun d => decide (d ≤ ws.getD p 0)) = d :: l.filter (fun d => decide (d ≤ ws.getD p 0)) := by
        simp only [List.filter_cons, decide_eq_true h, if_true]
      rw [e1, List.map_cons]
      by_cases h0 : jx digs (put1 ws p d) = 0
      · have hr : rIn digs ws p d = some (.tuple [eN p, eN d]) := by unfold rIn; rw [if_pos ⟨h, h0⟩]
        have hw : (!win digs (put1 ws p d)) = true := by simp [win, h0]
        rw [hr]
        simp only [List.filter_cons, hw, if_true]
        rfl
      · have hr : rIn digs ws p d = none := by unfold rIn; rw [if_neg fun q => h0 q.2]
        have hw : (!win digs (put1 ws p d)) = false := by simp [win, h0]
        rw [hr]
        simp only [List.filter_cons, hw, Bool.false_eq_true, if_false]
        exact ih
    · have e1 : (d :: l).filter (fun d => decide (d ≤ ws.getD p 0)) = l.filter (fun d => decide (d ≤ ws.getD p 0)) := by
        simp only [List.filter_cons, decide_eq_false h, Bool.false_eq_true, if_false]
      have hr : rIn digs ws p d = none := by unfold rIn; rw [if_neg fun q => h q.1]
      rw [e1, hr]
      exact ih
theorem rOut_eq (digs ws : List Nat) (p : Nat) : rOut digs ws p = ((aft1 ws digs p).filter fun t => !win digs t.2.2).head?.map encP := rIn_eq digs ws p digs
theorem TD_eq {digs ws : List Nat} (hp : Pos digs) (hd : digs.length ≤ 4) (hl : ws.length ≤ 4) : TD digs ws = ((good digs ws).head?.map encP).getD .none := by
  unfold TD
  have q := nim hp hd hl
  by_cases h : jx digs ws = 0
  · rw [if_pos h]
    have : good digs ws = [] := by
      unfold good
      rw [List.filter_eq_nil_iff]
      intro t ht hw
      have hz : jx digs t.2.2 = 0 := by simpa [win] using hw
      exact q.mpr ⟨t, ht, hz⟩ h
    rw [this]
    rfl
  · rw [if_neg h]
    have e : (List.range ws.length).findSome? (rOut digs ws) = (good digs ws).head?.map encP := by
      have := find_flat (fun t : Mv => !win digs t.2.2) encP (aft1 ws digs) (List.range ws.length)
      rw [show rOut digs ws = fun p => ((aft1 ws digs p).filter fun t => !win digs t.2.2).head?.map encP from funext fun p => rOut_eq digs ws p]
      exact this
    rw [e]
/-! ### the least pair -/
theorem lt_pair (a b c d : Int) : W.dataLt (.tuple [.int a, .int b]) (.tuple [.int c, .int d]) = decide (a < c ∨ (a = c ∧ b < d)) := by
  have al : ∀ x y : Int, W.alike (.int x) (.int y) = true := fun x y => alike_int x y
  rw [W.dataLt_tuple]
  by_cases h : a = c
  · subst h
    rw [W.dataLt_all_yes (al a a) (by rw [eqv_int]; simp)]
    by_cases h2 : b = d
    · subst h2
      rw [W.dataLt_all_yes (al b b) (by rw [eqv_int]; simp)]
      have : ¬ (a < a ∨ (a = a ∧ b < b)) := by omega
      rw [decide_eq_false this]
      decide
    · rw [W.dataLt_all_no (al b d) (by rw [eqv_int]; simp [h2]), dataLt_int]
      by_cases h3 : b < d
      · rw [decide_eq_true h3, decide_eq_true (by omega)]
      · rw [decide_eq_false h3, decide_eq_false (by omega)]
  · rw [W.dataLt_all_no (al a c) (by rw [eqv_int]; simp [h]), dataLt_int]
    by_cases h3 : a < c
    · rw [decide_eq_true h3, decide_eq_true (by omega)]
    · rw [decide_eq_false h3, decide_eq_false (by omega)]
def le2 (t u : Mv) : Prop := t.1 < u.1 ∨ (t.1 = u.1 ∧ t.2.1 ≤ u.2.1)
theorem aftN_sorted {ws digs : List Nat} (hs : digs.Pairwise (· ≤ ·)) : ∀ n, (aftN ws digs n).Pairwise le2 ∧ ∀ t ∈ aftN ws digs n, t.1 < n
  | 0 => ⟨by simp [aftN], fun t h => absurd h (by simp [aftN])⟩
  | n + 1 => by
    obtain ⟨h1, h2⟩ := aftN_sorted hs n
    have h3 : ∀ t ∈ aft1 ws digs n, t.1 = n := fun t ht => by
      unfold aft1 at ht
      obtain ⟨d, _, rfl⟩ := List.mem_map.mp ht
      rfl
    have h4 : (aft1 ws digs n).Pairwise le2 := by
      unfold aft1
      rw [List.pairwise_map]
      exact (hs.filter _).imp fun h => .inr ⟨rfl, h⟩
    rw [aftN_succ]
    refine ⟨List.pairwise_append.mpr ⟨h1, h4, fun t ht u hu => .inl ?_⟩, fun t ht => ?_⟩
    · rw [h3 u hu]; exact h2 t ht
    · rcases List.mem_append.mp ht with z | z
      · exact Nat.lt_succ_of_lt (h2 t z)
      · rw [h3 t z]; exact Nat.lt_succ_self n
theorem min_first {t : Mv} {l : List Mv} (h : (t :: l).Pairwise le2) : W.minD (encP t) (l.map encP) = encP t := by
  unfold W.minD
  have hall := (List.pairwise_cons.mp h).1
  clear h
  induction l with
  | nil => rfl
  | cons u l ih =>
    have hu := hall u (by simp)
    have hlt : W.dataLt (encP u) (encP t) = false := by
      unfold encP
      rw [lt_pair, decide_eq_false]
      unfold le2 at hu
      omega
    rw [List.map_cons, List.foldl_cons, hlt]
    exact ih fun v hv => hall v (by simp [hv])
theorem minOk_P (l : List Mv) : minOk (l.map encP) = true := by
  have hd : ∀ n (t : Mv), dle (n + 1) (encP t) = true := fun n t => by simp [encP, dle, dle_int]
  have ha : ∀ t u : Mv, W.alike (encP t) (encP u) = true := fun t u => by simp [encP, W.alike, W.alikeAll]
  unfold minOk allAlike
  simp only [Bool.and_eq_true, List.all_eq_true, List.mem_map]
  refine ⟨⟨?_, ?_⟩, ?_⟩
  · rintro x ⟨t, _, rfl⟩ y ⟨u, _, rfl⟩
    exact ha t u
  · rintro x ⟨t, _, rfl⟩
    rfl
  · rintro x ⟨t, _, rfl⟩
    exact hd 59 t
theorem min_good {digs ws : List Nat} (hs : digs.Pairwise (· ≤ ·)) {t : Mv} {l : List Mv} (h : good digs ws = t :: l) : biD .min [.list ((good digs ws).map encP)] = some (encP t) := by
  have hp : (good digs ws).Pairwise le2 := ((aftN_sorted (ws := ws) hs ws.length).1).filter _
  have hm := minOk_P (good digs ws)
  show (if minOk ((good digs ws).map encP) = true then minD ((good digs ws).map encP) else none) = _
  rw [if_pos hm, h]
  rw [h] at hp
  show some (W.minD (encP t) (l.map encP)) = _
  rw [min_first hp]
end LW

namespace LW
open PySem PC
theorem every_mem : ∀ (ws : List Nat) (E : List (List Nat)) (pre : List Nat), pre ∈ E → pre ++ ws ∈ ws.foldl grow E
  | [], E, pre, h => by simpa using h
  | w :: ws, E, pre, h => by
    have h1 : pre ++ [w] ∈ grow E w := by
      unfold grow block
      rw [List.mem_flatMap]
      exact ⟨pre, h, List.mem_map.mpr ⟨w, by simp, rfl⟩⟩
    have := every_mem ws (grow E w) (pre ++ [w]) h1
    simpa using this
theorem every_self (ws : List Nat) : ws ∈ every ws := by
  have := every_mem ws [[]] [] (by simp)
  simpa [every] using this
theorem every_moves {ws digs : List Nat} (hp : Pos digs) : ∀ t ∈ aft ws digs, t.2.2 ∈ every ws := by
  intro t ht
  obtain ⟨p, q, e⟩ := List.append_of_mem (every_self ws)
  have := closed_every ws [[]] closed_one p ws q e _ (aft_move hp t ht)
  rw [e]
  exact List.mem_append_left _ this
theorem is_at (W n m : Nat) (d : D) (hd : Nice m d) (h : m + 2 ≤ n) : R W n 7 [d, d] = some (.bool true) := is_ok (P := P) (i := 6) (j := 7) rfl rfl m n d hd h
theorem m_neb (b : Bool) : cmpX .NotEq (.bool b) (.bool b) = some (.bool false) := by simp [cmpX, cmpD, eqD, dle, eqv_bool]
theorem as_C1 (W n : Nat) {digs ws : List Nat} (hp : Pos digs) (hdl : digs.length ≤ 10) (hl : ws.length ≤ 10) (m : List (List Nat × D)) (hm : Wins digs (every ws) m) (a b c d : Option D) :
    ev (run P W (n + 1)) C_q_asked_1 [some (eT ws), some (eT digs), some (.dict (encM eT m)), a, b, c, d] = some (.list ((good digs ws).map encP)) := by
  rw [C_q_asked_1, e_lc]
  have hc := af_ok W n hl hdl
  simp -implicitDefEqProofs only [x_nil, x_cons, x_pass, x_frz, x_asg, x_asgT, x_app, x_ext, x_put, x_aug, x_ret, x_ifs, seqX_nx, seqX_rt, ifX_t, ifX_f, asgX_some, retX_some, e_var, e_bor, e_int, e_bl, e_non, e_yes, e_str, e_bin, e_neg, e_nt, e_cmp, e_and, e_or, e_ite, e_call, e_bi, e_isi, e_ix, e_sl, e_tup, e_lst, e_dic, e_isn, e_isnn, es_nil, es_cons, es_it, es_rng1, es_rng2, es_enm, eb_one, eb_and, eb_or, eo_nil, eo_some, optI_int, op2_some, op1_some, onL_some, onI_some, consO_some, slX_some, tupX_nil, tupX_1, tupX_2, tupX_3, tupX_4, lstX_nil, negX_int, notX_bool, isnX_none, iteX_t, iteX_f, andX_t, andX_f, orX_t, orX_f, getE_zero, getE_succ, set_z, set_s, Option.map_some, Option.bind_some, show run P W (n + 1) 10 [.tuple (eNs ws), .tuple (eNs digs)] = _ from hc, u_itL]
  refine lcX_map encA (fun t => !win digs t.2.2) encP (Nat.le_trans (aft_len ws digs hdl hl) (by decide)) fun t ht => ?_
  have hb : bindT (.n 5) (encA t) (wipeE [some (eT ws), some (eT digs), some (.dict (encM eT m)), a, b, c, d] [5]) = some [some (eT ws), some (eT digs), some (.dict (encM eT m)), a, b, some (encA t), d] := by simp [bindT, wipeE]
  have hx := ix_wins hm (every_moves hp t ht)
  have hcond : ev (run P W (n + 1)) (.nt (.ix (.var 2) (.ix (.var 5) (.int 1)))) [some (eT ws), some (eT digs), some (.dict (encM eT m)), a, b, some (encA t), d] = some (.bool (!win digs t.2.2)) := by
    simp -implicitDefEqProofs only [x_nil, x_cons, x_pass, x_frz, x_asg, x_asgT, x_app, x_ext, x_put, x_aug, x_ret, x_ifs, seqX_nx, seqX_rt, ifX_t, ifX_f, asgX_some, retX_some, e_var, e_bor, e_int, e_bl, e_non, e_yes, e_str, e_bin, e_neg, e_nt, e_cmp, e_and, e_or, e_ite, e_call, e_bi, e_isi, e_ix, e_sl, e_tup, e_lst, e_dic, e_isn, e_isnn, es_nil, es_cons, es_it, es_rng1, es_rng2, es_enm, eb_one, eb_and, eb_or, eo_nil, eo_some, optI_int, op2_some, op1_some, onL_some, onI_some, consO_some, slX_some, tupX_nil, tupX_1, tupX_2, tupX_3, tupX_4, lstX_nil, negX_int, notX_bool, isnX_none, iteX_t, iteX_f, andX_t, andX_f, orX_t, orX_f, getE_zero, getE_succ, set_z, set_s, Option.map_some, Option.bind_some, nthA1, hx]
  cases hw : win digs t.2.2 with
  | true =>
    rw [hw] at hcond
    exact compF_f hb hcond
  | false =>
    rw [hw] at hcond
    exact compF_t hb hcond (by simp -implicitDefEqProofs only [x_nil, x_cons, x_pass, x_frz, x_asg, x_asgT, x_app, x_ext, x_put, x_aug, x_ret, x_ifs, seqX_nx, seqX_rt, ifX_t, ifX_f, asgX_some, retX_some, e_var, e_bor, e_int, e_bl, e_non, e_yes, e_str, e_bin, e_neg, e_nt, e_cmp, e_and, e_or, e_ite, e_call, e_bi, e_isi, e_ix, e_sl, e_tup, e_lst, e_dic, e_isn, e_isnn, es_nil, es_cons, es_it, es_rng1, es_rng2, es_enm, eb_one, eb_and, eb_or, eo_nil, eo_some, optI_int, op2_some, op1_some, onL_some, onI_some, consO_some, slX_some, tupX_nil, tupX_1, tupX_2, tupX_3, tupX_4, lstX_nil, negX_int, notX_bool, isnX_none, iteX_t, iteX_f, andX_t, andX_f, orX_t, orX_f, getE_zero, getE_succ, set_z, set_s, Option.map_some, Option.bind_some, nthA0]; rfl)
theorem nth_wl {digs : List Nat} (k : Nat) : nth (eNs (wl digs (k + 1))) (k : Int) = some (eN (wt digs k)) := by
  have hl : k < (wl digs (k + 1)).length := by rw [wl_len]; omega
  rw [nth_eN _ hl]
  have := wl_get digs (k + 1) k (by omega)
  rw [getD_lt hl] at this
  rw [this]
theorem as_C2 (W n : Nat) {digs ws : List Nat} (hp : Pos digs) (hdl : digs.length < 1000) (hl : ws.length < 1000) (hw : ∀ w ∈ ws, w < 900) (x a b c d : Option D) :
    ev (run P W (n + 1)) C_q_asked_2 [some (eT ws), some (eT digs), x, a, b, c, d] = some (.list (eNs (ws.map (wt digs)))) := by
  rw [C_q_asked_2, e_lc]
  simp -implicitDefEqProofs only [x_nil, x_cons, x_pass, x_frz, x_asg, x_asgT, x_app, x_ext, x_put, x_aug, x_ret, x_ifs, seqX_nx, seqX_rt, ifX_t, ifX_f, asgX_some, retX_some, e_var, e_bor, e_int, e_bl, e_non, e_yes, e_str, e_bin, e_neg, e_nt, e_cmp, e_and, e_or, e_ite, e_call, e_bi, e_isi, e_ix, e_sl, e_tup, e_lst, e_dic, e_isn, e_isnn, es_nil, es_cons, es_it, es_rng1, es_rng2, es_enm, eb_one, eb_and, eb_or, eo_nil, eo_some, optI_int, op2_some, op1_some, onL_some, onI_some, consO_some, slX_some, tupX_nil, tupX_1, tupX_2, tupX_3, tupX_4, lstX_nil, negX_int, notX_bool, isnX_none, iteX_t, iteX_f, andX_t, andX_f, orX_t, orX_f, getE_zero, getE_succ, set_z, set_s, Option.map_some, Option.bind_some, u_itT]
  rw [lcX_all eN (fun w => eN (wt digs w)) (Nat.le_of_lt (Nat.lt_trans hl (by decide)))]
  · unfold eNs
    rw [List.map_map]
    rfl
  intro w hwm
  have hb : bindT (.n 6) (eN w) (wipeE [some (eT ws), some (eT digs), x, a, b, c, d] [6]) = some [some (eT ws), some (eT digs), x, a, b, c, some (eN w)] := by simp [bindT, wipeE]
  have hc := lw_ok W n hp hdl w (hw w hwm)
  refine compF_t hb (by simp -implicitDefEqProofs only [x_nil, x_cons, x_pass, x_frz, x_asg, x_asgT, x_app, x_ext, x_put, x_aug, x_ret, x_ifs, seqX_nx, seqX_rt, ifX_t, ifX_f, asgX_some, retX_some, e_var, e_bor, e_int, e_bl, e_non, e_yes, e_str, e_bin, e_neg, e_nt, e_cmp, e_and, e_or, e_ite, e_call, e_bi, e_isi, e_ix, e_sl, e_tup, e_lst, e_dic, e_isn, e_isnn, es_nil, es_cons, es_it, es_rng1, es_rng2, es_enm, eb_one, eb_and, eb_or, eo_nil, eo_some, optI_int, op2_some, op1_some, onL_some, onI_some, consO_some, slX_some, tupX_nil, tupX_1, tupX_2, tupX_3, tupX_4, lstX_nil, negX_int, notX_bool, isnX_none, iteX_t, iteX_f, andX_t, andX_f, orX_t, orX_f, getE_zero, getE_succ, set_z, set_s, Option.map_some, Option.bind_some]) ?_
  simp -implicitDefEqProofs only [x_nil, x_cons, x_pass, x_frz, x_asg, x_asgT, x_app, x_ext, x_put, x_aug, x_ret, x_ifs, seqX_nx, seqX_rt, ifX_t, ifX_f, asgX_some, retX_some, e_var, e_bor, e_int, e_bl, e_non, e_yes, e_str, e_bin, e_neg, e_nt, e_cmp, e_and, e_or, e_ite, e_call, e_bi, e_isi, e_ix, e_sl, e_tup, e_lst, e_dic, e_isn, e_isnn, es_nil, es_cons, es_it, es_rng1, es_rng2, es_enm, eb_one, eb_and, eb_or, eo_nil, eo_some, optI_int, op2_some, op1_some, onL_some, onI_some, consO_some, slX_some, tupX_nil, tupX_1, tupX_2, tupX_3, tupX_4, lstX_nil, negX_int, notX_bool, isnX_none, iteX_t, iteX_f, andX_t, andX_f, orX_t, orX_f, getE_zero, getE_succ, set_z, set_s, Option.map_some, Option.bind_some, show run P W (n + 1) 8 [eN w, .tuple (eNs digs)] = _ from hc, u_ixL, nth_wl]
theorem lj_jx {digs ws : List Nat} (hd : digs.length ≤ 4) : lj (ws.map (wt digs)) = jx digs ws := by
  rw [lj_eq _ fun w hw => ?_, jx_eq]
  · rfl
  · obtain ⟨x, _, rfl⟩ := List.mem_map.mp hw
    have := wt_le digs x
    omega
theorem ne0_win (digs ws : List Nat) : (!decide (((jx digs ws : Nat) : Int) = 0)) = win digs ws := by
  unfold win
  by_cases h : jx digs ws = 0
  · rw [h]; rfl
  · rw [decide_eq_false (by omega), decide_eq_true h]; rfl
structure OkIn (digs ws : List Nat) : Prop where
  pos : Pos digs
  dl : digs.length ≤ 4
  asc : digs.Pairwise (· ≤ ·)
  wl : ws.length ≤ 3
  w7 : ∀ w ∈ ws, w ≤ 7
theorem nice_pair (a b : Nat) : Nice 1 (.tuple [eN a, eN b]) := .tup (by simp) fun x hx => by
  rcases List.mem_cons.mp hx with rfl | hx
  · exact .int _
  · rw [List.mem_singleton.mp hx]; exact .int _
theorem as_ok (W n : Nat) {digs ws : List Nat} (h : OkIn digs ws) : R W (n + 6) 12 [eT ws, eT digs] = some (.bool true) := by
  obtain ⟨hp, hd, hs, hl, hw⟩ := h
  have hw9 : ∀ w ∈ ws, w < 900 := fun w hwm => Nat.lt_of_le_of_lt (hw w hwm) (by decide)
  obtain ⟨m, hm, h1⟩ := wn_ok W (n + 3) hp hd hl hw
  have hC1 := as_C1 W (n + 4) hp (by omega) (by omega) m hm none none none none
  have hC2 := as_C2 W (n + 4) hp (by omega) (by omega) hw9 (some (.dict (encM eT m))) (some (.list ((good digs ws).map encP))) none none none
  have hj := lj_ok W (n + 4) (ws.map (wt digs)) (by rw [List.length_map]; omega)
  rw [lj_jx hd] at hj
  have hx := ix_wins hm (every_self ws)
  have hjn := jn_ok W (n + 2) hp (by omega) ws hw9
  have htd := td_ok W (n + 1) hp (by omega) hw9 (by omega : ws.length ≤ 10)
  have his := is_at W (n + 5) 0 (eN (jx digs ws)) (.int _) (by omega)
  have hwn := win_nim hp hd (by omega : ws.length ≤ 4)
  have hlen : decide ((0 : Int) < (((good digs ws).map encP).length : Nat)) = win digs ws := by
    rw [← hwn]
    unfold good
    rw [List.length_map, List.length_map]
  refine run_eq (P := P) (d := t__law_asked.df) rfl rfl ?_
  show exec (run P W (n + 5)) W b__law_asked [some (eT ws), some (eT digs), none, none, none, none, none] = _
  have e1 : run P W (n + 5) 11 [eT ws, eT digs] = some (.dict (encM eT m)) := h1
  have e2 : run P W (n + 5) 9 [.list (eNs (ws.map (wt digs)))] = some (eN (jx digs ws)) := hj
  have e3 : run P W (n + 5) 2 [eT ws, eT digs] = some (eN (jx digs ws)) := hjn
  have e4 : run P W (n + 5) 3 [eT ws, eT digs] = some (TD digs ws) := htd
  have e5 : run P W (n + 5) 7 [eN (jx digs ws), eN (jx digs ws)] = some (.bool true) := his
  cases hg : good digs ws with
  | nil =>
    have hTD : TD digs ws = .none := by rw [TD_eq hp hd (by omega), hg]; rfl
    rw [hTD] at e4
    have e6 : run P W (n + 5) 7 [.none, .none] = some (.bool true) := is_at W (n + 5) 0 .none .non (by omega)
    rw [hg] at hC1 hC2 hlen
    have hwf : win digs ws = false := by rw [← hlen]; rfl
    have hlen' : decide ((0 : Int) < (((([] : List Mv).map encP).length : Nat) : Int)) = false := by rfl
    simp -implicitDefEqProofs only [b__law_asked, x_nil, x_cons, x_pass, x_frz, x_asg, x_asgT, x_app, x_ext, x_put, x_aug, x_ret, x_ifs, seqX_nx, seqX_rt, ifX_t, ifX_f, asgX_some, retX_some, e_var, e_bor, e_int, e_bl, e_non, e_yes, e_str, e_bin, e_neg, e_nt, e_cmp, e_and, e_or, e_ite, e_call, e_bi, e_isi, e_ix, e_sl, e_tup, e_lst, e_dic, e_isn, e_isnn, es_nil, es_cons, es_it, es_rng1, es_rng2, es_enm, eb_one, eb_and, eb_or, eo_nil, eo_some, optI_int, op2_some, op1_some, onL_some, onI_some, consO_some, slX_some, tupX_nil, tupX_1, tupX_2, tupX_3, tupX_4, lstX_nil, negX_int, notX_bool, isnX_none, iteX_t, iteX_f, andX_t, andX_f, orX_t, orX_f, getE_zero, getE_succ, set_z, set_s, Option.map_some, Option.bind_some, e1, hC1, hC2, e2, m_ne, ne0_win, hx, hwf, m_neb, u_lenL, m_gt, hlen', e3, e5, Bool.not_true, e4, e6]
  | cons t l =>
    have hTD : TD digs ws = encP t := by rw [TD_eq hp hd (by omega), hg]; rfl
    rw [hTD] at e4
    have e6 : run P W (n + 5) 7 [encP t, encP t] = some (.bool true) := is_at W (n + 5) 1 (encP t) (nice_pair _ _) (by omega)
    have hmin := min_good (ws := ws) hs hg
    rw [hg] at hC1 hC2 hlen hmin
    have hwt : win digs ws = true := by rw [← hlen, List.length_map]; exact decide_eq_true (by simp)
    rw [hwt] at hlen
    simp -implicitDefEqProofs only [b__law_asked, x_nil, x_cons, x_pass, x_frz, x_asg, x_asgT, x_app, x_ext, x_put, x_aug, x_ret, x_ifs, seqX_nx, seqX_rt, ifX_t, ifX_f, asgX_some, retX_some, e_var, e_bor, e_int, e_bl, e_non, e_yes, e_str, e_bin, e_neg, e_nt, e_cmp, e_and, e_or, e_ite, e_call, e_bi, e_isi, e_ix, e_sl, e_tup, e_lst, e_dic, e_isn, e_isnn, es_nil, es_cons, es_it, es_rng1, es_rng2, es_enm, eb_one, eb_and, eb_or, eo_nil, eo_some, optI_int, op2_some, op1_some, onL_some, onI_some, consO_some, slX_some, tupX_nil, tupX_1, tupX_2, tupX_3, tupX_4, lstX_nil, negX_int, notX_bool, isnX_none, iteX_t, iteX_f, andX_t, andX_f, orX_t, orX_f, getE_zero, getE_succ, set_z, set_s, Option.map_some, Option.bind_some, e1, hC1, hC2, e2, m_ne, ne0_win, hx, hwt, m_neb, u_lenL, m_gt, hlen, e3, e5, Bool.not_true, e4, hmin, e6]
end LW

namespace LW
open PySem PC
/-! ### the numbers drawn -/
/-- the i-th of the drawn, below m -/
def dr (ds : List Int) (i m : Nat) : Nat := (ds.getD i 0 % (m : Int)).toNat
theorem dr_lt (ds : List Int) (i : Nat) {m : Nat} (h : 0 < m) : dr ds i m < m := by
  unfold dr
  have := Int.emod_lt_of_pos (ds.getD i 0) (show (0 : Int) < m by omega)
  have := Int.emod_nonneg (ds.getD i 0) (show (m : Int) ≠ 0 by omega)
  omega
theorem nth_ds {ds : List Int} {c : Nat} (h : Drawn c ds) {i : Nat} (hi : i < c) : nth (ds.map PyData.int) (i : Int) = some (.int (ds.getD i 0)) := by
  have hi' : i < ds.length := by rw [h.1]; exact hi
  rw [nth_nat _ (by simpa using hi')]
  simp [hi']
theorem mod_dr (ds : List Int) (i : Nat) {m : Nat} (h : 0 < m) : binD .Mod (.int (ds.getD i 0)) (.int (m : Int)) = some (eN (dr ds i m)) := by
  rw [b_mod _ (by omega)]
  unfold dr
  have := Int.emod_nonneg (ds.getD i 0) (show (m : Int) ≠ 0 by omega)
  exact congrArg (fun z : Int => some (PyData.int z)) (by omega)
theorem eqv_eN (a b : Nat) : PyData.eqv (eN a) (eN b) = decide (a = b) := by
  rw [eqv_int]
  by_cases h : a = b
  · rw [h, decide_eq_true rfl, decide_eq_true rfl]
  · rw [decide_eq_false h, decide_eq_false (by omega)]
def KeysIn (m : List (Nat × D)) : Prop := ∀ p ∈ m, 1 ≤ p.1 ∧ p.1 ≤ 5
theorem keys_put {m : List (Nat × D)} (h : KeysIn m) {a : Nat} (ha : 1 ≤ a ∧ a ≤ 5) (v : D) : KeysIn (putM m a v) := by
  intro p hp
  unfold putM at hp
  split at hp
  · obtain ⟨q, hq, rfl⟩ := List.mem_map.mp hp
    split
    · exact h q hq
    · exact h q hq
  · rcases List.mem_append.mp hp with z | z
    · exact h p z
    · rw [List.mem_singleton.mp z]; exact ha
theorem cs_B1 (Φ : Nat → List D → Option D) (W : Nat) {ds : List Int} (hd : Drawn 13 ds) {i : Nat} (hi : i < 3) (m : List (Nat × D)) (hm : m.length ≤ 10) (r : PC.Env) :
    ∃ a, (1 ≤ a ∧ a ≤ 5) ∧ exec Φ W B_q_case_1 (some (.list (ds.map .int)) :: some (.dict (encM eN m)) :: some (eN i) :: r) = some (.nx (some (.list (ds.map .int)) :: some (.dict (encM eN (putM m a (.bool true)))) :: some (eN i) :: r)) := by
  have g1 : nth (ds.map PyData.int) ((1 + i : Nat) : Int) = _ := nth_ds hd (by omega)
  have g2 : nth (ds.map PyData.int) 12 = some (.int (ds.getD 12 0)) := nth_ds hd (i := 12) (by decide)
  have e12 := mod_dr ds 12 (m := 2) (by decide)
  have hlt := dr_lt ds 12 (m := 2) (by decide)
  obtain ⟨q, hq, h53⟩ : ∃ q : Nat, (q = 5 ∨ q = 3) ∧ ixD (.tuple [.int 5, .int 3]) (eN (dr ds 12 2)) = some (eN q) := by
    rw [u_ixT]
    rcases (by omega : dr ds 12 2 = 0 ∨ dr ds 12 2 = 1) with e | e
    · rw [e]; exact ⟨5, .inl rfl, nth_nat (k := 0) _ (by simp)⟩
    · rw [e]; exact ⟨3, .inr rfl, nth_nat (k := 1) _ (by simp)⟩
  have hq0 : 0 < q := by omega
  have em := mod_dr ds (1 + i) hq0
  have hlt2 := dr_lt ds (1 + i) hq0
  have hput := put_dict eqv_eN m (1 + dr ds (1 + i) q) (.bool true) rfl (fun _ => rfl) (by omega)
  have ea : binD .Add (.int 1) (eN i) = some (eN (1 + i)) := bN_add 1 i
  have eb : binD .Add (.int 1) (eN (dr ds (1 + i) q)) = some (eN (1 + dr ds (1 + i) q)) := bN_add 1 _
  have e12' : binD .Mod (.int (ds.getD 12 0)) (.int 2) = some (eN (dr ds 12 2)) := e12
  refine ⟨1 + dr ds (1 + i) q, by omega, ?_⟩
  simp -implicitDefEqProofs only [B_q_case_1, x_nil, x_cons, x_pass, x_frz, x_asg, x_asgT, x_app, x_ext, x_put, x_aug, x_ret, x_ifs, seqX_nx, seqX_rt, ifX_t, ifX_f, asgX_some, retX_some, e_var, e_bor, e_int, e_bl, e_non, e_yes, e_str, e_bin, e_neg, e_nt, e_cmp, e_and, e_or, e_ite, e_call, e_bi, e_isi, e_ix, e_sl, e_tup, e_lst, e_dic, e_isn, e_isnn, es_nil, es_cons, es_it, es_rng1, es_rng2, es_enm, eb_one, eb_and, eb_or, eo_nil, eo_some, optI_int, op2_some, op1_some, onL_some, onI_some, consO_some, slX_some, tupX_nil, tupX_1, tupX_2, tupX_3, tupX_4, lstX_nil, negX_int, notX_bool, isnX_none, iteX_t, iteX_f, andX_t, andX_f, orX_t, orX_f, getE_zero, getE_succ, set_z, set_s, Option.map_some, Option.bind_some, ea, u_ixL, g1, g2, u_int, e12', h53, em, eb, putX_some _ _ hput]
theorem cs_L1 (Φ : Nat → List D → Option D) (W : Nat) {ds : List Int} (hd : Drawn 13 ds) (r : PC.Env) :
    ∃ m o, KeysIn m ∧ m.length ≤ 3 ∧ exec Φ W L_q_case_1 (some (.list (ds.map .int)) :: some (.dict []) :: none :: r) = some (.nx (some (.list (ds.map .int)) :: some (.dict (encM eN m)) :: o :: r)) := by
  have g0 : nth (ds.map PyData.int) 0 = some (.int (ds.getD 0 0)) := nth_ds hd (i := 0) (by decide)
  have e0 : binD .Mod (.int (ds.getD 0 0)) (.int 4) = some (eN (dr ds 0 4)) := mod_dr ds 0 (by decide)
  have hlt := dr_lt ds 0 (m := 4) (by decide)
  obtain ⟨ρ', e, m, o, hk, hm, rfl⟩ := forL_inv (f := fun x ρ => (bindT (.n 2) x ρ).bind (exec Φ W B_q_case_1)) (xs := eNs (List.range (dr ds 0 4)))
    (fun i ρ => ∃ m o, KeysIn m ∧ m.length ≤ i ∧ ρ = some (.list (ds.map .int)) :: some (.dict (encM eN m)) :: o :: r) (by
      rintro i x ρ hx ⟨m, o, hk, hm, rfl⟩
      obtain ⟨j, hj, rfl⟩ := eNs_get hx
      obtain ⟨hl, e⟩ := List.getElem?_eq_some_iff.mp hj
      rw [List.getElem_range] at e
      rw [List.length_range] at hl
      subst e
      obtain ⟨a, ha, hB⟩ := cs_B1 Φ W hd (i := i) (by omega) m (by omega) r
      have hb : bindT (.n 2) (eN i) (some (.list (ds.map .int)) :: some (.dict (encM eN m)) :: o :: r) = some (some (.list (ds.map .int)) :: some (.dict (encM eN m)) :: some (eN i) :: r) := by simp [bindT]
      refine ⟨_, .inl ?_, putM m a (.bool true), some (eN i), keys_put hk ha _, Nat.le_trans (putM_len _ _ _) (by omega), rfl⟩
      rw [hb, Option.bind_some]
      exact hB) (some (.list (ds.map .int)) :: some (.dict []) :: none :: r) ⟨[], none, fun _ h => absurd h (by simp), by simp, rfl⟩
  rw [show (eNs (List.range (dr ds 0 4))).length = dr ds 0 4 by simp] at hm
  refine ⟨m, o, hk, by omega, ?_⟩
  rw [L_q_case_1, x_for]
  simp -implicitDefEqProofs only [x_nil, x_cons, x_pass, x_frz, x_asg, x_asgT, x_app, x_ext, x_put, x_aug, x_ret, x_ifs, seqX_nx, seqX_rt, ifX_t, ifX_f, asgX_some, retX_some, e_var, e_bor, e_int, e_bl, e_non, e_yes, e_str, e_bin, e_neg, e_nt, e_cmp, e_and, e_or, e_ite, e_call, e_bi, e_isi, e_ix, e_sl, e_tup, e_lst, e_dic, e_isn, e_isnn, es_nil, es_cons, es_it, es_rng1, es_rng2, es_enm, eb_one, eb_and, eb_or, eo_nil, eo_some, optI_int, op2_some, op1_some, onL_some, onI_some, consO_some, slX_some, tupX_nil, tupX_1, tupX_2, tupX_3, tupX_4, lstX_nil, negX_int, notX_bool, isnX_none, iteX_t, iteX_f, andX_t, andX_f, orX_t, orX_f, getE_zero, getE_succ, set_z, set_s, Option.map_some, Option.bind_some, u_ixL, g0, u_int, e0, rngX_int (sm62 (cnt := dr ds 0 4) (by omega)), range_eN, forX_some]
  exact e
/-- sorted keys -/
theorem sort_keys {m : List (Nat × D)} (hk : KeysIn m) (hm : m.length ≤ 3) : ∃ digs : List Nat, biD .sorted [.dict (encM eN m)] = some (.list (eNs digs)) ∧ digs.length ≤ 3 ∧ (∀ d ∈ digs, 1 ≤ d ∧ d ≤ 5) ∧ digs.Pairwise (· ≤ ·) := by
  let ks : List Int := m.map fun p => (p.1 : Int)
  let s : List Int := ks.mergeSort fun a b => decide (a ≤ b)
  have hperm : s.Perm ks := List.mergeSort_perm _ _
  have hpw : s.Pairwise fun a b => decide (a ≤ b) = true := List.pairwise_mergeSort (fun a b c h1 h2 => by simp at *; omega) (fun a b => by simp; omega) _
  have hs : ∀ z ∈ s, 1 ≤ z ∧ z ≤ 5 := fun z hz => by
    obtain ⟨p, hp, rfl⟩ := List.mem_map.mp (hperm.mem_iff.mp hz)
    have := hk p hp
    omega
  have hback : eNs (s.map Int.toNat) = s.map PyData.int := by
    unfold eNs
    rw [List.map_map]
    apply List.map_congr_left
    intro z hz
    have := hs z hz
    show PyData.int _ = _
    congr 1
    omega
  refine ⟨s.map Int.toNat, ?_, ?_, fun d hd => ?_, ?_⟩
  · have hc : (((encM eN m).all fun kv => isInt kv.1) && decide ((encM eN m).length < 64)) = true := by
      rw [Bool.and_eq_true]
      constructor
      · rw [List.all_eq_true]
        intro kv hkv
        obtain ⟨p, _, rfl⟩ := List.mem_map.mp hkv
        rfl
      · unfold encM
        rw [List.length_map]
        exact decide_eq_true (by omega)
    show (if (((encM eN m).all fun kv => isInt kv.1) && decide ((encM eN m).length < 64)) = true then some (PyData.list (sortD ((encM eN m).map (·.1)))) else none) = _
    rw [if_pos hc, hback]
    have e : (encM eN m).map (·.1) = ks.map PyData.int := by
      unfold encM
      rw [List.map_map, List.map_map]
      rfl
    rw [e, sortD_ints]
  · rw [List.length_map, hperm.length_eq, List.length_map]; exact hm
  · obtain ⟨z, hz, rfl⟩ := List.mem_map.mp hd
    have := hs z hz
    omega
  · rw [List.pairwise_map]
    refine hpw.imp_of_mem fun {a b} ha hb h => ?_
    have h1 := hs a ha
    have h2 := hs b hb
    have h : a ≤ b := by simpa using h
    omega
end LW

namespace LW
open PySem PC
def wells (ds : List Int) : List Nat := (List.range (dr ds 4 4)).map fun i => dr ds (5 + i) 8
def deep (ds : List Int) : List Nat := (List.range 4).map fun i => dr ds (8 + i) 21
theorem cs_C1 (Φ : Nat → List D → Option D) {ds : List Int} (hd : Drawn 13 ds) (b c : Option D) (r : PC.Env) : ev Φ C_q_case_1 (some (.list (ds.map .int)) :: b :: c :: r) = some (.list (eNs (wells ds))) := by
  have g0 : nth (ds.map PyData.int) 4 = some (.int (ds.getD 4 0)) := nth_ds hd (i := 4) (by decide)
  have e0 : binD .Mod (.int (ds.getD 4 0)) (.int 4) = some (eN (dr ds 4 4)) := mod_dr ds 4 (by decide)
  have hlt := dr_lt ds 4 (m := 4) (by decide)
  rw [C_q_case_1, e_lc]
  simp -implicitDefEqProofs only [x_nil, x_cons, x_pass, x_frz, x_asg, x_asgT, x_app, x_ext, x_put, x_aug, x_ret, x_ifs, seqX_nx, seqX_rt, ifX_t, ifX_f, asgX_some, retX_some, e_var, e_bor, e_int, e_bl, e_non, e_yes, e_str, e_bin, e_neg, e_nt, e_cmp, e_and, e_or, e_ite, e_call, e_bi, e_isi, e_ix, e_sl, e_tup, e_lst, e_dic, e_isn, e_isnn, es_nil, es_cons, es_it, es_rng1, es_rng2, es_enm, eb_one, eb_and, eb_or, eo_nil, eo_some, optI_int, op2_some, op1_some, onL_some, onI_some, consO_some, slX_some, tupX_nil, tupX_1, tupX_2, tupX_3, tupX_4, lstX_nil, negX_int, notX_bool, isnX_none, iteX_t, iteX_f, andX_t, andX_f, orX_t, orX_f, getE_zero, getE_succ, set_z, set_s, Option.map_some, Option.bind_some, u_ixL, g0, u_int, e0, rngX_int (sm62 (cnt := dr ds 4 4) (by omega)), range_eN]
  rw [lcX_all eN (fun i => eN (dr ds (5 + i) 8)) (by rw [List.length_range]; exact Nat.le_of_lt (Nat.lt_trans (by omega : dr ds 4 4 < 10) (by decide)))]
  · unfold wells eNs
    rw [List.map_map]
    rfl
  intro i hi
  have hi4 : i < dr ds 4 4 := List.mem_range.mp hi
  have hb : bindT (.n 2) (eN i) (wipeE (some (.list (ds.map .int)) :: b :: c :: r) [2]) = some (some (.list (ds.map .int)) :: b :: some (eN i) :: r) := by simp [bindT, wipeE]
  have ea : binD .Add (.int 5) (eN i) = some (eN (5 + i)) := bN_add 5 i
  have g1 : nth (ds.map PyData.int) ((5 + i : Nat) : Int) = _ := nth_ds hd (by omega)
  have e1 : binD .Mod (.int (ds.getD (5 + i) 0)) (.int 8) = some (eN (dr ds (5 + i) 8)) := mod_dr ds (5 + i) (by decide)
  refine compF_t hb (by simp -implicitDefEqProofs only [x_nil, x_cons, x_pass, x_frz, x_asg, x_asgT, x_app, x_ext, x_put, x_aug, x_ret, x_ifs, seqX_nx, seqX_rt, ifX_t, ifX_f, asgX_some, retX_some, e_var, e_bor, e_int, e_bl, e_non, e_yes, e_str, e_bin, e_neg, e_nt, e_cmp, e_and, e_or, e_ite, e_call, e_bi, e_isi, e_ix, e_sl, e_tup, e_lst, e_dic, e_isn, e_isnn, es_nil, es_cons, es_it, es_rng1, es_rng2, es_enm, eb_one, eb_and, eb_or, eo_nil, eo_some, optI_int, op2_some, op1_some, onL_some, onI_some, consO_some, slX_some, tupX_nil, tupX_1, tupX_2, tupX_3, tupX_4, lstX_nil, negX_int, notX_bool, isnX_none, iteX_t, iteX_f, andX_t, andX_f, orX_t, orX_f, getE_zero, getE_succ, set_z, set_s, Option.map_some, Option.bind_some]) ?_
  simp -implicitDefEqProofs only [x_nil, x_cons, x_pass, x_frz, x_asg, x_asgT, x_app, x_ext, x_put, x_aug, x_ret, x_ifs, seqX_nx, seqX_rt, ifX_t, ifX_f, asgX_some, retX_some, e_var, e_bor, e_int, e_bl, e_non, e_yes, e_str, e_bin, e_neg, e_nt, e_cmp, e_and, e_or, e_ite, e_call, e_bi, e_isi, e_ix, e_sl, e_tup, e_lst, e_dic, e_isn, e_isnn, es_nil, es_cons, es_it, es_rng1, es_rng2, es_enm, eb_one, eb_and, eb_or, eo_nil, eo_some, optI_int, op2_some, op1_some, onL_some, onI_some, consO_some, slX_some, tupX_nil, tupX_1, tupX_2, tupX_3, tupX_4, lstX_nil, negX_int, notX_bool, isnX_none, iteX_t, iteX_f, andX_t, andX_f, orX_t, orX_f, getE_zero, getE_succ, set_z, set_s, Option.map_some, Option.bind_some, ea, u_ixL, g1, u_int, e1]
theorem cs_C3 (Φ : Nat → List D → Option D) {ds : List Int} (hd : Drawn 13 ds) (b c : Option D) (r : PC.Env) : ev Φ C_q_case_3 (some (.list (ds.map .int)) :: b :: c :: r) = some (.list (eNs (deep ds))) := by
  rw [C_q_case_3, e_lc]
  have hr : rngX (.int 4) = some (eNs (List.range 4)) := by rw [show (.int 4 : D) = .int ((4 : Nat) : Int) from rfl, rngX_int (sm62 (cnt := 4) (by decide)), range_eN]
  simp -implicitDefEqProofs only [x_nil, x_cons, x_pass, x_frz, x_asg, x_asgT, x_app, x_ext, x_put, x_aug, x_ret, x_ifs, seqX_nx, seqX_rt, ifX_t, ifX_f, asgX_some, retX_some, e_var, e_bor, e_int, e_bl, e_non, e_yes, e_str, e_bin, e_neg, e_nt, e_cmp, e_and, e_or, e_ite, e_call, e_bi, e_isi, e_ix, e_sl, e_tup, e_lst, e_dic, e_isn, e_isnn, es_nil, es_cons, es_it, es_rng1, es_rng2, es_enm, eb_one, eb_and, eb_or, eo_nil, eo_some, optI_int, op2_some, op1_some, onL_some, onI_some, consO_some, slX_some, tupX_nil, tupX_1, tupX_2, tupX_3, tupX_4, lstX_nil, negX_int, notX_bool, isnX_none, iteX_t, iteX_f, andX_t, andX_f, orX_t, orX_f, getE_zero, getE_succ, set_z, set_s, Option.map_some, Option.bind_some, hr]
  rw [lcX_all eN (fun i => eN (dr ds (8 + i) 21)) (by rw [List.length_range]; decide)]
  · unfold deep eNs
    rw [List.map_map]
    rfl
  intro i hi
  have hi4 : i < 4 := List.mem_range.mp hi
  have hb : bindT (.n 2) (eN i) (wipeE (some (.list (ds.map .int)) :: b :: c :: r) [2]) = some (some (.list (ds.map .int)) :: b :: some (eN i) :: r) := by simp [bindT, wipeE]
  have ea : binD .Add (.int 8) (eN i) = some (eN (8 + i)) := bN_add 8 i
  have g1 : nth (ds.map PyData.int) ((8 + i : Nat) : Int) = _ := nth_ds hd (by omega)
  have e1 : binD .Mod (.int (ds.getD (8 + i) 0)) (.int 21) = some (eN (dr ds (8 + i) 21)) := mod_dr ds (8 + i) (by decide)
  refine compF_t hb (by simp -implicitDefEqProofs only [x_nil, x_cons, x_pass, x_frz, x_asg, x_asgT, x_app, x_ext, x_put, x_aug, x_ret, x_ifs, seqX_nx, seqX_rt, ifX_t, ifX_f, asgX_some, retX_some, e_var, e_bor, e_int, e_bl, e_non, e_yes, e_str, e_bin, e_neg, e_nt, e_cmp, e_and, e_or, e_ite, e_call, e_bi, e_isi, e_ix, e_sl, e_tup, e_lst, e_dic, e_isn, e_isnn, es_nil, es_cons, es_it, es_rng1, es_rng2, es_enm, eb_one, eb_and, eb_or, eo_nil, eo_some, optI_int, op2_some, op1_some, onL_some, onI_some, consO_some, slX_some, tupX_nil, tupX_1, tupX_2, tupX_3, tupX_4, lstX_nil, negX_int, notX_bool, isnX_none, iteX_t, iteX_f, andX_t, andX_f, orX_t, orX_f, getE_zero, getE_succ, set_z, set_s, Option.map_some, Option.bind_some]) ?_
  simp -implicitDefEqProofs only [x_nil, x_cons, x_pass, x_frz, x_asg, x_asgT, x_app, x_ext, x_put, x_aug, x_ret, x_ifs, seqX_nx, seqX_rt, ifX_t, ifX_f, asgX_some, retX_some, e_var, e_bor, e_int, e_bl, e_non, e_yes, e_str, e_bin, e_neg, e_nt, e_cmp, e_and, e_or, e_ite, e_call, e_bi, e_isi, e_ix, e_sl, e_tup, e_lst, e_dic, e_isn, e_isnn, es_nil, es_cons, es_it, es_rng1, es_rng2, es_enm, eb_one, eb_and, eb_or, eo_nil, eo_some, optI_int, op2_some, op1_some, onL_some, onI_some, consO_some, slX_some, tupX_nil, tupX_1, tupX_2, tupX_3, tupX_4, lstX_nil, negX_int, notX_bool, isnX_none, iteX_t, iteX_f, andX_t, andX_f, orX_t, orX_f, getE_zero, getE_succ, set_z, set_s, Option.map_some, Option.bind_some, ea, u_ixL, g1, u_int, e1]
theorem cs_C2 (Φ : Nat → List D → Option D) (a b c e f g h i j k : Option D) {digs : List Nat} (hl : digs.length ≤ 10) : ev Φ C_q_case_2 [a, b, c, some (eT digs), e, f, g, h, i, j, k] = some (.list (eNs (digs.filter fun d => decide (1 < d)))) := by
  rw [C_q_case_2, e_lc]
  simp -implicitDefEqProofs only [x_nil, x_cons, x_pass, x_frz, x_asg, x_asgT, x_app, x_ext, x_put, x_aug, x_ret, x_ifs, seqX_nx, seqX_rt, ifX_t, ifX_f, asgX_some, retX_some, e_var, e_bor, e_int, e_bl, e_non, e_yes, e_str, e_bin, e_neg, e_nt, e_cmp, e_and, e_or, e_ite, e_call, e_bi, e_isi, e_ix, e_sl, e_tup, e_lst, e_dic, e_isn, e_isnn, es_nil, es_cons, es_it, es_rng1, es_rng2, es_enm, eb_one, eb_and, eb_or, eo_nil, eo_some, optI_int, op2_some, op1_some, onL_some, onI_some, consO_some, slX_some, tupX_nil, tupX_1, tupX_2, tupX_3, tupX_4, lstX_nil, negX_int, notX_bool, isnX_none, iteX_t, iteX_f, andX_t, andX_f, orX_t, orX_f, getE_zero, getE_succ, set_z, set_s, Option.map_some, Option.bind_some, u_itT]
  refine lcX_map eN (fun d => decide (1 < d)) eN (Nat.le_trans hl (by decide)) fun d _ => ?_
  have hb : bindT (.n 10) (eN d) (wipeE [a, b, c, some (eT digs), e, f, g, h, i, j, k] [10]) = some [a, b, c, some (eT digs), e, f, g, h, i, j, some (eN d)] := by simp [bindT, wipeE]
  have hc : ev Φ (.cmp .Gt (.var 10) (.int 1)) [a, b, c, some (eT digs), e, f, g, h, i, j, some (eN d)] = some (.bool (decide (1 < d))) := by
    simp -implicitDefEqProofs only [x_nil, x_cons, x_pass, x_frz, x_asg, x_asgT, x_app, x_ext, x_put, x_aug, x_ret, x_ifs, seqX_nx, seqX_rt, ifX_t, ifX_f, asgX_some, retX_some, e_var, e_bor, e_int, e_bl, e_non, e_yes, e_str, e_bin, e_neg, e_nt, e_cmp, e_and, e_or, e_ite, e_call, e_bi, e_isi, e_ix, e_sl, e_tup, e_lst, e_dic, e_isn, e_isnn, es_nil, es_cons, es_it, es_rng1, es_rng2, es_enm, eb_one, eb_and, eb_or, eo_nil, eo_some, optI_int, op2_some, op1_some, onL_some, onI_some, consO_some, slX_some, tupX_nil, tupX_1, tupX_2, tupX_3, tupX_4, lstX_nil, negX_int, notX_bool, isnX_none, iteX_t, iteX_f, andX_t, andX_f, orX_t, orX_f, getE_zero, getE_succ, set_z, set_s, Option.map_some, Option.bind_some, m_gt]
    by_cases h : 1 < d
    · rw [decide_eq_true h, decide_eq_true (by omega)]
    · rw [decide_eq_false h, decide_eq_false (by omega)]
  by_cases h : 1 < d
  · rw [decide_eq_true h] at hc ⊢
    rw [if_pos rfl]
    exact compF_t hb hc (by simp -implicitDefEqProofs only [x_nil, x_cons, x_pass, x_frz, x_asg, x_asgT, x_app, x_ext, x_put, x_aug, x_ret, x_ifs, seqX_nx, seqX_rt, ifX_t, ifX_f, asgX_some, retX_some, e_var, e_bor, e_int, e_bl, e_non, e_yes, e_str, e_bin, e_neg, e_nt, e_cmp, e_and, e_or, e_ite, e_call, e_bi, e_isi, e_ix, e_sl, e_tup, e_lst, e_dic, e_isn, e_isnn, es_nil, es_cons, es_it, es_rng1, es_rng2, es_enm, eb_one, eb_and, eb_or, eo_nil, eo_some, optI_int, op2_some, op1_some, onL_some, onI_some, consO_some, slX_some, tupX_nil, tupX_1, tupX_2, tupX_3, tupX_4, lstX_nil, negX_int, notX_bool, isnX_none, iteX_t, iteX_f, andX_t, andX_f, orX_t, orX_f, getE_zero, getE_succ, set_z, set_s, Option.map_some, Option.bind_some])
  · rw [decide_eq_false h] at hc ⊢
    rw [if_neg Bool.false_ne_true]
    exact compF_f hb hc
theorem cs_C4 (W n : Nat) {digs dp : List Nat} (hp : Pos digs) (hdl : digs.length < 1000) (hl : dp.length < 1000) (hw : ∀ w ∈ dp, w < 900) (a b c e f h i j k : Option D) :
    ev (run P W (n + 1)) C_q_case_4 [a, b, c, some (eT digs), e, f, some (eT dp), h, i, j, k] = some (.list (eNs (dp.map (wt digs)))) := by
  rw [C_q_case_4, e_lc]
  simp -implicitDefEqProofs only [x_nil, x_cons, x_pass, x_frz, x_asg, x_asgT, x_app, x_ext, x_put, x_aug, x_ret, x_ifs, seqX_nx, seqX_rt, ifX_t, ifX_f, asgX_some, retX_some, e_var, e_bor, e_int, e_bl, e_non, e_yes, e_str, e_bin, e_neg, e_nt, e_cmp, e_and, e_or, e_ite, e_call, e_bi, e_isi, e_ix, e_sl, e_tup, e_lst, e_dic, e_isn, e_isnn, es_nil, es_cons, es_it, es_rng1, es_rng2, es_enm, eb_one, eb_and, eb_or, eo_nil, eo_some, optI_int, op2_some, op1_some, onL_some, onI_some, consO_some, slX_some, tupX_nil, tupX_1, tupX_2, tupX_3, tupX_4, lstX_nil, negX_int, notX_bool, isnX_none, iteX_t, iteX_f, andX_t, andX_f, orX_t, orX_f, getE_zero, getE_succ, set_z, set_s, Option.map_some, Option.bind_some, u_itT]
  rw [lcX_all eN (fun w => eN (wt digs w)) (Nat.le_of_lt (Nat.lt_trans hl (by decide)))]
  · unfold eNs
    rw [List.map_map]
    rfl
  intro w hwm
  have hb : bindT (.n 9) (eN w) (wipeE [a, b, c, some (eT digs), e, f, some (eT dp), h, i, j, k] [9]) = some [a, b, c, some (eT digs), e, f, some (eT dp), h, i, some (eN w), k] := by simp [bindT, wipeE]
  have hc := lw_ok W n hp hdl w (hw w hwm)
  refine compF_t hb (by simp -implicitDefEqProofs only [x_nil, x_cons, x_pass, x_frz, x_asg, x_asgT, x_app, x_ext, x_put, x_aug, x_ret, x_ifs, seqX_nx, seqX_rt, ifX_t, ifX_f, asgX_some, retX_some, e_var, e_bor, e_int, e_bl, e_non, e_yes, e_str, e_bin, e_neg, e_nt, e_cmp, e_and, e_or, e_ite, e_call, e_bi, e_isi, e_ix, e_sl, e_tup, e_lst, e_dic, e_isn, e_isnn, es_nil, es_cons, es_it, es_rng1, es_rng2, es_enm, eb_one, eb_and, eb_or, eo_nil, eo_some, optI_int, op2_some, op1_some, onL_some, onI_some, consO_some, slX_some, tupX_nil, tupX_1, tupX_2, tupX_3, tupX_4, lstX_nil, negX_int, notX_bool, isnX_none, iteX_t, iteX_f, andX_t, andX_f, orX_t, orX_f, getE_zero, getE_succ, set_z, set_s, Option.map_some, Option.bind_some]) ?_
  simp -implicitDefEqProofs only [x_nil, x_cons, x_pass, x_frz, x_asg, x_asgT, x_app, x_ext, x_put, x_aug, x_ret, x_ifs, seqX_nx, seqX_rt, ifX_t, ifX_f, asgX_some, retX_some, e_var, e_bor, e_int, e_bl, e_non, e_yes, e_str, e_bin, e_neg, e_nt, e_cmp, e_and, e_or, e_ite, e_call, e_bi, e_isi, e_ix, e_sl, e_tup, e_lst, e_dic, e_isn, e_isnn, es_nil, es_cons, es_it, es_rng1, es_rng2, es_enm, eb_one, eb_and, eb_or, eo_nil, eo_some, optI_int, op2_some, op1_some, onL_some, onI_some, consO_some, slX_some, tupX_nil, tupX_1, tupX_2, tupX_3, tupX_4, lstX_nil, negX_int, notX_bool, isnX_none, iteX_t, iteX_f, andX_t, andX_f, orX_t, orX_f, getE_zero, getE_succ, set_z, set_s, Option.map_some, Option.bind_some, show run P W (n + 1) 8 [eN w, .tuple (eNs digs)] = _ from hc, u_ixL, nth_wl]
theorem nth_wl2 {digs : List Nat} {k m : Nat} (h : k < m) : nth (eNs (wl digs m)) (k : Int) = some (eN (wt digs k)) := by
  have hl : k < (wl digs m).length := by rw [wl_len]; exact h
  rw [nth_eN _ hl]
  have := wl_get digs m k h
  rw [getD_lt hl] at this
  rw [this]
theorem cs_C5 (W n : Nat) {digs : List Nat} (hp : Pos digs) (hdl : digs.length < 1000) (a b c e f g h j k : Option D) :
    ev (run P W (n + 2)) C_q_case_5 [a, b, c, some (eT digs), e, f, g, h, some (.list (eNs (wl digs 21))), j, k] = some (.list []) := by
  rw [C_q_case_5, e_lc]
  have hr : rngX (.int 21) = some (eNs (List.range 21)) := by rw [show (.int 21 : D) = .int ((21 : Nat) : Int) from rfl, rngX_int (sm62 (cnt := 21) (by decide)), range_eN]
  simp -implicitDefEqProofs only [x_nil, x_cons, x_pass, x_frz, x_asg, x_asgT, x_app, x_ext, x_put, x_aug, x_ret, x_ifs, seqX_nx, seqX_rt, ifX_t, ifX_f, asgX_some, retX_some, e_var, e_bor, e_int, e_bl, e_non, e_yes, e_str, e_bin, e_neg, e_nt, e_cmp, e_and, e_or, e_ite, e_call, e_bi, e_isi, e_ix, e_sl, e_tup, e_lst, e_dic, e_isn, e_isnn, es_nil, es_cons, es_it, es_rng1, es_rng2, es_enm, eb_one, eb_and, eb_or, eo_nil, eo_some, optI_int, op2_some, op1_some, onL_some, onI_some, consO_some, slX_some, tupX_nil, tupX_1, tupX_2, tupX_3, tupX_4, lstX_nil, negX_int, notX_bool, isnX_none, iteX_t, iteX_f, andX_t, andX_f, orX_t, orX_f, getE_zero, getE_succ, set_z, set_s, Option.map_some, Option.bind_some, hr]
  have q := lcX_map (Φ := run P W (n + 2)) (tg := .n 9) (cond := .nt (.call 7 (.cons (.call 1 (.cons (.var 9) (.cons (.var 3) (.nil)))) (.cons (.ix (.var 8) (.var 9)) (.nil))))) (elt := .var 9) (vs := [9]) (ρ := [a, b, c, some (eT digs), e, f, g, h, some (.list (eNs (wl digs 21))), j, k]) eN (fun _ => false) eN (xs := List.range 21) (by rw [List.length_range]; decide) (fun d hd => ?_)
  · rw [q]
    simp
  · have hd21 : d < 21 := List.mem_range.mp hd
    have hb : bindT (.n 9) (eN d) (wipeE [a, b, c, some (eT digs), e, f, g, h, some (.list (eNs (wl digs 21))), j, k] [9]) = some [a, b, c, some (eT digs), e, f, g, h, some (.list (eNs (wl digs 21))), some (eN d), k] := by simp [bindT, wipeE]
    have h1 := at_ok W n hp hdl d (by omega)
    have h2 := is_at W (n + 2) 0 (eN (wt digs d)) (.int _) (by omega)
    rw [if_neg Bool.false_ne_true]
    refine compF_f hb ?_
    simp -implicitDefEqProofs only [x_nil, x_cons, x_pass, x_frz, x_asg, x_asgT, x_app, x_ext, x_put, x_aug, x_ret, x_ifs, seqX_nx, seqX_rt, ifX_t, ifX_f, asgX_some, retX_some, e_var, e_bor, e_int, e_bl, e_non, e_yes, e_str, e_bin, e_neg, e_nt, e_cmp, e_and, e_or, e_ite, e_call, e_bi, e_isi, e_ix, e_sl, e_tup, e_lst, e_dic, e_isn, e_isnn, es_nil, es_cons, es_it, es_rng1, es_rng2, es_enm, eb_one, eb_and, eb_or, eo_nil, eo_some, optI_int, op2_some, op1_some, onL_some, onI_some, consO_some, slX_some, tupX_nil, tupX_1, tupX_2, tupX_3, tupX_4, lstX_nil, negX_int, notX_bool, isnX_none, iteX_t, iteX_f, andX_t, andX_f, orX_t, orX_f, getE_zero, getE_succ, set_z, set_s, Option.map_some, Option.bind_some, show run P W (n + 2) 1 [eN d, .tuple (eNs digs)] = _ from h1, u_ixL, nth_wl2 hd21, show run P W (n + 2) 7 [eN (wt digs d), eN (wt digs d)] = _ from h2, Bool.not_true]
theorem TD_none {digs ws : List Nat} (hp : Pos digs) (hd : digs.length ≤ 4) (hl : ws.length ≤ 4) : isnX (TD digs ws) = .bool (decide (jx digs ws = 0)) := by
  have q := nim hp hd hl
  rw [TD_eq hp hd hl]
  cases hg : good digs ws with
  | nil =>
    have h0 : jx digs ws = 0 := by
      by_cases h : jx digs ws = 0
      · exact h
      · obtain ⟨t, h1, h2⟩ := q.mp h
        have : t ∈ good digs ws := List.mem_filter.mpr ⟨h1, by simp [win, h2]⟩
        rw [hg] at this
        exact absurd this (by simp)
    rw [decide_eq_true h0]
    exact isnX_none
  | cons t l =>
    have ht : t ∈ good digs ws := by rw [hg]; simp
    obtain ⟨h1, h2⟩ := List.mem_filter.mp ht
    have hne : jx digs ws ≠ 0 := q.mpr ⟨t, h1, by simpa [win] using h2⟩
    rw [decide_eq_false hne]
    exact isn_tup _
end LW

namespace LW
open PySem PC
theorem isnnX_none : isnnX .none = .bool false := by rw [isnnX]
theorem take_eT (ws : List Nat) (k : Nat) : sliceD (eT ws) none (some (k : Int)) = some (eT (ws.take k)) := by
  rw [show eT ws = .tuple (eNs ws) from rfl, sl_take]
  unfold eNs
  rw [← List.map_take]
theorem xx0 (digs : List Nat) (x : Nat) : jx digs [x, x] = 0 := by
  rw [jx_eq, List.map_cons, List.map_cons, xl_cons, xl_cons]
  simp [xl]
theorem same_ok (Φ : Nat → List D → Option D) (ρ : PC.Env) {ws : List Nat} (hl : ws.length ≤ 3) (hw : ∀ w ∈ ws, w ≤ 7) (h4 : getE ρ 4 = some (.tuple (eNs ws))) :
    ∃ x, x ≤ 7 ∧ iteX Φ (op2 (biD .len [.tuple (eNs ws)]) (some (.int 0)) (cmpX .Gt)) (.bin .Add (.sl (.var 4) (.nil) (.cons (.int 1) (.nil))) (.sl (.var 4) (.nil) (.cons (.int 1) (.nil)))) (.tup (.cons (.int 3) (.cons (.int 3) (.nil)))) ρ = some (.tuple (eNs [x, x])) := by
  cases ws with
  | nil =>
    have h0 : decide ((0 : Int) < (((eNs []).length : Nat) : Int)) = false := by rfl
    refine ⟨3, by decide, ?_⟩
    simp -implicitDefEqProofs only [x_nil, x_cons, x_pass, x_frz, x_asg, x_asgT, x_app, x_ext, x_put, x_aug, x_ret, x_ifs, seqX_nx, seqX_rt, ifX_t, ifX_f, asgX_some, retX_some, e_var, e_bor, e_int, e_bl, e_non, e_yes, e_str, e_bin, e_neg, e_nt, e_cmp, e_and, e_or, e_ite, e_call, e_bi, e_isi, e_ix, e_sl, e_tup, e_lst, e_dic, e_isn, e_isnn, es_nil, es_cons, es_it, es_rng1, es_rng2, es_enm, eb_one, eb_and, eb_or, eo_nil, eo_some, optI_int, op2_some, op1_some, onL_some, onI_some, consO_some, slX_some, tupX_nil, tupX_1, tupX_2, tupX_3, tupX_4, lstX_nil, negX_int, notX_bool, isnX_none, iteX_t, iteX_f, andX_t, andX_f, orX_t, orX_f, getE_zero, getE_succ, set_z, set_s, Option.map_some, Option.bind_some, u_lenT, m_gt, h0]
    rfl
  | cons x l =>
    have h0 : decide ((0 : Int) < (((eNs (x :: l)).length : Nat) : Int)) = true := decide_eq_true (by simp)
    have ht : sliceD (.tuple (eNs (x :: l))) none (some 1) = some (eT [x]) := by
      have := take_eT (x :: l) 1
      rw [show (x :: l).take 1 = [x] from rfl] at this
      exact this
    have ha : binD .Add (eT [x]) (eT [x]) = some (eT [x, x]) := bT_add (by simp)
    refine ⟨x, hw x (by simp), ?_⟩
    simp -implicitDefEqProofs only [x_nil, x_cons, x_pass, x_frz, x_asg, x_asgT, x_app, x_ext, x_put, x_aug, x_ret, x_ifs, seqX_nx, seqX_rt, ifX_t, ifX_f, asgX_some, retX_some, e_var, e_bor, e_int, e_bl, e_non, e_yes, e_str, e_bin, e_neg, e_nt, e_cmp, e_and, e_or, e_ite, e_call, e_bi, e_isi, e_ix, e_sl, e_tup, e_lst, e_dic, e_isn, e_isnn, es_nil, es_cons, es_it, es_rng1, es_rng2, es_enm, eb_one, eb_and, eb_or, eo_nil, eo_some, optI_int, op2_some, op1_some, onL_some, onI_some, consO_some, slX_some, tupX_nil, tupX_1, tupX_2, tupX_3, tupX_4, lstX_nil, negX_int, notX_bool, isnX_none, iteX_t, iteX_f, andX_t, andX_f, orX_t, orX_f, getE_zero, getE_succ, set_z, set_s, Option.map_some, Option.bind_some, h4, u_lenT, m_gt, h0, ht, ha]
theorem told5 (W n : Nat) : ∃ d, run P W (n + 4) 3 [.tuple [.int 5], .tuple [.int 1, .int 2, .int 5]] = some d ∧ isnX d = .bool false := by
  have hp : Pos [1, 2, 5] := fun d hd => by
    simp at hd
    omega
  have h := td_ok W n (ws := [5]) hp (by simp) (fun w hw => by rw [List.mem_singleton.mp hw]; decide) (by simp)
  refine ⟨TD [1, 2, 5] [5], h, ?_⟩
  rw [TD_none hp (by simp) (by simp)]
  have hne : jx [1, 2, 5] [5] ≠ 0 := by decide +kernel
  rw [decide_eq_false hne]
theorem case_ok (W n : Nat) {ds : List Int} (hd : Drawn 13 ds) : R W (n + 7) 13 [.list (ds.map .int)] = some (.bool true) := by
  refine run_eq (P := P) (d := t__law_case.df) rfl rfl ?_
  show exec (run P W (n + 6)) W b__law_case [some (.list (ds.map .int)), none, none, none, none, none, none, none, none, none, none] = _
  obtain ⟨m, o, hk, hm, h1⟩ := cs_L1 (run P W (n + 6)) W hd [none, none, none, none, none, none, none, none]
  obtain ⟨digs, hS, hdl, hdk, hasc⟩ := sort_keys hk hm
  have hpos : Pos digs := fun d h => by have := hdk d h; omega
  have hwl : (wells ds).length ≤ 3 := by
    have := dr_lt ds 4 (m := 4) (by decide)
    unfold wells
    rw [List.length_map, List.length_range]
    omega
  have hw7 : ∀ w ∈ wells ds, w ≤ 7 := fun w hw => by
    obtain ⟨i, _, rfl⟩ := List.mem_map.mp hw
    have := dr_lt ds (5 + i) (m := 8) (by decide)
    omega
  have hC1 := cs_C1 (run P W (n + 6)) hd (some (.dict (encM eN m))) o [some (eT digs), none, none, none, none, none, none, none]
  have hA1 := as_ok W n (digs := digs) (ws := wells ds) ⟨hpos, by omega, hasc, hwl, hw7⟩
  -- the second
  have hC2 := cs_C2 (run P W (n + 6)) (some (.list (ds.map .int))) (some (.dict (encM eN m))) o (some (eT (wells ds))) none none none none none none (digs := digs) (by omega)
  have hadd : binD .Add (.tuple [.int 1]) (.tuple (eNs (digs.filter fun d => decide (1 < d)))) = some (eT (1 :: digs.filter fun d => decide (1 < d))) := by
    have hfl := List.length_filter_le (fun d => decide (1 < d)) digs
    exact bT_add (xs := [.int 1]) (by rw [List.length_map]; simp only [List.length_cons, List.length_nil]; omega)
  have hA2 := as_ok W n (digs := 1 :: digs.filter fun d => decide (1 < d)) (ws := (wells ds).take 2) ⟨fun d h => by
      rcases List.mem_cons.mp h with rfl | h
      · exact ⟨by decide, by decide⟩
      · exact hpos d (List.mem_filter.mp h).1, by
      have hfl := List.length_filter_le (fun d => decide (1 < d)) digs
      rw [List.length_cons]
      omega, List.pairwise_cons.mpr ⟨fun d h => (hpos d (List.mem_filter.mp h).1).1, hasc.filter _⟩, by rw [List.length_take]; omega, fun w h => hw7 w (List.mem_of_mem_take h)⟩
  have hT2 : sliceD (eT (wells ds)) none (some 2) = some (eT ((wells ds).take 2)) := take_eT (wells ds) 2
  -- the same twice
  obtain ⟨x, hx, hsame⟩ := same_ok (run P W (n + 6)) [some (.list (ds.map .int)), some (.dict (encM eN m)), o, some (eT digs), some (eT (wells ds)), none, none, none, none, none, none] hwl hw7 (by simp [getE])
  have hA3 := as_ok W n (digs := digs) (ws := [x, x]) ⟨hpos, by omega, hasc, by simp, fun w h => by simp at h; omega⟩
  have hD3 := td_ok W (n + 2) hpos (by omega) (ws := [x, x]) (fun w h => by simp at h; omega) (by simp)
  have hTD3 : TD digs [x, x] = .none := by unfold TD; rw [if_pos (xx0 digs x)]
  rw [hTD3] at hD3
  obtain ⟨d5, h5, h5n⟩ := told5 W (n + 2)
  -- the deep ones
  have hC3 := cs_C3 (run P W (n + 6)) hd (some (.dict (encM eN m))) o [some (eT digs), some (eT (wells ds)), some (eT [x, x]), none, none, none, none, none]
  have hdp : (deep ds).length = 4 := by simp [deep]
  have hdw : ∀ w ∈ deep ds, w < 900 := fun w hw => by
    obtain ⟨i, _, rfl⟩ := List.mem_map.mp hw
    have := dr_lt ds (8 + i) (m := 21) (by decide)
    omega
  have hC4 := cs_C4 W (n + 5) hpos (by omega) (dp := deep ds) (by omega) hdw (some (.list (ds.map .int))) (some (.dict (encM eN m))) o (some (eT (wells ds))) (some (eT [x, x])) none none none none
  have hJ := lj_ok W (n + 5) ((deep ds).map (wt digs)) (by rw [List.length_map]; omega)
  rw [lj_jx (by omega)] at hJ
  have hjn := jn_ok W (n + 3) hpos (by omega) (deep ds) hdw
  have his := is_at W (n + 6) 0 (eN (jx digs (deep ds))) (.int _) (by omega)
  have hD4 := td_ok W (n + 2) hpos (by omega) hdw (by omega : (deep ds).length ≤ 10)
  have hN4 := TD_none hpos (by omega) (by omega : (deep ds).length ≤ 4)
  have hz : decide (((jx digs (deep ds) : Nat) : Int) = 0) = decide (jx digs (deep ds) = 0) := by
    by_cases e : jx digs (deep ds) = 0
    · rw [e]; rfl
    · rw [decide_eq_false e, decide_eq_false (by omega)]
  have hW := lw_ok W (n + 5) hpos (by omega) 20 (by decide)
  have hC5 := cs_C5 W (n + 4) hpos (by omega) (some (.list (ds.map .int))) (some (.dict (encM eN m))) o (some (eT (wells ds))) (some (eT [x, x])) (some (eT (deep ds))) (some (eN (jx digs (deep ds)))) none none
  have h00 : decide (((([] : List D).length : Nat) : Int) = 0) = true := by rfl
  have a1 : run P W (n + 6) 12 [eT (wells ds), eT digs] = some (.bool true) := hA1
  have a2 : run P W (n + 6) 12 [eT ((wells ds).take 2), eT (1 :: digs.filter fun d => decide (1 < d))] = some (.bool true) := hA2
  have a3 : run P W (n + 6) 12 [eT [x, x], eT digs] = some (.bool true) := hA3
  have a4 : run P W (n + 6) 3 [eT [x, x], eT digs] = some .none := hD3
  have a6 : run P W (n + 6) 9 [.list (eNs ((deep ds).map (wt digs)))] = some (eN (jx digs (deep ds))) := hJ
  have a7 : run P W (n + 6) 2 [eT (deep ds), eT digs] = some (eN (jx digs (deep ds))) := hjn
  have a8 : run P W (n + 6) 7 [eN (jx digs (deep ds)), eN (jx digs (deep ds))] = some (.bool true) := his
  have a9 : run P W (n + 6) 3 [eT (deep ds), eT digs] = some (TD digs (deep ds)) := hD4
  have b1 : run P W (n + 6) 8 [.int 20, eT digs] = some (.list (eNs (wl digs 21))) := hW
  have t3 : ∀ a b c : D, tupX (some [a, b, c]) = some (.tuple [a, b, c]) := tupX_3
  rw [b__law_case]
  simp -implicitDefEqProofs only [x_nil, x_cons, x_pass, x_frz, x_asg, x_asgT, x_app, x_ext, x_put, x_aug, x_ret, x_ifs, seqX_nx, seqX_rt, ifX_t, ifX_f, asgX_some, retX_some, e_var, e_bor, e_int, e_bl, e_non, e_yes, e_str, e_bin, e_neg, e_nt, e_cmp, e_and, e_or, e_ite, e_call, e_bi, e_isi, e_ix, e_sl, e_tup, e_lst, e_dic, e_isn, e_isnn, es_nil, es_cons, es_it, es_rng1, es_rng2, es_enm, eb_one, eb_and, eb_or, eo_nil, eo_some, optI_int, op2_some, op1_some, onL_some, onI_some, consO_some, slX_some, tupX_nil, tupX_1, tupX_2, tupX_3, tupX_4, lstX_nil, negX_int, notX_bool, isnX_none, iteX_t, iteX_f, andX_t, andX_f, orX_t, orX_f, getE_zero, getE_succ, set_z, set_s, Option.map_some, Option.bind_some, h1, hS, u_tupL, hC1, a1, Bool.not_true, hT2, hC2, hadd, a2, hsame, a3, Bool.not_true, a4, isnnX_none, h5, h5n, hC3, u_tupL, hC4, a6, a7, a8, a9, hN4, m_eq, hz, m_neb, b1, hC5, u_lenL, h00]
/-! ### the law -/
theorem law_ok (W n : Nat) (ns : List Int) : R W (n + 9) 14 [.list (ns.map .int)] = some (.bool true) := by
  refine run_eq (P := P) (d := t_law.df) rfl rfl ?_
  show exec (run P W (n + 8)) W b_law [some (.list (ns.map .int)), none] = _
  have hcell : ∀ k : Nat, ∃ c : Int, run P W (n + 8) 4 [.list (ns.map .int), eN k] = some (.int c) := fun k => by
    obtain ⟨c, hc⟩ := cell_ok (run P W (n + 7)) W ns k
    exact ⟨c, run_eq (P := P) (d := t__law_cell.df) rfl rfl hc⟩
  have hdraw : ∀ c : Int, ∃ ds, Drawn 13 ds ∧ run P W (n + 8) 5 [.int c, .int 13] = some (.list (ds.map .int)) := fun c => by
    obtain ⟨ds, h1, h2⟩ := draws_ok (run P W (n + 7)) W c 13 (by decide)
    exact ⟨ds, h1, run_eq (P := P) (d := t__law_draws.df) rfl rfl h2⟩
  obtain ⟨ρ', e, k, rfl⟩ := forL_inv (f := fun x ρ => (bindT (.n 1) x ρ).bind (exec (run P W (n + 8)) W B_law_1)) (xs := eNs (List.range 3)) (fun i ρ => ∃ k, ρ = [some (.list (ns.map .int)), k]) (by
    rintro i x ρ hx ⟨k, rfl⟩
    obtain ⟨j, hj, rfl⟩ := eNs_get hx
    have hb : bindT (.n 1) (eN j) [some (.list (ns.map .int)), k] = some [some (.list (ns.map .int)), some (eN j)] := by simp [bindT]
    obtain ⟨c, h1⟩ := hcell j
    obtain ⟨ds, hd, h2⟩ := hdraw c
    have h3 : run P W (n + 8) 13 [.list (ds.map .int)] = some (.bool true) := case_ok W (n + 1) hd
    refine ⟨_, .inl ?_, some (eN j), rfl⟩
    rw [hb, Option.bind_some]
    simp -implicitDefEqProofs only [B_law_1, x_nil, x_cons, x_pass, x_frz, x_asg, x_asgT, x_app, x_ext, x_put, x_aug, x_ret, x_ifs, seqX_nx, seqX_rt, ifX_t, ifX_f, asgX_some, retX_some, e_var, e_bor, e_int, e_bl, e_non, e_yes, e_str, e_bin, e_neg, e_nt, e_cmp, e_and, e_or, e_ite, e_call, e_bi, e_isi, e_ix, e_sl, e_tup, e_lst, e_dic, e_isn, e_isnn, es_nil, es_cons, es_it, es_rng1, es_rng2, es_enm, eb_one, eb_and, eb_or, eo_nil, eo_some, optI_int, op2_some, op1_some, onL_some, onI_some, consO_some, slX_some, tupX_nil, tupX_1, tupX_2, tupX_3, tupX_4, lstX_nil, negX_int, notX_bool, isnX_none, iteX_t, iteX_f, andX_t, andX_f, orX_t, orX_f, getE_zero, getE_succ, set_z, set_s, Option.map_some, Option.bind_some, h1, h2, h3, Bool.not_true]) [some (.list (ns.map .int)), none] ⟨none, rfl⟩
  have hL : exec (run P W (n + 8)) W L_law_1 [some (.list (ns.map .int)), none] = some (.nx [some (.list (ns.map .int)), k]) := by
    have hr : rngX (.int 3) = some (eNs (List.range 3)) := by rw [show (.int 3 : D) = .int ((3 : Nat) : Int) from rfl, rngX_int (sm62 (cnt := 3) (by decide)), range_eN]
    rw [L_law_1, x_for]
    simp -implicitDefEqProofs only [x_nil, x_cons, x_pass, x_frz, x_asg, x_asgT, x_app, x_ext, x_put, x_aug, x_ret, x_ifs, seqX_nx, seqX_rt, ifX_t, ifX_f, asgX_some, retX_some, e_var, e_bor, e_int, e_bl, e_non, e_yes, e_str, e_bin, e_neg, e_nt, e_cmp, e_and, e_or, e_ite, e_call, e_bi, e_isi, e_ix, e_sl, e_tup, e_lst, e_dic, e_isn, e_isnn, es_nil, es_cons, es_it, es_rng1, es_rng2, es_enm, eb_one, eb_and, eb_or, eo_nil, eo_some, optI_int, op2_some, op1_some, onL_some, onI_some, consO_some, slX_some, tupX_nil, tupX_1, tupX_2, tupX_3, tupX_4, lstX_nil, negX_int, notX_bool, isnX_none, iteX_t, iteX_f, andX_t, andX_f, orX_t, orX_f, getE_zero, getE_succ, set_z, set_s, Option.map_some, Option.bind_some, hr, forX_some]
    exact e
  simp -implicitDefEqProofs only [b_law, x_nil, x_cons, x_pass, x_frz, x_asg, x_asgT, x_app, x_ext, x_put, x_aug, x_ret, x_ifs, seqX_nx, seqX_rt, ifX_t, ifX_f, asgX_some, retX_some, e_var, e_bor, e_int, e_bl, e_non, e_yes, e_str, e_bin, e_neg, e_nt, e_cmp, e_and, e_or, e_ite, e_call, e_bi, e_isi, e_ix, e_sl, e_tup, e_lst, e_dic, e_isn, e_isnn, es_nil, es_cons, es_it, es_rng1, es_rng2, es_enm, eb_one, eb_and, eb_or, eo_nil, eo_some, optI_int, op2_some, op1_some, onL_some, onI_some, consO_some, slX_some, tupX_nil, tupX_1, tupX_2, tupX_3, tupX_4, lstX_nil, negX_int, notX_bool, isnX_none, iteX_t, iteX_f, andX_t, andX_f, orX_t, orX_f, getE_zero, getE_succ, set_z, set_s, Option.map_some, Option.bind_some, hL]
def kk : Nat := 20
def ww : Nat := 1000
theorem run_true (ns : List Int) (h : ns.length ≤ 63) : run (told.map Told.df) ww kk 14 [.list (ns.map .int)] = some (.bool true) := law_ok ww 11 ns
end LW

open PySem PySem.W PyProof.Rows in
set_option maxRecDepth 100000 in
set_option maxHeartbeats 0 in
theorem PySem.Challenge.cw_stoneward_k88_whole_wells_dug_by_turns_holds : PySem.Challenge.rw_stoneward_k88_whole_wells_dug_by_turns.Holds := by
  w_on; o_law; k_head; (case hw => w_witness2)
  k_fill
  refine PC.walk (l := PySem.Challenge.rw_stoneward_k88_whole_wells_dug_by_turns) (n := 63) (iL := 14) (k := LW.kk) (W := LW.ww) (x := "script") (ds := LW.told) (sts := LW.sts) rfl (by decide) rfl ⟨rfl, by decide, by decide⟩ (fun w h Y => PySem.W.kIn_of Y) rfl LW.checked rfl rfl rfl rfl LW.run_true ?F
  case F =>
    intro w mg h KX G
    refine ⟨LW.stand ?a0 ?a1 ?a2 ?a3 ?a4 ?a5 ?a6 ?a7 ?a8 ?a9 ?a10 ?a11 ?a12 ?a13 ?a14, ?nb⟩
    case a0 =>
      refine' PC.at_mk KX G ?a ?l ?c ?k
      (case a => k_is)
      (case l => k_is)
      (case c => k_is)
      (case k => k_is)
    case a1 =>
      refine' PC.at_mk KX G ?a ?l ?c ?k
      (case a => k_is)
      (case l => k_is)
      (case c => k_is)
      (case k => k_is)
    case a2 =>
      refine' PC.at_mk KX G ?a ?l ?c ?k
      (case a => k_is)
      (case l => k_is)
      (case c => k_is)
      (case k => k_is)
    case a3 =>
      refine' PC.at_mk KX G ?a ?l ?c ?k
      (case a => k_is)
      (case l => k_is)
      (case c => k_is)
      (case k => k_is)
    case a4 =>
      refine' PC.at_mk KX G ?a ?l ?c ?k
      (case a => k_is)
      (case l => k_is)
      (case c => k_is)
      (case k => k_is)
    case a5 =>
      refine' PC.at_mk KX G ?a ?l ?c ?k
      (case a => k_is)
      (case l => k_is)
      (case c => k_is)
      (case k => k_is)
    case a6 =>
      refine' PC.at_mk KX G ?a ?l ?c ?k
      (case a => k_is)
      (case l => k_is)
      (case c => k_is)
      (case k => k_is)
    case a7 =>
      refine' PC.at_mk KX G ?a ?l ?c ?k
      (case a => k_is)
      (case l => k_is)
      (case c => k_is)
      (case k => k_is)
    case a8 =>
      refine' PC.at_mk KX G ?a ?l ?c ?k
      (case a => k_is)
      (case l => k_is)
      (case c => k_is)
      (case k => k_is)
    case a9 =>
      refine' PC.at_mk KX G ?a ?l ?c ?k
      (case a => k_is)
      (case l => k_is)
      (case c => k_is)
      (case k => k_is)
    case a10 =>
      refine' PC.at_mk KX G ?a ?l ?c ?k
      (case a => k_is)
      (case l => k_is)
      (case c => k_is)
      (case k => k_is)
    case a11 =>
      refine' PC.at_mk KX G ?a ?l ?c ?k
      (case a => k_is)
      (case l => k_is)
      (case c => k_is)
      (case k => k_is)
    case a12 =>
      refine' PC.at_mk KX G ?a ?l ?c ?k
      (case a => k_is)
      (case l => k_is)
      (case c => k_is)
      (case k => k_is)
    case a13 =>
      refine' PC.at_mk KX G ?a ?l ?c ?k
      (case a => k_is)
      (case l => k_is)
      (case c => k_is)
      (case k => k_is)
    case a14 =>
      refine' PC.at_mk KX G ?a ?l ?c ?k
      (case a => k_is)
      (case l => k_is)
      (case c => k_is)
      (case k => k_is)
    case nb =>
      intro x hx
      revert x
      simp only [PC.BN, List.forall_mem_cons]
      refine' ⟨?b0, ?b1, ?b2, ?b3, ?b4, ?b5, ?b6, ?b7, ?b8, ?b9, ?b10, ?b11, ?b12, ?b13, ?b14, ?b15, ?b16, ?b17, ?b18, fun _ h => absurd h (by simp)⟩
      (case b0 => k_is)
      (case b1 => k_is)
      (case b2 => k_is)
      (case b3 => k_is)
      (case b4 => k_is)
      (case b5 => k_is)
      (case b6 => k_is)
      (case b7 => k_is)
      (case b8 => k_is)
      (case b9 => k_is)
      (case b10 => k_is)
      (case b11 => k_is)
      (case b12 => k_is)
      (case b13 => k_is)
      (case b14 => k_is)
      (case b15 => k_is)
      (case b16 => k_is)
      (case b17 => k_is)
      (case b18 => k_is)
#print axioms PySem.Challenge.cw_stoneward_k88_whole_wells_dug_by_turns_holds

