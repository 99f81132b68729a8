import PyProof.Rows.All
import Wide.All
import OpenK.AllK
import Wide.FinOn
import HandS.ForMost
import KE.SortData
import KE.LtData
import HandS.TupMul
import HandS.TupAny
import HandS.IsInst
import HandS.Conv
import HandS.Flow
import HandS.Walk
import HandS.Deep
import KE.DataMinMax
import PyProof.SumAny
import HandS.Zip
import KE.GoesMore
import PySem.Challenge.RW_shadehall_k85_whole_near_sums_and_ghosts
set_option Elab.async false
set_option linter.all false
set_option maxRecDepth 100000
namespace Ev
open PySem L2

/-- data without lists -/
inductive Dt where
  | non | bl (b : Bool) | int (i : Int) | str (x : List Nat) | tup (xs : List Dt)
/-- a value: data, a list of data, a list that is only read (the script), a dict of data -/
inductive Vl where
  | h (d : Dt) | l (xs : List Dt) | s (xs : List Dt) | m (kvs : List (Dt × Dt))

mutual
def toPy : Dt → PyData
  | .non => .none
  | .bl b => .bool b
  | .int i => .int i
  | .str x => .str ⟨x.toArray⟩
  | .tup xs => .tuple (toPys xs)
def toPys : List Dt → List PyData
  | [] => []
  | x :: xs => toPy x :: toPys xs
end
mutual
/-- == -/
def eqD : Dt → Dt → Bool
  | .non, .non => true
  | .bl a, .bl b => a == b
  | .bl a, .int j => (if a then 1 else 0) == j
  | .int i, .bl b => i == (if b then 1 else 0)
  | .int i, .int j => decide (i = j)
  | .str x, .str y => decide (x = y)
  | .tup xs, .tup ys => eqDs xs ys
  | .non, .bl _ | .non, .int _ | .non, .str _ | .non, .tup _ => false
  | .bl _, .non | .bl _, .str _ | .bl _, .tup _ => false
  | .int _, .non | .int _, .str _ | .int _, .tup _ => false
  | .str _, .non | .str _, .bl _ | .str _, .int _ | .str _, .tup _ => false
  | .tup _, .non | .tup _, .bl _ | .tup _, .int _ | .tup _, .str _ => false
def eqDs : List Dt → List Dt → Bool
  | [], [] => true
  | x :: xs, y :: ys => eqD x y && eqDs xs ys
  | [], _ :: _ => false
  | _ :: _, [] => false
end
mutual
/-- fit for == : signs of texts below 0x110000 -/
def okD : Dt → Bool
  | .non | .bl _ | .int _ => true
  | .str x => x.all (· < 0x110000)
  | .tup xs => okDs xs
def okDs : List Dt → Bool
  | [] => true
  | x :: xs => okD x && okDs xs
end
mutual
def dep : Dt → Nat
  | .tup xs => deps xs + 1
  | _ => 0
def deps : List Dt → Nat
  | [] => 0
  | x :: xs => max (dep x) (deps xs)
end
def shp (d : Dt) : Bool := okD d && decide (dep d ≤ 60)
def shps (ds : List Dt) : Bool := okDs ds && decide (deps ds ≤ 60)
mutual
def alk : Dt → Dt → Bool
  | .non, .non => true
  | .bl _, .bl _ => true
  | .int _, .int _ => true
  | .str _, .str _ => true
  | .tup xs, .tup ys => alks xs ys
  | _, _ => false
def alks : List Dt → List Dt → Bool
  | x :: xs, y :: ys => alk x y && alks xs ys
  | [], _ => true
  | _ :: _, [] => true
end
def ltD (x y : Dt) : Bool := PySem.W.dataLt (toPy x) (toPy y)
/-- x < y where the two can be compared -/
def ltE (x y : Dt) : Option Bool :=
  match x, y with
  | .int i, .int j => some (decide (i < j))
  | .str i, .str j => some (decide (i < j))
  | .tup _, .tup _ => if alk x y && decide (dep x ≤ 60) && decide (dep y ≤ 60) then some (ltD x y) else none
  | _, _ => none

/-- targets -/
inductive Tg where
  | nm (i : Nat) | tp (ts : List Tg)
/-- built-in functions -/
inductive Bi where
  | len | abs | min | max | sum | int | tuple | list | sorted | all | any
  deriving DecidableEq
/-- classes that isinstance asks -/
inductive Ty where
  | int | bool | str | tuple
  deriving DecidableEq
/-- methods -/
inductive Me where
  | count | join
  deriving DecidableEq
mutual
inductive E where
  | var (i : Nat)
  | con (d : Dt)
  | bin (o : Operator) (a b : E)
  | neg (a : E)
  | cmp (o : CmpOp) (a b : E)
  | cmp2 (o p : CmpOp) (a b c : E)
  | and (a b : E)
  | or (a b : E)
  | not (a : E)
  | ife (c a b : E)
  | tup (es : Es)
  | lst (es : Es)
  | ix (a b : E)
  | sl (a : E) (lo hi : Oe)
  | rev (a : E)
  | call (f : Nat) (es : Es)
  | bi (f : Bi) (es : Es)
  | rng (tup : Bool) (a b : E)
  | isi (a : E) (t : Ty)
  | me (f : Me) (o : E) (es : Es)
  | comp (elt : E) (g : Tg) (it : I) (c : Oe) (own : List Nat)
inductive Es where
  | nil | cons (e : E) (es : Es)
inductive Oe where
  | no | yes (e : E)
/-- what is walked -/
inductive I where
  | rng1 (a : E) | rng2 (a b : E) | rng3 (a b c : E)
  | seq (e : E) | enum (e : E) | zip (a b : E)
end
mutual
inductive S where
  | set (g : Tg) (e : E)
  | par (i j : Nat) (a b : E)
  | aug (i : Nat) (o : Operator) (e : E)
  | setI (i : Nat) (k e : E)
  | augI (i : Nat) (o : Operator) (k e : E)
  | app (i : Nat) (e : E)
  | ext (i : Nat) (e : E)
  | ife (c : E) (a b : Ss)
  | loop (g : Tg) (it : I) (b : Ss)
  | whl (c : E) (b : Ss)
  | ret (e : E)
  | retN
  | brk
  | cont
  | pass
inductive Ss where
  | nil | cons (s : S) (ss : Ss)
end

def truE : Vl → Option Bool
  | .h .non => some false
  | .h (.bl b) => some b
  | .h (.int i) => some (i != 0)
  | .h (.str x) => if x.length ≤ sizeLine then some (!x.isEmpty) else none
  | .h (.tup xs) => some (!xs.isEmpty)
  | .l xs => some (!xs.isEmpty)
  | .s _ => none
  | .m _ => none
def repl {α : Type} (n : Nat) (xs : List α) : List α := (List.replicate n xs).flatten
def mulOk (i j : Int) : Bool := (decide (-(2 ^ 64) < i) && decide (i < 2 ^ 64)) || (decide (-(2 ^ 64) < j) && decide (j < 2 ^ 64))
def addE : Vl → Vl → Option Vl
  | .h (.int i), .h (.int j) => some (.h (.int (i + j)))
  | .h (.str a), .h (.str b) => if a.length + b.length ≤ sizeLine then some (.h (.str (a ++ b))) else none
  | .h (.tup a), .h (.tup b) => if a.length + b.length ≤ sizeLine then some (.h (.tup (a ++ b))) else none
  | .l a, .l b => if a.length + b.length ≤ sizeLine then some (.l (a ++ b)) else none
  | _, _ => none
def subE : Vl → Vl → Option Vl
  | .h (.int i), .h (.int j) => some (.h (.int (i - j)))
  | _, _ => none
def mulE : Vl → Vl → Option Vl
  | .h (.int i), .h (.int j) => if mulOk i j then some (.h (.int (i * j))) else none
  | .l a, .h (.int j) => if -(2 ^ 63) ≤ j ∧ j < 2 ^ 63 ∧ a.length * j.toNat ≤ sizeLine then some (.l (repl j.toNat a)) else none
  | .h (.tup a), .h (.int j) => if -(2 ^ 63) ≤ j ∧ j ≤ 1000 ∧ a.length ≤ 1000 then some (.h (.tup (repl j.toNat a))) else none
  | _, _ => none
def fdivE : Vl → Vl → Option Vl
  | .h (.int i), .h (.int j) => if 0 < j ∧ j < 1073741824 then some (.h (.int (i / j))) else none
  | _, _ => none
def modE : Vl → Vl → Option Vl
  | .h (.int i), .h (.int j) => if 0 < j then some (.h (.int (i % j))) else none
  | _, _ => none
def powE : Vl → Vl → Option Vl
  | .h (.int i), .h (.int j) => if 0 ≤ j ∧ j ≤ 1000000 ∧ i.natAbs < 2 ^ 64 then some (.h (.int (i ^ j.toNat))) else none
  | _, _ => none
def binE (o : Operator) : Vl → Vl → Option Vl :=
  match o with
  | .Add => addE | .Sub => subE | .Mult => mulE | .FloorDiv => fdivE | .Mod => modE | .Pow => powE
  | _ => fun _ _ => none
/-- name op= e -/
def iopE (o : Operator) (x y : Vl) : Option Dt :=
  match o, x, y with
  | .Add, .h (.int i), .h (.int j) => some (.int (i + j))
  | .Add, .h (.str a), .h (.str b) => if a.length + b.length ≤ sizeLine then some (.str (a ++ b)) else none
  | .Sub, .h (.int i), .h (.int j) => some (.int (i - j))
  | .Mult, .h (.int i), .h (.int j) => if mulOk i j then some (.int (i * j)) else none
  | _, _, _ => none
def negE : Vl → Option Vl
  | .h (.int i) => some (.h (.int (-i)))
  | _ => none
def eqE (x y : Vl) : Option Bool :=
  match x, y with
  | .h a, .h b => if shp a && shp b then some (eqD a b) else none
  | .l a, .l b => if shps a && shps b then some (eqDs a b) else none
  | _, _ => none
def inE (x y : Vl) : Option Bool :=
  match x, y with
  | .h a, .h (.tup b) => if shp a && shps b then some (b.any fun z => eqD z a) else none
  | .h a, .l b => if shp a && shps b then some (b.any fun z => eqD z a) else none
  | .h (.str [a]), .h (.str b) => some (b.any fun z => decide (z = a))
  | _, _ => none
def isNon : Vl → Bool
  | .h .non => true
  | _ => false
def ltV : Vl → Vl → Option Bool
  | .h a, .h b => ltE a b
  | _, _ => none
def gtV : Vl → Vl → Option Bool
  | .h (.int a), .h (.int b) => some (decide (b < a))
  | _, _ => none
def leV : Vl → Vl → Option Bool
  | .h (.int a), .h (.int b) => some (decide (a ≤ b))
  | _, _ => none
def geV : Vl → Vl → Option Bool
  | .h (.int a), .h (.int b) => some (decide (b ≤ a))
  | _, _ => none
def isV (x y : Vl) : Option Bool := if isNon y then some (isNon x) else none
def isntV (x y : Vl) : Option Bool := if isNon y then some (!isNon x) else none
def neV (x y : Vl) : Option Bool := (eqE x y).map (!·)
def ninV (x y : Vl) : Option Bool := (inE x y).map (!·)
def cmpE (o : CmpOp) : Vl → Vl → Option Bool :=
  match o with
  | .Eq => eqE
  | .NotEq => neV
  | .Lt => ltV
  | .Gt => gtV
  | .LtE => leV
  | .GtE => geV
  | .Is => isV
  | .IsNot => isntV
  | .In => inE
  | .NotIn => ninV
def cutD {α : Type} (xs : List α) (lo hi : Option Int) : List α := (xs.drop (HT.sIx xs.length 0 lo)).take (HT.sIx xs.length xs.length hi - HT.sIx xs.length 0 lo)
def ixE : Vl → Vl → Option Vl
  | .h (.str x), .h (.int i) => if x.length ≤ sizeLine then (atI x i).map fun c => .h (.str [c]) else none
  | .h (.tup xs), .h (.int i) => (atI xs i).map .h
  | .l xs, .h (.int i) => (atI xs i).map .h
  | .s xs, .h (.int i) => (atI xs i).map .h
  | _, _ => none
def slE : Vl → Option Int → Option Int → Option Vl
  | .h (.str x), lo, hi => if x.length ≤ sizeLine then some (.h (.str (cutD x lo hi))) else none
  | .h (.tup xs), lo, hi => some (.h (.tup (cutD xs lo hi)))
  | .l xs, lo, hi => some (.l (cutD xs lo hi))
  | _, _, _ => none
def revE : Vl → Option Vl
  | .h (.str x) => if x.length ≤ sizeLine then some (.h (.str x.reverse)) else none
  | .h (.tup xs) => if xs.length ≤ sizeLine then some (.h (.tup xs.reverse)) else none
  | .l xs => if xs.length ≤ sizeLine then some (.l xs.reverse) else none
  | _ => none
def asInts : List Dt → Option (List Int)
  | [] => some []
  | .int i :: r => (asInts r).map (i :: ·)
  | _ :: _ => none
def asBools : List Dt → Option (List Bool)
  | [] => some []
  | .bl i :: r => (asBools r).map (i :: ·)
  | _ :: _ => none
def asStrs : List Dt → Option (List (List Nat))
  | [] => some []
  | .str i :: r => (asStrs r).map (i :: ·)
  | _ :: _ => none
def itemsOf : Vl → Option (List Dt)
  | .l xs => some xs
  | .h (.tup xs) => some xs
  | _ => none
/-- the first one such that no other is before it -/
def bestD (g : Dt → Dt → Bool) (x : Dt) (r : List Dt) : Dt := r.foldl (fun a y => if g y a then y else a) x
def noNon (xs : List Dt) : Bool := xs.all fun x => match x with | .non => false | _ => true
def allAlk (xs : List Dt) : Bool := xs.all fun x => xs.all fun y => alk x y
def sortOk (xs : List Dt) : Bool := (xs.all fun x => match x with | .tup (_ :: _) => true | _ => false) || xs.all fun x => match x with | .int _ => true | .str _ => true | .bl _ => true | _ => false
def sortD (xs : List Dt) : List Dt := xs.mergeSort (PySem.W.dataLe false toPy)
def lenE : List Vl → Option Vl
  | [.h (.str x)] => if x.length ≤ sizeLine then some (.h (.int x.length)) else none
  | [.h (.tup xs)] => some (.h (.int xs.length))
  | [.l xs] => some (.h (.int xs.length))
  | [.s xs] => some (.h (.int xs.length))
  | _ => none
def absE : List Vl → Option Vl
  | [.h (.int i)] => some (.h (.int (if i < 0 then -i else i)))
  | _ => none
def min1E (v : Vl) : Option Vl :=
  match itemsOf v with
  | some (x :: r) => if allAlk (x :: r) && noNon (x :: r) && decide (deps (x :: r) ≤ 60) then some (.h (bestD ltD x r)) else none
  | _ => none
def max1E (v : Vl) : Option Vl :=
  match itemsOf v with
  | some (x :: r) => if allAlk (x :: r) && noNon (x :: r) && decide (deps (x :: r) ≤ 60) then some (.h (bestD (fun y a => ltD a y) x r)) else none
  | _ => none
def minE : List Vl → Option Vl
  | [v] => min1E v
  | [.h (.int i), .h (.int j)] => some (.h (.int (if j < i then j else i)))
  | _ => none
def maxE : List Vl → Option Vl
  | [v] => max1E v
  | [.h (.int i), .h (.int j)] => some (.h (.int (if j > i then j else i)))
  | _ => none
def sumE : List Vl → Option Vl
  | [v] => do
    let xs ← itemsOf v
    let ns ← asInts xs
    some (.h (.int ns.sum))
  | _ => none
def intE : List Vl → Option Vl
  | [.h (.int i)] => some (.h (.int i))
  | [.h (.bl b)] => some (.h (.int (if b then 1 else 0)))
  | _ => none
def tupleE : List Vl → Option Vl
  | [v] => (itemsOf v).map fun xs => .h (.tup xs)
  | _ => none
def listE : List Vl → Option Vl
  | [v] => (itemsOf v).map .l
  | _ => none
def sortedE : List Vl → Option Vl
  | [.l xs] => if allAlk xs && sortOk xs && decide (xs.length ≤ sizeLine) && decide (deps xs ≤ 60) then some (.l (sortD xs)) else none
  | _ => none
def allE : List Vl → Option Vl
  | [.l xs] => (asBools xs).map fun bs => .h (.bl (bs.all id))
  | _ => none
def anyE : List Vl → Option Vl
  | [.l xs] => (asBools xs).map fun bs => .h (.bl (bs.any id))
  | _ => none
def biE (f : Bi) : List Vl → Option Vl :=
  match f with
  | .len => lenE | .abs => absE | .min => minE | .max => maxE | .sum => sumE | .int => intE
  | .tuple => tupleE | .list => listE | .sorted => sortedE | .all => allE | .any => anyE
def isiE (v : Vl) (t : Ty) : Bool :=
  match v, t with
  | .h (.int _), .int => true
  | .h (.bl _), .int => true
  | .h (.bl _), .bool => true
  | .h (.str _), .str => true
  | .h (.tup _), .tuple => true
  | _, _ => false
def joinL (sep : List Nat) : List (List Nat) → List Nat
  | [] => []
  | [x] => x
  | x :: y :: r => x ++ sep ++ joinL sep (y :: r)
def joinE : Vl → List Vl → Option Vl
  | .h (.str sep), [.l xs] => do
    let ts ← asStrs xs
    if sep = [] ∧ ts.flatten.length ≤ sizeLine then some (.h (.str ts.flatten)) else none
  | _, _ => none
def countE : Vl → List Vl → Option Vl
  | .h (.str x), [.h (.str [c])] => if x.length ≤ sizeLine then some (.h (.int (x.filter (· = c)).length)) else none
  | _, _ => none
def meE (f : Me) : Vl → List Vl → Option Vl :=
  match f with
  | .join => joinE
  | .count => countE
def rngD (a b : Int) : List Dt := (List.range (b - a).toNat).map fun (i : Nat) => Dt.int (a + i)
def rngOk (a b : Int) : Bool := decide (-(2 ^ 62) ≤ a) && decide (a < 2 ^ 62) && decide (-(2 ^ 62) ≤ b) && decide (b < 2 ^ 62)
/-- range(a, b, c) -/
def rng3D (a c : Int) (n : Nat) : List Dt := (List.range n).map fun (i : Nat) => Dt.int (a + i * c)

abbrev Env := List (Option Vl)
def wipeE (δ : Env) : List Nat → Env
  | [] => δ
  | v :: vs => (wipeE δ vs).set v none
mutual
def bindE : Tg → Dt → Env → Option Env
  | .nm i, d, δ => some (δ.set i (some (.h d)))
  | .tp ts, .tup xs, δ => bindEs ts xs δ
  | .tp _, _, _ => none
def bindEs : List Tg → List Dt → Env → Option Env
  | [], [], δ => some δ
  | t :: ts, x :: xs, δ => do
    let δ' ← bindE t x δ
    bindEs ts xs δ'
  | _, _, _ => none
end
/-- a comprehension's items -/
def compL (f : Dt → Option (Option Dt)) : List Dt → Option (List Dt)
  | [] => some []
  | x :: xs => do
    let y ← f x
    let ys ← compL f xs
    some (match y with
      | none => ys
      | some v => v :: ys)
def asH : Vl → Option Dt
  | .h d => some d
  | _ => none
def asI : Vl → Option Int
  | .h (.int i) => some i
  | _ => none
def asHs : List Vl → Option (List Dt)
  | [] => some []
  | .h d :: r => (asHs r).map (d :: ·)
  | _ :: _ => none
def small62 (a : Int) : Bool := decide (-(2 ^ 62) ≤ a) && decide (a < 2 ^ 62)
def enumD (xs : List Dt) : List Dt := xs.zipIdx.map fun p => .tup [.int p.2, p.1]
def zipD (xs ys : List Dt) : List Dt := (xs.zip ys).map fun p => .tup [p.1, p.2]

section
variable (cf : Nat → List Vl → Option Vl)
mutual
def evE : E → Env → Option Vl
  | .var i, δ => (δ[i]?).join
  | .con d, _ => some (.h d)
  | .bin o a b, δ => do
    let x ← evE a δ
    let y ← evE b δ
    binE o x y
  | .neg a, δ => do
    let x ← evE a δ
    negE x
  | .cmp o a b, δ => do
    let x ← evE a δ
    let y ← evE b δ
    let r ← cmpE o x y
    some (.h (.bl r))
  | .cmp2 o p a b c, δ => do
    let x ← evE a δ
    let y ← evE b δ
    let r ← cmpE o x y
    if r then do
      let z ← evE c δ
      let s ← cmpE p y z
      some (.h (.bl s))
    else some (.h (.bl false))
  | .and a b, δ => do
    let x ← evE a δ
    let r ← truE x
    if r then evE b δ else some x
  | .or a b, δ => do
    let x ← evE a δ
    let r ← truE x
    if r then some x else evE b δ
  | .not a, δ => do
    let x ← evE a δ
    let r ← truE x
    some (.h (.bl (!r)))
  | .ife c a b, δ => do
    let x ← evE c δ
    let r ← truE x
    if r then evE a δ else evE b δ
  | .tup es, δ => do
    let vs ← evEs es δ
    let ds ← asHs vs
    if ds.length ≤ sizeLine then some (.h (.tup ds)) else none
  | .lst es, δ => do
    let vs ← evEs es δ
    let ds ← asHs vs
    if ds.length ≤ sizeLine then some (.l ds) else none
  | .ix a b, δ => do
    let x ← evE a δ
    let y ← evE b δ
    ixE x y
  | .sl a lo hi, δ => do
    let x ← evE a δ
    let i ← evO lo δ
    let j ← evO hi δ
    slE x i j
  | .rev a, δ => do
    let x ← evE a δ
    revE x
  | .call f es, δ => do
    let vs ← evEs es δ
    cf f vs
  | .bi f es, δ => do
    let vs ← evEs es δ
    biE f vs
  | .rng t a b, δ => do
    let x ← evE a δ
    let y ← evE b δ
    let i ← asI x
    let j ← asI y
    if rngOk i j && decide ((j - i).toNat ≤ sizeLine) then some (if t then .h (.tup (rngD i j)) else .l (rngD i j)) else none
  | .isi a t, δ => do
    let x ← evE a δ
    some (.h (.bl (isiE x t)))
  | .me f o es, δ => do
    let x ← evE o δ
    let vs ← evEs es δ
    meE f x vs
  | .comp elt g it c own, δ => do
    let items ← evI it δ
    let ys ← compL (fun x => do
      let δ' ← bindE g x (wipeE δ own)
      let t ← evC c δ'
      if t then do
        let v ← evE elt δ'
        let d ← asH v
        some (some d)
      else some none) items
    if items.length < sizeLine then some (.l ys) else none
def evEs : Es → Env → Option (List Vl)
  | .nil, _ => some []
  | .cons e es, δ => do
    let v ← evE e δ
    let vs ← evEs es δ
    some (v :: vs)
/-- a part of a slice -/
def evO : Oe → Env → Option (Option Int)
  | .no, _ => some none
  | .yes e, δ => do
    let v ← evE e δ
    let i ← asI v
    some (some i)
/-- a clause's test -/
def evC : Oe → Env → Option Bool
  | .no, _ => some true
  | .yes e, δ => do
    let v ← evE e δ
    truE v
def evI : I → Env → Option (List Dt)
  | .rng1 a, δ => do
    let x ← evE a δ
    let i ← asI x
    if small62 i then some (rngD 0 i) else none
  | .rng2 a b, δ => do
    let x ← evE a δ
    let y ← evE b δ
    let i ← asI x
    let j ← asI y
    if small62 i && small62 j then some (rngD i j) else none
  | .rng3 a b c, δ => do
    let x ← evE a δ
    let y ← evE b δ
    let z ← evE c δ
    let i ← asI x
    let j ← asI y
    let k ← asI z
    if decide (k ≠ 0) && decide (k.natAbs < 1073741824) && Builtin.Range.small i j k && decide (0 ≤ Builtin.Range.rangeSize i j k) then some (rng3D i k (Builtin.Range.rangeSize i j k).toNat) else none
  | .seq e, δ => do
    let x ← evE e δ
    match x with
    | .h (.str z) => some (z.map fun c => .str [c])
    | v => itemsOf v
  | .enum e, δ => do
    let x ← evE e δ
    match x with
    | .h (.str z) => some (enumD (z.map fun c => .str [c]))
    | v => (itemsOf v).map enumD
  | .zip a b, δ => do
    let x ← evE a δ
    let y ← evE b δ
    match x, y with
    | .l xs, .l ys => some (zipD xs ys)
    | .h (.tup xs), .h (.tup ys) => some (zipD xs ys)
    | _, _ => none
end
end

/-- a slot: a value that stays, or a list (dict) of the def's own -/
inductive Bd where
  | im (v : Vl) | ow (v : Vl)
def Bd.v : Bd → Vl
  | .im v => v
  | .ow v => v
abbrev Sl := List (Option Bd)
def view (β : Sl) : Env := β.map fun b => b.map Bd.v
inductive Fl where
  | nx (β : Sl) | rt (v : Vl) | bk (β : Sl) | ct (β : Sl)
/-- what gives a new list whenever it gives a list -/
def fr : E → Bool
  | .var _ => false
  | .and _ _ => false
  | .or _ _ => false
  | .ife _ a b => fr a && fr b
  | _ => true
def asVar : E → Option Nat
  | .var i => some i
  | _ => none
def frz (β : Sl) (j : Nat) : Sl :=
  match β[j]? with
  | some (some (.ow v)) => β.set j (some (.im v))
  | _ => β
/-- name = a value that e gave -/
def putE (β : Sl) (i : Nat) (e : E) (v : Vl) : Option Sl :=
  match v with
  | .h _ => some (β.set i (some (.im v)))
  | _ => if fr e then some (β.set i (some (.ow v))) else match asVar e with
    | some j => some ((frz β j).set i (some (.im v)))
    | none => none
mutual
def bindB : Tg → Dt → Sl → Option Sl
  | .nm i, d, β => some (β.set i (some (.im (.h d))))
  | .tp ts, .tup xs, β => bindBs ts xs β
  | .tp _, _, _ => none
def bindBs : List Tg → List Dt → Sl → Option Sl
  | [], [], β => some β
  | t :: ts, x :: xs, β => do
    let β' ← bindB t x β
    bindBs ts xs β'
  | _, _, _ => none
end
def frzAll (β : Sl) : List Nat → Sl
  | [] => β
  | j :: js => frzAll (frz β j) js
/-- e as a walked source: a name, or what gives no list of another's -/
def srcOk (e : E) : Bool := fr e || (asVar e).isSome
def srcVars : I → List Nat
  | .seq e => (asVar e).toList
  | .enum e => (asVar e).toList
  | .zip a b => (asVar a).toList ++ (asVar b).toList
  | _ => []
def srcI : I → Bool
  | .seq e => srcOk e
  | .enum e => srcOk e
  | .zip a b => srcOk a && srcOk b
  | _ => true
def ownL (β : Sl) (i : Nat) : Option (List Dt) :=
  match β[i]? with
  | some (some (.ow (.l xs))) => some xs
  | _ => none
def loopE (f : Dt → Sl → Option Fl) : List Dt → Sl → Option Fl
  | [], β => some (.nx β)
  | x :: xs, β => do
    let r ← f x β
    match r with
    | .nx β' => loopE f xs β'
    | .ct β' => loopE f xs β'
    | .bk β' => some (.nx β')
    | .rt v => some (.rt v)
def whlE (c : Sl → Option Bool) (f : Sl → Option Fl) : Nat → Sl → Option Fl
  | 0, _ => none
  | n + 1, β => do
    let t ← c β
    if t then do
      let r ← f β
      match r with
      | .nx β' => whlE c f n β'
      | .ct β' => whlE c f n β'
      | .bk β' => some (.nx β')
      | .rt v => some (.rt v)
    else some (.nx β)
section
variable (cf : Nat → List Vl → Option Vl) (wf : Nat)
mutual
def evS : S → Sl → Option Fl
  | .set (.nm i) e, β => do
    let v ← evE cf e (view β)
    let β' ← putE β i e v
    some (.nx β')
  | .set (.tp ts) e, β => do
    let v ← evE cf e (view β)
    let d ← asH v
    let β' ← bindB (.tp ts) d β
    some (.nx β')
  | .par i j a b, β => do
    let v ← evE cf a (view β)
    let w ← evE cf b (view β)
    let d ← asH v
    let d' ← asH w
    some (.nx ((β.set i (some (.im (.h d)))).set j (some (.im (.h d')))))
  | .aug i o e, β => do
    let x ← ((view β)[i]?).join
    let y ← evE cf e (view β)
    let d ← iopE o x y
    some (.nx (β.set i (some (.im (.h d)))))
  | .setI i k e, β => do
    let v ← evE cf e (view β)
    let d ← asH v
    let kv ← evE cf k (view β)
    let n ← asI kv
    let xs ← ownL β i
    let j ← ixN xs.length n
    some (.nx (β.set i (some (.ow (.l (xs.set j d))))))
  | .augI i o k e, β => do
    let kv ← evE cf k (view β)
    let n ← asI kv
    let xs ← ownL β i
    let j ← ixN xs.length n
    let x ← xs[j]?
    let y ← evE cf e (view β)
    let d ← iopE o (.h x) y
    some (.nx (β.set i (some (.ow (.l (xs.set j d))))))
  | .app i e, β => do
    let v ← evE cf e (view β)
    let d ← asH v
    let xs ← ownL β i
    if xs.length < sizeLine then some (.nx (β.set i (some (.ow (.l (xs ++ [d])))))) else none
  | .ext i e, β => do
    let v ← evE cf e (view β)
    let xs ← ownL β i
    match v with
    | .l ys => if fr e && decide (xs.length + ys.length ≤ sizeLine) then some (.nx (β.set i (some (.ow (.l (xs ++ ys)))))) else none
    | _ => none
  | .ife c a b, β => do
    let v ← evE cf c (view β)
    let t ← truE v
    if t then evSs a β else evSs b β
  | .loop g it b, β => do
    let items ← evI cf it (view β)
    if srcI it then
      loopE (fun x β => do
        let β' ← bindB g x β
        evSs b β') items (frzAll β (srcVars it))
    else none
  | .whl c b, β => whlE (fun β => do
      let v ← evE cf c (view β)
      truE v) (fun β => evSs b β) wf β
  | .ret e, β => do
    let v ← evE cf e (view β)
    match v with
    | .h _ => some (.rt v)
    | _ => if fr e then some (.rt v) else match asVar e with
      | some j => match β[j]? with
        | some (some (.ow _)) => some (.rt v)
        | _ => none
      | none => none
  | .retN, _ => some (.rt (.h .non))
  | .brk, β => some (.bk β)
  | .cont, β => some (.ct β)
  | .pass, β => some (.nx β)
def evSs : Ss → Sl → Option Fl
  | .nil, β => some (.nx β)
  | .cons s ss, β => do
    let r ← evS s β
    match r with
    | .nx β' => evSs ss β'
    | r => some r
end
end
/-- a def: how many parameters, how many slots, its body -/
structure Fn where
  np : Nat
  ns : Nat
  body : Ss
def startE (n : Nat) (vs : List Vl) : Sl := vs.map (fun v => some (.im v)) ++ List.replicate (n - vs.length) none
/-- a def's value, calls at most k deep -/
def evF (fns : List Fn) (wf : Nat) : Nat → Nat → List Vl → Option Vl
  | 0, _, _ => none
  | k + 1, f, vs => do
    let fn ← fns[f]?
    if vs.length = fn.np then do
      let r ← evSs (evF fns wf k) wf fn.body (startE fn.ns vs)
      match r with
      | .rt v => some v
      | .nx _ => some (.h .non)
      | _ => none
    else none
end Ev
set_option maxHeartbeats 4000000
namespace Ev
open PySem PySem.Spec PyProof.Rows L2
/-- the tuple itself comes back -/
theorem tmul_same (l : Addr) (items : Array Value) (n : Nat) (dd : Option Addr) (sl : Array (Option Value)) (x : Int) (u : Tok) (c0 : (decide (x < -(2 ^ 63)) || decide (x ≥ 2 ^ 63)) = false) (c1 : (items.isEmpty || x == 1) = true) :
    Meets (Builtin.«tuple.__mul__» ⟨[.ref l, .int x u], []⟩) (fun _ R s => s.heap.get? l = some { cls := .type "tuple", dict := dd, data := .seq items n, slots := sl } ∧ R (.ok (.ret (Value.ref l))) s) :=
  .of_wp fun prog w A R s h => by
    obtain ⟨hp, g, d, tk, os⟩ := s
    obtain ⟨hl, h⟩ := h
    have f1 := AutoSeq1.idx_int
    wp_walk using wpAny_loadPart' hl
    repeat (first
      | (refine wpAny_ite_false (decide_eq_false (by rw [c0]; exact Bool.false_ne_true)) ?_; wp_walk using wpAny_loadPart' hl)
      | (refine wpAny_ite_true (decide_eq_true c1) ?_; wp_walk using wpAny_loadPart' hl))
    exact ⟨_, rfl, h⟩
/-- nothing is left -/
theorem tmul_none (l : Addr) (items : Array Value) (n : Nat) (dd : Option Addr) (sl : Array (Option Value)) (x : Int) (u : Tok) (c0 : (decide (x < -(2 ^ 63)) || decide (x ≥ 2 ^ 63)) = false) (c1 : (items.isEmpty || x == 1) = false) (c2 : (decide (x ≤ 0) || items.isEmpty) = true) :
    Meets (Builtin.«tuple.__mul__» ⟨[.ref l, .int x u], []⟩) (fun _ R s => s.heap.get? l = some { cls := .type "tuple", dict := dd, data := .seq items n, slots := sl } ∧
      R (.ok (.ret (Value.ref s.heap.objs.size))) { s with heap := s.heap.push { cls := Value.type "tuple", data := Data.seq #[] }, toks := s.toks }) :=
  .of_wp fun prog w A R s h => by
    obtain ⟨hp, g, d, tk, os⟩ := s
    obtain ⟨hl, h⟩ := h
    have f1 := AutoSeq1.idx_int
    wp_walk using wpAny_loadPart' hl
    repeat (first
      | (refine wpAny_ite_false (decide_eq_false (by rw [c0]; exact Bool.false_ne_true)) ?_; wp_walk using wpAny_loadPart' hl)
      | (refine wpAny_ite_false (decide_eq_false (by rw [c1]; exact Bool.false_ne_true)) ?_; wp_walk using wpAny_loadPart' hl)
      | (refine wpAny_ite_true (decide_eq_true c2) ?_; wp_walk using wpAny_loadPart' hl))
    exact ⟨_, rfl, h⟩
section
variable {X : Cx}
def rRepS (K : PySem.W.Frag) : R2 := fun x y H Q => ∃ l k xs, x = .ref l ∧ y = .int k ∧ SqT K H l xs ∧ -(2 ^ 63) ≤ k ∧ k < 2 ^ 63 ∧ (xs = [] ∨ k = 1) ∧ Q (.ref l) H
theorem op_repS : OpR X (binaryOp .Mult) (rRepS X.K) := by
  intro pins s σ H x y v u Q I rx ry h
  obtain ⟨l, k, xs, rfl, rfl, hT, h1, h2, h3, q⟩ := h
  cases rx
  obtain ⟨t, rfl⟩ := ry
  obtain ⟨its, r, ⟨⟨cls, dd, data, sl⟩, ho, hc, n, hd⟩, hs⟩ := I.tuple hT
  simp only at hc hd
  subst hc hd
  have hle : its.length = xs.length := r.length.symm
  have c0 : (decide (k < -(2 ^ 63)) || decide (k ≥ 2 ^ 63)) = false := by
    rw [decide_eq_false (by omega), decide_eq_false (by omega)] <;> rfl
  have c1 : (its.toArray.isEmpty || k == 1) = true := by
    rcases h3 with h3 | h3
    · rw [h3] at hle
      rw [List.eq_nil_of_length_eq_zero hle]
      rfl
    · rw [h3]
      simp
  exact wpAny_binaryOp_repeat_ref (T := "tuple") (U := "int") (by decide) ⟨_, ho, rfl⟩ (fun s' => typeIs_int s' k t) noFill_tuple_mul F.fills_int_mul F.slot_int_rmul repeat_tuple F.slot_int_index.lookup
    (call_meets F.slot_int_rmul (typeIs_int s k t) F.entry_int_rmul (F.args_int_rmul_2 _ _) (int_rmul_tuple k t l its.toArray n dd sl)
      ⟨ho, rfl, ⟨_, ho, rfl⟩, call_meets F.slot_tuple_mul ⟨_, ho, rfl⟩ F.entry_tuple_mul (F.args_tuple_mul_2 _ _) (tmul_same l its.toArray n dd sl k t c0 c1) ⟨ho, .ref l, H, I, rfl, q⟩⟩)
def rRep0 (K : PySem.W.Frag) : R2 := fun x y H Q => ∃ l k xs, x = .ref l ∧ y = .int k ∧ SqT K H l xs ∧ xs ≠ [] ∧ -(2 ^ 63) ≤ k ∧ k ≤ 0 ∧ ∀ p, H p = none → Q (.ref p) (upd H p (.tup []))
theorem op_rep0 : OpR X (binaryOp .Mult) (rRep0 X.K) := by
  intro pins s σ H x y v u Q I rx ry h
  obtain ⟨l, k, xs, rfl, rfl, hT, hne, h1, h2, q⟩ := h
  cases rx
  obtain ⟨t, rfl⟩ := ry
  obtain ⟨its, r, ⟨⟨cls, dd, data, sl⟩, ho, hc, n, hd⟩, hs⟩ := I.tuple hT
  simp only at hc hd
  subst hc hd
  have hle : its.length = xs.length := r.length.symm
  have hn : its ≠ [] := fun e => hne (by
    rw [e] at hle
    exact List.eq_nil_of_length_eq_zero hle.symm)
  have hi : its.toArray.isEmpty = false := by
    cases its with
    | nil => exact absurd rfl hn
    | cons a b => rfl
  have c0 : (decide (k < -(2 ^ 63)) || decide (k ≥ 2 ^ 63)) = false := by
    rw [decide_eq_false (by omega), decide_eq_false (by omega)] <;> rfl
  have c1 : (its.toArray.isEmpty || k == 1) = false := by
    rw [hi, Bool.false_or]
    exact beq_eq_false_iff_ne.mpr (by omega)
  have c2 : (decide (k ≤ 0) || its.toArray.isEmpty) = true := by
    rw [decide_eq_true h2]
    rfl
  refine wpAny_binaryOp_repeat_ref (T := "tuple") (U := "int") (by decide) ⟨_, ho, rfl⟩ (fun s' => typeIs_int s' k t) noFill_tuple_mul F.fills_int_mul F.slot_int_rmul repeat_tuple F.slot_int_index.lookup
    (call_meets F.slot_int_rmul (typeIs_int s k t) F.entry_int_rmul (F.args_int_rmul_2 _ _) (int_rmul_tuple k t l its.toArray n dd sl)
      ⟨ho, rfl, ⟨_, ho, rfl⟩, call_meets F.slot_tuple_mul ⟨_, ho, rfl⟩ F.entry_tuple_mul (F.args_tuple_mul_2 _ _) (tmul_none l its.toArray n dd sl k t c0 c1 c2) ⟨ho, ?_⟩⟩)
  refine ⟨.ref s.heap.objs.size, _, I.laid (t' := s.toks) (o := .tup []) (fun b ob q => Heap.get?_push_of_some _ q) (Nat.le_refl _) ?_, rfl, q _ (I.hok.fresh (Nat.le_refl _))⟩
  exact ⟨Nat.zero_le _, [], .nil, IsTup.new _ _⟩
end
end Ev
namespace Ev
open PySem PySem.Spec PyProof.Rows L2

/-- the tuples of a heap -/
def pu (H : Hp) : Hp := fun a => match H a with
  | some (.tup xs) => some (.tup xs)
  | some (.frz o (.tup xs)) => some (.frz o (.tup xs))
  | _ => none
theorem pu_same {H : Hp} : Same (pu H) H := fun a o h => by
  unfold pu at h
  split at h
  · rename_i e; cases h; exact e
  · rename_i e; cases h; exact e
  · cases h
theorem pu_at {H : Hp} {a : Addr} {o : HO} (h : pu H a = some o) : H a = some o := pu_same a o h
theorem pu_of {H H' : Hp} (h : Same (pu H) H') : Same (pu H) (pu H') := fun a o e => by
  have h1 := h a o e
  have h2 := pu_at e
  unfold pu at e ⊢
  rw [h1]
  rw [h2] at e
  exact e
theorem pu_mono {H H' : Hp} (h : Same H H') : Same (pu H) (pu H') := pu_of (pu_same.trans h)
/-- a list's slot is no tuple's -/
theorem pu_upd {H : Hp} {p : Addr} {xs : List V} {o : HO} (h : H p = some (.lst xs)) : Same (pu H) (pu (upd H p o)) := pu_of fun a u e => by
  have h2 := pu_at e
  rw [upd_ne]
  · exact h2
  · intro z
    rw [z] at e
    unfold pu at e
    rw [h] at e
    cases e
theorem pu_updN {H : Hp} {p : Addr} {o : HO} (h : H p = none) : Same (pu H) (pu (upd H p o)) := pu_of fun a u e => by
  have h2 := pu_at e
  rw [upd_ne (ne_of_none h2 h)]
  exact h2
theorem rd_mono {H H' : Hp} {a : Addr} {u : HO} (e : Same H H') (h : Rd H a u) : Rd H' a u := h.imp (e _ _) fun ⟨o, q⟩ => ⟨o, e _ _ q⟩
theorem sqL_mono {K : PySem.W.Frag} {H H' : Hp} {a : Addr} {xs : List V} (e : Same H H') (h : SqL K H a xs) : SqL K H' a xs := h.imp (rd_mono e) id
theorem sqT_mono {K : PySem.W.Frag} {H H' : Hp} {a : Addr} {xs : List V} (e : Same H H') (h : SqT K H a xs) : SqT K H' a xs := h.imp (rd_mono e) id
theorem sqT_pu {K : PySem.W.Frag} {H : Hp} {a : Addr} {xs : List V} (h : SqT K H a xs) : SqT K (pu H) a xs := by
  rcases h with (h | ⟨o, h⟩) | h
  · exact .inl (.inl (by unfold pu; rw [h]))
  · exact .inl (.inr ⟨o, by unfold pu; rw [h]⟩)
  · exact .inr h
mutual
theorem dp_mono {K : PySem.W.Frag} {H H' : Hp} (e : Same H H') : ∀ (d : PyData) (v : V), Dp K H v d → Dp K H' v d
  | .none, _, h => by cases h; exact .non
  | .bool b, _, h => by cases h; exact .bl b
  | .int i, _, h => by cases h; exact .int i
  | .str x, _, h => by cases h; exact .str x
  | .list ds, _, h => by
    cases h with
    | lst hs ha => exact .lst (sqL_mono e hs) (dpAll_mono e ds _ ha)
  | .tuple ds, _, h => by
    cases h with
    | tup hs ha => exact .tup (sqT_mono e hs) (dpAll_mono e ds _ ha)
  | .dict _, _, h => by cases h
theorem dpAll_mono {K : PySem.W.Frag} {H H' : Hp} (e : Same H H') : ∀ (ds : List PyData) (vs : List V), DpAll K H vs ds → DpAll K H' vs ds
  | [], _, h => by cases h; exact .nil
  | d :: ds, _, h => by
    cases h with
    | cons h1 h2 => exact .cons (dp_mono e d _ h1) (dpAll_mono e ds _ h2)
end

def RpD (K : PySem.W.Frag) (H : Hp) (v : V) (d : Dt) : Prop := Dp K (pu H) v (toPy d)
abbrev RpDs (K : PySem.W.Frag) (H : Hp) : List V → List Dt → Prop := Paired (RpD K H)
def RpV (K : PySem.W.Frag) (H : Hp) (v : V) : Vl → Prop
  | .h d => RpD K H v d
  | .l xs => ∃ a vs, v = .ref a ∧ Rd H a (.lst vs) ∧ RpDs K H vs xs
  | .s xs => ∃ a vs, v = .ref a ∧ SqL K H a vs ∧ RpDs K H vs xs
  | .m _ => False
abbrev RpVs (K : PySem.W.Frag) (H : Hp) : List V → List Vl → Prop := Paired (RpV K H)
/-- a list that H does not know, at H' -/
def FR (K : PySem.W.Frag) (H H' : Hp) (v : V) : Vl → Prop
  | .h _ => True
  | .l xs => ∃ p vs, v = .ref p ∧ H p = none ∧ H' p = some (.lst vs) ∧ RpDs K H' vs xs
  | .s _ => False
  | .m _ => False
section
variable {K : PySem.W.Frag} {H H' H1 : Hp} {v : V} {vs : List V} {d : Dt} {ds : List Dt} {r : Vl} {rs : List Vl}
theorem RpD.mono (e : Same H H') (h : RpD K H v d) : RpD K H' v d := dp_mono (pu_mono e) _ _ h
theorem RpD.keep (e : Same (pu H) (pu H')) (h : RpD K H v d) : RpD K H' v d := dp_mono e _ _ h
theorem RpDs.mono (e : Same H H') (h : RpDs K H vs ds) : RpDs K H' vs ds := Paired.mono (fun _ _ q => RpD.mono e q) h
theorem RpDs.keep (e : Same (pu H) (pu H')) (h : RpDs K H vs ds) : RpDs K H' vs ds := Paired.mono (fun _ _ q => RpD.keep e q) h
theorem RpV.mono (e : Same H H') (h : RpV K H v r) : RpV K H' v r := by
  cases r with
  | h d => exact RpD.mono e h
  | l xs =>
    obtain ⟨a, vs, h1, h2, h3⟩ := h
    exact ⟨a, vs, h1, rd_mono e h2, RpDs.mono e h3⟩
  | s xs =>
    obtain ⟨a, vs, h1, h2, h3⟩ := h
    exact ⟨a, vs, h1, sqL_mono e h2, RpDs.mono e h3⟩
  | m _ => exact h
theorem RpVs.mono (e : Same H H') (h : RpVs K H vs rs) : RpVs K H' vs rs := Paired.mono (fun _ _ q => RpV.mono e q) h
theorem FR.rp (h : FR K H H' v r) (h2 : RpV K H' v r) : RpV K H' v r := h2
/-- the old heap the smaller -/
theorem FR.old (e : Same H H1) (h : FR K H1 H' v r) : FR K H H' v r := by
  cases r with
  | h d => trivial
  | l xs =>
    obtain ⟨p, vs, h1, h2, h3⟩ := h
    exact ⟨p, vs, h1, e.free h2, h3⟩
  | s _ => exact h
  | m _ => exact h
theorem FR.new (e : Same H' H1) (h : FR K H H' v r) : FR K H H1 v r := by
  cases r with
  | h d => trivial
  | l xs =>
    obtain ⟨p, vs, h1, h2, h3, h4⟩ := h
    exact ⟨p, vs, h1, h2, e _ _ h3, RpDs.mono e h4⟩
  | s _ => exact h
  | m _ => exact h
theorem dpAll_of : ∀ {vs : List V} {ds : List Dt}, RpDs K H vs ds → DpAll K (pu H) vs (toPys ds)
  | _, _, .nil => by unfold toPys; exact .nil
  | _, _, .cons h t => by unfold toPys; exact .cons h (dpAll_of t)
theorem of_dpAll : ∀ {ds : List Dt} {vs : List V}, DpAll K (pu H) vs (toPys ds) → RpDs K H vs ds
  | [], _, h => by
    unfold toPys at h
    cases h
    exact .nil
  | d :: ds, _, h => by
    unfold toPys at h
    cases h with
    | cons h1 h2 => exact .cons h1 (of_dpAll h2)
theorem rp_non : RpD K H v .non → v = .non := fun h => by unfold RpD toPy at h; cases h; rfl
theorem rp_bl {b : Bool} : RpD K H v (.bl b) → v = .bl b := fun h => by unfold RpD toPy at h; cases h; rfl
theorem rp_int {i : Int} : RpD K H v (.int i) → v = .int i := fun h => by unfold RpD toPy at h; cases h; rfl
theorem rp_str {x : List Nat} : RpD K H v (.str x) → v = .str ⟨x.toArray⟩ := fun h => by unfold RpD toPy at h; cases h; rfl
theorem rp_tup {xs : List Dt} : RpD K H v (.tup xs) → ∃ a vs, v = .ref a ∧ SqT K H a vs ∧ RpDs K H vs xs := fun h => by
  unfold RpD toPy at h
  cases h with
  | tup hs ha => exact ⟨_, _, rfl, sqT_mono pu_same hs, of_dpAll ha⟩
theorem mk_non : RpD K H .non .non := by unfold RpD toPy; exact .non
theorem mk_bl {b : Bool} : RpD K H (.bl b) (.bl b) := by unfold RpD toPy; exact .bl b
theorem mk_int {i : Int} : RpD K H (.int i) (.int i) := by unfold RpD toPy; exact .int i
theorem mk_str {x : List Nat} : RpD K H (.str ⟨x.toArray⟩) (.str x) := by unfold RpD toPy; exact .str _
theorem mk_tup {a : Addr} {xs : List Dt} (h : SqT K H a vs) (h2 : RpDs K H vs xs) : RpD K H (.ref a) (.tup xs) := by
  unfold RpD toPy
  exact .tup (sqT_pu h) (dpAll_of h2)
theorem dp_of (h : RpD K H v d) : Dp K H v (toPy d) := dp_mono pu_same _ _ h
theorem dp_list {xs : List Dt} (h : RpV K H v (.l xs)) : Dp K H v (.list (toPys xs)) := by
  obtain ⟨a, vs, rfl, h2, h3⟩ := h
  exact .lst (.inl h2) (dpAll_mono pu_same _ _ (dpAll_of h3))
end
section
variable {α β γ : Type} {F : α → β → Prop}
theorem pr_get : ∀ {xs : List α} {ys : List β}, Paired F xs ys → ∀ {i : Nat} {y : β}, ys[i]? = some y → ∃ x, xs[i]? = some x ∧ F x y
  | _, _, .nil, i, y, h => by simp at h
  | _, _, .cons r t, 0, y, h => by
    simp at h
    subst h
    exact ⟨_, rfl, r⟩
  | _, _, .cons r t, i + 1, y, h => by
    obtain ⟨x, h1, h2⟩ := pr_get t (i := i) (y := y) (by simpa using h)
    exact ⟨x, by simpa using h1, h2⟩
theorem pr_getL : ∀ {xs : List α} {ys : List β}, Paired F xs ys → ∀ {i : Nat} {x : α}, xs[i]? = some x → ∃ y, ys[i]? = some y ∧ F x y
  | _, _, .nil, i, y, h => by simp at h
  | _, _, .cons r t, 0, y, h => by
    simp at h
    subst h
    exact ⟨_, rfl, r⟩
  | _, _, .cons r t, i + 1, y, h => by
    obtain ⟨x, h1, h2⟩ := pr_getL t (i := i) (x := y) (by simpa using h)
    exact ⟨x, by simpa using h1, h2⟩
theorem pr_append : ∀ {xs : List α} {ys : List β} {xs' : List α} {ys' : List β}, Paired F xs ys → Paired F xs' ys' → Paired F (xs ++ xs') (ys ++ ys')
  | _, _, _, _, .nil, s => s
  | _, _, _, _, .cons r t, s => .cons r (pr_append t s)
theorem pr_drop : ∀ {xs : List α} {ys : List β} (n : Nat), Paired F xs ys → Paired F (xs.drop n) (ys.drop n)
  | _, _, 0, r => r
  | _, _, _ + 1, .nil => .nil
  | _, _, n + 1, .cons _ t => pr_drop n t
theorem pr_take : ∀ {xs : List α} {ys : List β} (n : Nat), Paired F xs ys → Paired F (xs.take n) (ys.take n)
  | _, _, 0, r => .nil
  | _, _, _ + 1, .nil => .nil
  | _, _, n + 1, .cons r t => .cons r (pr_take n t)
theorem pr_set {x : α} {y : β} (r : F x y) : ∀ {xs : List α} {ys : List β} (i : Nat), Paired F xs ys → Paired F (xs.set i x) (ys.set i y)
  | _, _, _, .nil => .nil
  | _, _, 0, .cons _ t => .cons r t
  | _, _, i + 1, .cons q t => .cons q (pr_set r i t)
theorem pr_reverse {xs : List α} {ys : List β} (h : Paired F xs ys) : Paired F xs.reverse ys.reverse := by
  induction h with
  | nil => exact .nil
  | cons r t ih =>
    rw [List.reverse_cons, List.reverse_cons]
    exact pr_append ih (.cons r .nil)
theorem pr_repl {xs : List α} {ys : List β} (h : Paired F xs ys) : ∀ n : Nat, Paired F (List.replicate n xs).flatten (List.replicate n ys).flatten
  | 0 => .nil
  | n + 1 => by
    rw [List.replicate_succ, List.replicate_succ, List.flatten_cons, List.flatten_cons]
    exact pr_append h (pr_repl h n)
theorem pr_mem {xs : List α} {ys : List β} (h : Paired F xs ys) {y : β} (hy : y ∈ ys) : ∃ x, x ∈ xs ∧ F x y := by
  obtain ⟨i, hi⟩ := List.mem_iff_getElem?.mp hy
  obtain ⟨x, h1, h2⟩ := pr_get h hi
  exact ⟨x, List.mem_of_getElem? h1, h2⟩
theorem pr_map {f : γ → α} {g : γ → β} : ∀ {zs : List γ}, (∀ z ∈ zs, F (f z) (g z)) → Paired F (zs.map f) (zs.map g)
  | [], _ => .nil
  | z :: zs, h => .cons (h z List.mem_cons_self) (pr_map fun y hy => h y (List.mem_cons_of_mem _ hy))
theorem pr_nil_iff {xs : List α} {ys : List β} (h : Paired F xs ys) : xs = [] ↔ ys = [] := by
  cases h <;> simp
theorem pr_empty {xs : List α} {ys : List β} (h : Paired F xs ys) : xs.isEmpty = ys.isEmpty := by
  cases h <;> rfl
end
theorem rpDs_ints {K : PySem.W.Frag} {H : Hp} : ∀ {vs : List V} {ds : List Dt} {ns : List Int}, RpDs K H vs ds → asInts ds = some ns → vs = ns.map V.int
  | _, [], ns, h, e => by
    cases h
    simp [asInts] at e
    subst e
    rfl
  | _, .int i :: r, ns, h, e => by
    cases h with
    | cons h1 h2 =>
      simp only [asInts, Option.map_eq_some_iff] at e
      obtain ⟨ms, e1, e2⟩ := e
      subst e2
      rw [rp_int h1, rpDs_ints h2 e1]
      rfl
  | _, .non :: r, ns, h, e => by simp [asInts] at e
  | _, .bl _ :: r, ns, h, e => by simp [asInts] at e
  | _, .str _ :: r, ns, h, e => by simp [asInts] at e
  | _, .tup _ :: r, ns, h, e => by simp [asInts] at e
theorem rpDs_bools {K : PySem.W.Frag} {H : Hp} : ∀ {vs : List V} {ds : List Dt} {ns : List Bool}, RpDs K H vs ds → asBools ds = some ns → vs = ns.map V.bl
  | _, [], ns, h, e => by
    cases h
    simp [asBools] at e
    subst e
    rfl
  | _, .bl i :: r, ns, h, e => by
    cases h with
    | cons h1 h2 =>
      simp only [asBools, Option.map_eq_some_iff] at e
      obtain ⟨ms, e1, e2⟩ := e
      subst e2
      rw [rp_bl h1, rpDs_bools h2 e1]
      rfl
  | _, .non :: r, ns, h, e => by simp [asBools] at e
  | _, .int _ :: r, ns, h, e => by simp [asBools] at e
  | _, .str _ :: r, ns, h, e => by simp [asBools] at e
  | _, .tup _ :: r, ns, h, e => by simp [asBools] at e
theorem rpDs_strs {K : PySem.W.Frag} {H : Hp} : ∀ {vs : List V} {ds : List Dt} {ns : List (List Nat)}, RpDs K H vs ds → asStrs ds = some ns → vs = (ns.map fun x => (⟨x.toArray⟩ : Str)).map V.str
  | _, [], ns, h, e => by
    cases h
    simp [asStrs] at e
    subst e
    rfl
  | _, .str i :: r, ns, h, e => by
    cases h with
    | cons h1 h2 =>
      simp only [asStrs, Option.map_eq_some_iff] at e
      obtain ⟨ms, e1, e2⟩ := e
      subst e2
      rw [rp_str h1, rpDs_strs h2 e1]
      rfl
  | _, .non :: r, ns, h, e => by simp [asStrs] at e
  | _, .bl _ :: r, ns, h, e => by simp [asStrs] at e
  | _, .int _ :: r, ns, h, e => by simp [asStrs] at e
  | _, .tup _ :: r, ns, h, e => by simp [asStrs] at e
theorem rpV_items {K : PySem.W.Frag} {H : Hp} {v : V} {r : Vl} {xs : List Dt} (h : RpV K H v r) (e : itemsOf r = some xs) : ∃ a vs, v = .ref a ∧ (SqL K H a vs ∨ SqT K H a vs) ∧ RpDs K H vs xs := by
  cases r with
  | h d =>
    cases d with
    | tup ys =>
      simp [itemsOf] at e
      subst e
      obtain ⟨a, vs, h1, h2, h3⟩ := rp_tup h
      exact ⟨a, vs, h1, .inr h2, h3⟩
    | non => simp [itemsOf] at e
    | bl _ => simp [itemsOf] at e
    | int _ => simp [itemsOf] at e
    | str _ => simp [itemsOf] at e
  | l ys =>
    simp [itemsOf] at e
    subst e
    obtain ⟨a, vs, h1, h2, h3⟩ := h
    exact ⟨a, vs, h1, .inl (.inl h2), h3⟩
  | s _ => simp [itemsOf] at e
  | m _ => simp [itemsOf] at e

section
variable {X : Cx}
/-- what is to be shown behind an operation -/
abbrev Done (K : PySem.W.Frag) (H : Hp) (Q : VK) (r : Vl) : Prop := ∀ v H', Same H H' → RpV K H' v r → FR K H H' v r → Q v H'
def OpV (X : Cx) (f : Value → Value → Sem Value) (g : Vl → Vl → Option Vl) : Prop :=
  OpR X f fun x y H Q => ∃ a b r, RpV X.K H x a ∧ RpV X.K H y b ∧ g a b = some r ∧ Done X.K H Q r
def OpB (X : Cx) (f : Value → Value → Sem Value) (g : Vl → Vl → Option Bool) : Prop :=
  OpR X f fun x y H Q => ∃ a b r, RpV X.K H x a ∧ RpV X.K H y b ∧ g a b = some r ∧ Q (.bl r) H
theorem done_h {K : PySem.W.Frag} {H : Hp} {Q : VK} {d : Dt} (q : Done K H Q (.h d)) {v : V} (h : RpD K H v d) : Q v H := q v H (Same.refl H) h trivial
/-- a new list -/
theorem done_l {K : PySem.W.Frag} {H : Hp} {Q : VK} {xs : List Dt} {vs : List V} (q : Done K H Q (.l xs)) (h : RpDs K H vs xs) {p : Addr} (hp : H p = none) : Q (.ref p) (upd H p (.lst vs)) := by
  have e : Same H (upd H p (.lst vs)) := fun b o z => by rw [upd_ne (ne_of_none z hp)]; exact z
  have h' := RpDs.mono e h
  exact q _ _ e ⟨p, vs, rfl, .inl upd_same, h'⟩ ⟨p, vs, rfl, hp, upd_same, h'⟩
/-- a new tuple -/
theorem done_t {K : PySem.W.Frag} {H : Hp} {Q : VK} {xs : List Dt} {vs : List V} (q : Done K H Q (.h (.tup xs))) (h : RpDs K H vs xs) {p : Addr} (hp : H p = none) : Q (.ref p) (upd H p (.tup vs)) := by
  have e : Same H (upd H p (.tup vs)) := fun b o z => by rw [upd_ne (ne_of_none z hp)]; exact z
  have h' := RpDs.mono e h
  exact q _ _ e (mk_tup (.inl (.inl upd_same)) h') trivial
theorem str_len (x : List Nat) : (⟨x.toArray⟩ : Str).length = x.length := by simp [Str.length]
theorem str_app (a b : List Nat) : (⟨a.toArray⟩ : Str) ++ ⟨b.toArray⟩ = ⟨(a ++ b).toArray⟩ := by
  apply TL.ext_tl
  rw [TL.tl_append]
theorem op_addV : OpV X (binaryOp .Add) addE := by
  intro pins s σ H x y v u Q I rx ry h
  obtain ⟨a, b, r, ha, hb, hg, q⟩ := h
  unfold addE at hg
  split at hg
  · cases hg
    rw [rp_int ha] at rx
    rw [rp_int hb] at ry
    exact op_add pins s σ H _ _ v u Q I rx ry ⟨_, _, rfl, rfl, done_h q mk_int⟩
  · split at hg
    · rename_i hl
      cases hg
      rw [rp_str ha] at rx
      rw [rp_str hb] at ry
      refine op_add_str pins s σ H _ _ v u Q I rx ry ⟨_, _, rfl, rfl, by rw [str_len, str_len]; exact hl, ?_⟩
      rw [str_app]
      exact done_h q mk_str
    · cases hg
  · split at hg
    · rename_i hl
      cases hg
      obtain ⟨a1, vs1, rfl, s1, p1⟩ := rp_tup ha
      obtain ⟨a2, vs2, rfl, s2, p2⟩ := rp_tup hb
      have l1 := p1.length
      have l2 := p2.length
      refine op_catA pins s σ H _ _ v u Q I rx ry ⟨a1, a2, vs1, vs2, rfl, rfl, s1, s2, by omega, fun e => ?_, fun _ e => ?_, fun _ _ p hp => done_t q (pr_append p1 p2) hp⟩
      · rw [(pr_nil_iff p1).mp e, List.nil_append] at q
        exact done_h q hb
      · rw [(pr_nil_iff p2).mp e, List.append_nil] at q
        exact done_h q ha
    · cases hg
  · split at hg
    · rename_i hl
      cases hg
      obtain ⟨a1, vs1, rfl, s1, p1⟩ := ha
      obtain ⟨a2, vs2, rfl, s2, p2⟩ := hb
      have l1 := p1.length
      have l2 := p2.length
      cases rx
      cases ry
      obtain ⟨z, its, n, rr, e⟩ := s1.ok I.hok
      obtain ⟨z2, its2, n2, rr2, e2⟩ := s2.ok I.hok
      have l3 := rr.length
      have l4 := rr2.length
      refine PySem.P.add_list e e2 ?_ (by rw [List.size_toArray, List.size_toArray]; omega)
      have ea : its.toArray ++ its2.toArray = (its ++ its2).toArray := by simp
      rw [ea]
      exact ⟨.ref _, _, I.lnew (t' := s.toks) (rr.append rr2) (by rw [List.length_append]; omega), rfl, done_l q (pr_append p1 p2) I.fresh⟩
    · cases hg
  · cases hg
theorem op_subV : OpV X (binaryOp .Sub) subE := by
  intro pins s σ H x y v u Q I rx ry h
  obtain ⟨a, b, r, ha, hb, hg, q⟩ := h
  unfold subE at hg
  split at hg
  · cases hg
    rw [rp_int ha] at rx
    rw [rp_int hb] at ry
    exact op_sub pins s σ H _ _ v u Q I rx ry ⟨_, _, rfl, rfl, done_h q mk_int⟩
  · cases hg
theorem op_mulV : OpV X (binaryOp .Mult) mulE := by
  intro pins s σ H x y v u Q I rx ry h
  obtain ⟨a, b, r, ha, hb, hg, q⟩ := h
  unfold mulE at hg
  split at hg
  · split at hg
    · rename_i hm
      cases hg
      rw [rp_int ha] at rx
      rw [rp_int hb] at ry
      refine op_mul pins s σ H _ _ v u Q I rx ry ⟨_, _, rfl, rfl, ?_, done_h q mk_int⟩
      unfold mulOk at hm
      simpa [CMul, Bool.or_eq_true, Bool.and_eq_true] using hm
    · cases hg
  · split at hg
    · rename_i hl
      cases hg
      obtain ⟨a1, vs1, rfl, s1, p1⟩ := ha
      rw [rp_int hb] at ry
      obtain ⟨h1, h2, hz⟩ := hl
      cases rx
      obtain ⟨t, rfl⟩ := ry
      rename_i xs k
      obtain ⟨z, its, n, rr, e⟩ := s1.ok I.hok
      have l1 := p1.length
      have l2 := rr.length
      have hlen : its.toArray.size * k.toNat ≤ sizeLine := by rw [List.size_toArray, ← l2, l1]; exact hz
      have hcap : ¬ its.toArray.size * k.toNat > (2 ^ 63 - 1) / 8 := by
        have : (sizeLine : Nat) ≤ (2 ^ 63 - 1) / 8 := by decide
        omega
      have hfit : ¬ (!Builtin.List.listFitsIndex k) = true := by
        rw [PySem.fitsIndex_both h1 h2]
        exact Bool.false_ne_true
      have hlong : ¬ Builtin.List.listTooLong (its.toArray.size * k.toNat) = true := by
        rw [notLongL hlen]
        exact Bool.false_ne_true
      have hnew : List.foldl (fun x1 x2 => x1 ++ x2) #[] (List.replicate (if its.toArray.isEmpty = true then 0 else k.toNat) its.toArray) = (List.replicate k.toNat its).flatten.toArray := by
        have f0 : ∀ m : Nat, List.foldl (fun x1 x2 => x1 ++ x2) #[] (List.replicate m its.toArray) = (List.replicate m its).flatten.toArray := fun m => by
          have := foldl_rep its m []
          rw [List.nil_append] at this
          exact this
        rw [f0]
        cases its with
        | nil => simp
        | cons a r' => rw [if_neg (by simp)]
      refine wpAny_binaryOp_repeat_ref (T := "list") (U := "int") (by decide) ⟨_, e, rfl⟩ (fun s' => typeIs_int s' k t) noFill_list_mul F.fills_int_mul F.slot_int_rmul repeat_list F.slot_int_index.lookup
        (call_meets F.slot_int_rmul (typeIs_int s k t) F.entry_int_rmul (F.args_int_rmul_2 _ _) (int___rmul___int_list k t a1 its.toArray n)
          ⟨e, rfl, ⟨_, e, rfl⟩, call_meets F.slot_list_mul ⟨_, e, rfl⟩ F.entry_list_mul (F.args_list_mul_2 _ _) (AutoListH.list___mul___list_int_3 a1 its.toArray n k t hfit hcap hlong) ⟨e, ?_⟩⟩)
      rw [hnew]
      exact ⟨.ref _, _, I.lnew (t' := s.toks) (rr.rep k.toNat) (by rw [PyProof.Rows.lm_len_rep_flat, Nat.mul_comm, l1]; exact hz), rfl, done_l q (pr_repl p1 _) I.fresh⟩
    · cases hg
  · split at hg
    · rename_i hl
      cases hg
      obtain ⟨a1, vs1, rfl, s1, p1⟩ := rp_tup ha
      rw [rp_int hb] at ry
      obtain ⟨h1, h3, h4⟩ := hl
      have l1 := p1.length
      rename_i xs j
      by_cases hn : vs1 = []
      · have hx : xs = [] := (pr_nil_iff p1).mp hn
        subst hx
        have e : repl j.toNat ([] : List Dt) = [] := by
          unfold repl
          rw [List.flatten_replicate_nil]
        rw [e] at q
        exact op_repS pins s σ H _ _ v u Q I rx ry ⟨a1, _, vs1, rfl, rfl, s1, by omega, by omega, .inl hn, done_h q (mk_tup s1 p1)⟩
      · by_cases h2 : 2 ≤ j
        · exact op_repT pins s σ H _ _ v u Q I rx ry ⟨a1, _, vs1, rfl, rfl, s1, hn, h2, h3, by omega, fun p hp => done_t q (pr_repl p1 _) hp⟩
        · by_cases h0 : j = 1
          · have e : repl j.toNat xs = xs := by
              subst h0
              unfold repl
              simp
            rw [e] at q
            exact op_repS pins s σ H _ _ v u Q I rx ry ⟨a1, _, vs1, rfl, rfl, s1, by omega, by omega, .inr h0, done_h q (mk_tup s1 p1)⟩
          · have e : repl j.toNat xs = [] := by
              rw [show j.toNat = 0 by omega]
              rfl
            rw [e] at q
            exact op_rep0 pins s σ H _ _ v u Q I rx ry ⟨a1, _, vs1, rfl, rfl, s1, hn, by omega, by omega, fun p hp => done_t q .nil hp⟩
    · cases hg
  · cases hg
theorem op_fdivV : OpV X (binaryOp .FloorDiv) fdivE := by
  intro pins s σ H x y v u Q I rx ry h
  obtain ⟨a, b, r, ha, hb, hg, q⟩ := h
  unfold fdivE at hg
  split at hg
  · split at hg
    · rename_i hm
      cases hg
      rw [rp_int ha] at rx
      rw [rp_int hb] at ry
      exact op_fdiv pins s σ H _ _ v u Q I rx ry ⟨_, _, rfl, rfl, hm, done_h q mk_int⟩
    · cases hg
  · cases hg
theorem op_modV : OpV X (binaryOp .Mod) modE := by
  intro pins s σ H x y v u Q I rx ry h
  obtain ⟨a, b, r, ha, hb, hg, q⟩ := h
  unfold modE at hg
  split at hg
  · split at hg
    · rename_i hm
      cases hg
      rw [rp_int ha] at rx
      rw [rp_int hb] at ry
      exact op_mod pins s σ H _ _ v u Q I rx ry ⟨_, _, rfl, rfl, hm, done_h q mk_int⟩
    · cases hg
  · cases hg
theorem op_powV : OpV X (binaryOp .Pow) powE := by
  intro pins s σ H x y v u Q I rx ry h
  obtain ⟨a, b, r, ha, hb, hg, q⟩ := h
  unfold powE at hg
  split at hg
  · split at hg
    · rename_i hm
      cases hg
      rw [rp_int ha] at rx
      rw [rp_int hb] at ry
      exact op_pow pins s σ H _ _ v u Q I rx ry ⟨_, _, rfl, rfl, hm, done_h q mk_int⟩
    · cases hg
  · cases hg
theorem op_binV (o : Operator) : OpV X (binaryOp o) (binE o) := by
  cases o with
  | Add => exact op_addV
  | Sub => exact op_subV
  | Mult => exact op_mulV
  | FloorDiv => exact op_fdivV
  | Mod => exact op_modV
  | Pow => exact op_powV
  | _ =>
    intro pins s σ H x y v u Q I rx ry h
    obtain ⟨a, b, r, ha, hb, hg, q⟩ := h
    simp [binE] at hg
theorem iop_V (o : Operator) : OpR X (inplaceOp o) (fun x y H Q => ∃ a b d, RpV X.K H x a ∧ RpV X.K H y b ∧ iopE o a b = some d ∧ ∀ v, RpD X.K H v d → Q v H) := by
  intro pins s σ H x y v u Q I rx ry h
  obtain ⟨a, b, d, ha, hb, hg, q⟩ := h
  unfold iopE at hg
  split at hg
  · cases hg
    rw [rp_int ha] at rx
    rw [rp_int hb] at ry
    exact iop_add pins s σ H _ _ v u Q I rx ry ⟨_, _, rfl, rfl, q _ mk_int⟩
  · split at hg
    · rename_i hl
      cases hg
      rw [rp_str ha] at rx
      rw [rp_str hb] at ry
      refine iop_add_str pins s σ H _ _ v u Q I rx ry ⟨_, _, rfl, rfl, by rw [str_len, str_len]; exact hl, ?_⟩
      rw [str_app]
      exact q _ mk_str
    · cases hg
  · cases hg
    rw [rp_int ha] at rx
    rw [rp_int hb] at ry
    exact iop_sub pins s σ H _ _ v u Q I rx ry ⟨_, _, rfl, rfl, q _ mk_int⟩
  · split at hg
    · rename_i hm
      cases hg
      rw [rp_int ha] at rx
      rw [rp_int hb] at ry
      refine iop_mul pins s σ H _ _ v u Q I rx ry ⟨_, _, rfl, rfl, ?_, q _ mk_int⟩
      unfold mulOk at hm
      simpa [CMul, Bool.or_eq_true, Bool.and_eq_true] using hm
    · cases hg
  · cases hg
mutual
theorem eqD_py : ∀ a b : Dt, PyData.eqv (toPy a) (toPy b) = eqD a b
  | .non, b => by cases b <;> simp [toPy, PyData.eqv, eqD]
  | .bl a, b => by cases b <;> simp [toPy, PyData.eqv, eqD]
  | .int a, b => by
    cases b <;> simp [toPy, PyData.eqv, eqD]
    rename_i j
    exact Bool.beq_eq_decide_eq a j
  | .str a, b => by
    cases b <;> simp [toPy, PyData.eqv, eqD]
    rename_i j
    rw [Bool.beq_eq_decide_eq]
    exact decide_eq_decide.mpr ⟨fun h => by injection h with h; simpa using congrArg Array.toList h, fun h => by rw [h]⟩
  | .tup a, b => by
    cases b with
    | tup b => simp [toPy, PyData.eqv, eqD, eqDs_py a b]
    | _ => simp [toPy, PyData.eqv, eqD]
theorem eqDs_py : ∀ a b : List Dt, PyData.eqvAll (toPys a) (toPys b) = eqDs a b
  | [], b => by cases b <;> simp [toPys, PyData.eqvAll, eqDs]
  | x :: xs, b => by
    cases b with
    | nil => simp [toPys, PyData.eqvAll, eqDs]
    | cons y ys => simp [toPys, PyData.eqvAll, eqDs, eqD_py x y, eqDs_py xs ys]
end
mutual
theorem okD_py : ∀ a : Dt, okD a = true → PyData.canLay0 (toPy a) = true
  | .non, _ => by simp [toPy, PyData.canLay0]
  | .bl _, _ => by simp [toPy, PyData.canLay0]
  | .int _, _ => by simp [toPy, PyData.canLay0]
  | .str x, h => by
    simp only [toPy, PyData.canLay0, PyData.strOk]
    simp only [okD] at h
    simpa using h
  | .tup xs, h => by
    simp only [toPy, PyData.canLay0]
    simp only [okD] at h
    exact okDs_py xs h
theorem okDs_py : ∀ a : List Dt, okDs a = true → PyData.canLayAll0 (toPys a) = true
  | [], _ => by simp [toPys, PyData.canLayAll0]
  | x :: xs, h => by
    simp only [okDs, Bool.and_eq_true] at h
    simp [toPys, PyData.canLayAll0, okD_py x h.1, okDs_py xs h.2]
end
mutual
theorem dep_py : ∀ a : Dt, PyData.depth (toPy a) = dep a
  | .non => by simp [toPy, PyData.depth, dep]
  | .bl _ => by simp [toPy, PyData.depth, dep]
  | .int _ => by simp [toPy, PyData.depth, dep]
  | .str _ => by simp [toPy, PyData.depth, dep]
  | .tup xs => by simp [toPy, PyData.depth, dep, deps_py xs, Nat.add_comm]
theorem deps_py : ∀ a : List Dt, PyData.depthAll (toPys a) = deps a
  | [] => by simp [toPys, PyData.depthAll, deps]
  | x :: xs => by simp [toPys, PyData.depthAll, deps, dep_py x, deps_py xs]
end
theorem shp_py {a : Dt} (h : shp a = true) : SeqAt.shaped (toPy a) = true := by
  unfold shp at h
  simp only [Bool.and_eq_true, decide_eq_true_eq] at h
  unfold SeqAt.shaped
  rw [okD_py a h.1, dep_py, Bool.true_and, decide_eq_true_eq]
  omega
theorem shps_py {a : List Dt} (h : shps a = true) : SeqAt.shaped (.list (toPys a)) = true := by
  unfold shps at h
  simp only [Bool.and_eq_true, decide_eq_true_eq] at h
  unfold SeqAt.shaped
  have e : PyData.depth (.list (toPys a)) = deps a + 1 := by simp [PyData.depth, deps_py, Nat.add_comm]
  have e2 : PyData.canLay0 (.list (toPys a)) = true := by simp [PyData.canLay0, okDs_py a h.1]
  rw [e, e2, Bool.true_and, decide_eq_true_eq]
  omega
theorem op_eqV (hu : X.A.units + 64 < cLine) : OpB X (compareOp .Eq) eqE := by
  intro pins s σ H x y v u Q I rx ry h
  obtain ⟨a, b, r, ha, hb, hg, q⟩ := h
  unfold eqE at hg
  split at hg
  · split at hg
    · rename_i hs
      simp only [Bool.and_eq_true] at hs
      cases hg
      exact op_eqD hu pins s σ H x y v u Q I rx ry ⟨_, _, dp_of ha, dp_of hb, shp_py hs.1, shp_py hs.2, by rw [eqD_py]; exact q⟩
    · cases hg
  · split at hg
    · rename_i hs
      simp only [Bool.and_eq_true] at hs
      cases hg
      refine op_eqD hu pins s σ H x y v u Q I rx ry ⟨_, _, dp_list ha, dp_list hb, shps_py hs.1, shps_py hs.2, ?_⟩
      have e : ∀ p q : List PyData, PyData.eqv (.list p) (.list q) = PyData.eqvAll p q := fun p q => by simp [PyData.eqv]
      rw [e, eqDs_py]
      exact q
    · cases hg
  · cases hg
theorem op_neV (hu : X.A.units + 64 < cLine) : OpB X (compareOp .NotEq) neV := by
  intro pins s σ H x y v u Q I rx ry h
  obtain ⟨a, b, r, ha, hb, hg, q⟩ := h
  unfold neV at hg
  simp only [Option.map_eq_some_iff] at hg
  obtain ⟨t, hg, e⟩ := hg
  subst e
  unfold eqE at hg
  split at hg
  · split at hg
    · rename_i hs
      simp only [Bool.and_eq_true] at hs
      cases hg
      exact op_neD hu pins s σ H x y v u Q I rx ry ⟨_, _, dp_of ha, dp_of hb, shp_py hs.1, shp_py hs.2, by rw [eqD_py]; exact q⟩
    · cases hg
  · split at hg
    · rename_i hs
      simp only [Bool.and_eq_true] at hs
      cases hg
      refine op_neD hu pins s σ H x y v u Q I rx ry ⟨_, _, dp_list ha, dp_list hb, shps_py hs.1, shps_py hs.2, ?_⟩
      have e : ∀ p q : List PyData, PyData.eqv (.list p) (.list q) = PyData.eqvAll p q := fun p q => by simp [PyData.eqv]
      rw [e, eqDs_py]
      exact q
    · cases hg
  · cases hg
end
end Ev
namespace Ev
open PySem PySem.Spec PyProof.Rows L2
section
variable {X : Cx}
mutual
theorem alk_py : ∀ a b : Dt, alk a b = PySem.W.alike (toPy a) (toPy b)
  | .non, b => by cases b <;> simp [toPy, PySem.W.alike, alk]
  | .bl a, b => by cases b <;> simp [toPy, PySem.W.alike, alk]
  | .int a, b => by cases b <;> simp [toPy, PySem.W.alike, alk]
  | .str a, b => by cases b <;> simp [toPy, PySem.W.alike, alk]
  | .tup a, b => by
    cases b with
    | tup b => simp [toPy, PySem.W.alike, alk, alks_py a b]
    | _ => simp [toPy, PySem.W.alike, alk]
theorem alks_py : ∀ a b : List Dt, alks a b = PySem.W.alikeAll (toPys a) (toPys b)
  | [], b => by cases b <;> simp [toPys, PySem.W.alikeAll, alks]
  | x :: xs, b => by
    cases b with
    | nil => simp [toPys, PySem.W.alikeAll, alks]
    | cons y ys => simp [toPys, PySem.W.alikeAll, alks, alk_py x y, alks_py xs ys]
end
theorem toPys_map : ∀ xs : List Dt, toPys xs = xs.map toPy
  | [] => by simp [toPys]
  | x :: xs => by simp [toPys, toPys_map xs]

theorem op_ltV (hu : X.A.units + 64 < cLine) : OpB X (compareOp .Lt) ltV := by
  intro pins s σ H x y v u Q I rx ry h
  obtain ⟨a, b, r, ha, hb, hg, q⟩ := h
  unfold ltV at hg
  split at hg
  · unfold ltE at hg
    split at hg
    · cases hg
      rw [rp_int ha] at rx
      rw [rp_int hb] at ry
      exact op_lt pins s σ H _ _ v u Q I rx ry ⟨_, _, rfl, rfl, q⟩
    · cases hg
      rw [rp_str ha] at rx
      rw [rp_str hb] at ry
      exact op_lt_str pins s σ H _ _ v u Q I rx ry ⟨_, _, rfl, rfl, q⟩
    · split at hg
      · rename_i xs ys hk
        simp only [Bool.and_eq_true, decide_eq_true_eq] at hk
        cases hg
        obtain ⟨as, r1⟩ := Dp.reads I _ x v (dp_of ha) rx
        obtain ⟨bs, r2⟩ := Dp.reads I _ y u (dp_of hb) ry
        have hlt := PySem.W.rcLt_alike _ _ X.A s v u as bs r1 r2 (by rw [← alk_py]; exact hk.1.1) (by simp [toPy]) (by rw [dep_py, dep_py]; omega)
        exact hlt X.prog X.w X.xe _ ⟨.bl _, H, I, rfl, q⟩
      · cases hg
    · cases hg
  · cases hg
theorem op_gtV : OpB X (compareOp .Gt) gtV := by
  intro pins s σ H x y v u Q I rx ry h
  obtain ⟨a, b, r, ha, hb, hg, q⟩ := h
  unfold gtV at hg
  split at hg
  · cases hg
    rw [rp_int ha] at rx
    rw [rp_int hb] at ry
    exact op_gt pins s σ H _ _ v u Q I rx ry ⟨_, _, rfl, rfl, q⟩
  · cases hg
theorem op_leV : OpB X (compareOp .LtE) leV := by
  intro pins s σ H x y v u Q I rx ry h
  obtain ⟨a, b, r, ha, hb, hg, q⟩ := h
  unfold leV at hg
  split at hg
  · cases hg
    rw [rp_int ha] at rx
    rw [rp_int hb] at ry
    exact op_le pins s σ H _ _ v u Q I rx ry ⟨_, _, rfl, rfl, q⟩
  · cases hg
theorem op_geV : OpB X (compareOp .GtE) geV := by
  intro pins s σ H x y v u Q I rx ry h
  obtain ⟨a, b, r, ha, hb, hg, q⟩ := h
  unfold geV at hg
  split at hg
  · cases hg
    rw [rp_int ha] at rx
    rw [rp_int hb] at ry
    exact op_ge pins s σ H _ _ v u Q I rx ry ⟨_, _, rfl, rfl, q⟩
  · cases hg
theorem isNon_v {K : PySem.W.Frag} {H : Hp} {x : V} {a : Vl} (h : RpV K H x a) : isNon a = decide (x = .non) := by
  cases a with
  | h d =>
    cases d with
    | non => rw [rp_non h]; rfl
    | bl _ => rw [rp_bl h]; rfl
    | int _ => rw [rp_int h]; rfl
    | str _ => rw [rp_str h]; rfl
    | tup _ => obtain ⟨_, _, rfl, _⟩ := rp_tup h; rfl
  | l _ => obtain ⟨_, _, rfl, _⟩ := h; rfl
  | s _ => obtain ⟨_, _, rfl, _⟩ := h; rfl
  | m _ => exact h.elim
theorem isNon_t {K : PySem.W.Frag} {H : Hp} {x : V} {a : Vl} (h : RpV K H x a) (e : isNon a = true) : x = .non := by
  rw [isNon_v h] at e
  exact of_decide_eq_true e
theorem op_isV : OpB X (compareOp .Is) isV := by
  intro pins s σ H x y v u Q I rx ry h
  obtain ⟨a, b, r, ha, hb, hg, q⟩ := h
  unfold isV at hg
  split at hg
  · rename_i hn
    cases hg
    rw [isNon_v ha] at q
    exact op_isN pins s σ H x y v u Q I rx ry ⟨isNon_t hb hn, q⟩
  · cases hg
theorem op_isnotV : OpB X (compareOp .IsNot) isntV := by
  intro pins s σ H x y v u Q I rx ry h
  obtain ⟨a, b, r, ha, hb, hg, q⟩ := h
  unfold isntV at hg
  split at hg
  · rename_i hn
    cases hg
    rw [isNon_v ha] at q
    exact op_notN pins s σ H x y v u Q I rx ry ⟨isNon_t hb hn, q⟩
  · cases hg
theorem any_eqD (a : Dt) : ∀ b : List Dt, ((toPys b).any fun z => PyData.eqv z (toPy a)) = b.any fun z => eqD z a
  | [] => by simp [toPys]
  | x :: xs => by simp [toPys, eqD_py, any_eqD a xs]
theorem occ_one (c : Nat) (b : List Nat) : (!(Builtin.Str.occurrences ⟨b.toArray⟩ ⟨[c].toArray⟩ 0 (⟨b.toArray⟩ : Str).length 1).isEmpty) = b.any fun z => decide (z = c) := by
  have h := StrLaws.found_one (⟨b.toArray⟩ : Str) c
  rw [show (⟨[c].toArray⟩ : Str) = ⟨#[c]⟩ from rfl, h]
  rw [Bool.eq_iff_iff]
  simp
theorem op_inV (hu : X.A.units + 65 < cLine) : OpB X (compareOp .In) inE := by
  intro pins s σ H x y v u Q I rx ry h
  obtain ⟨a, b, r, ha, hb, hg, q⟩ := h
  unfold inE at hg
  split at hg
  · split at hg
    · rename_i hs
      simp only [Bool.and_eq_true] at hs
      cases hg
      obtain ⟨as, r1⟩ := Dp.reads I _ x v (dp_of ha) rx
      obtain ⟨bs, r2⟩ := Dp.reads I _ y u (dp_of hb) ry
      have sh := shps_py hs.2
      refine SeqAt.in_tuple_reads (xs := toPys _) (by rw [toPy] at r2; exact r2) r1 (SeqAt.canLay_of_shaped sh) (SeqAt.canLay_of_shaped (shp_py hs.1)) (room_in_shaped (shp_py hs.1) hu) ?_
      rw [any_eqD]
      exact ⟨.bl _, H, I, rfl, q⟩
    · cases hg
  · split at hg
    · rename_i hs
      simp only [Bool.and_eq_true] at hs
      cases hg
      obtain ⟨as, r1⟩ := Dp.reads I _ x v (dp_of ha) rx
      obtain ⟨bs, r2⟩ := Dp.reads I _ y u (dp_list hb) ry
      have sh := shps_py hs.2
      refine SeqAt.in_list_reads (xs := toPys _) r2 r1 (SeqAt.canLay_of_shaped sh) (SeqAt.canLay_of_shaped (shp_py hs.1)) (room_in_shaped (shp_py hs.1) hu) ?_
      rw [any_eqD]
      exact ⟨.bl _, H, I, rfl, q⟩
    · cases hg
  · cases hg
    rw [rp_str ha] at rx
    rw [rp_str hb] at ry
    refine op_in_str pins s σ H _ _ v u Q I rx ry ⟨_, _, rfl, rfl, ?_⟩
    rw [occ_one]
    exact q
  · cases hg
theorem op_notinV (hu : X.A.units + 65 < cLine) : OpB X (compareOp .NotIn) ninV := by
  intro pins s σ H x y v u Q I rx ry h
  obtain ⟨a, b, r, ha, hb, hg, q⟩ := h
  unfold ninV at hg
  simp only [Option.map_eq_some_iff] at hg
  obtain ⟨t, hg, e⟩ := hg
  subst e
  unfold inE at hg
  split at hg
  · split at hg
    · rename_i hs
      simp only [Bool.and_eq_true] at hs
      cases hg
      obtain ⟨as, r1⟩ := Dp.reads I _ x v (dp_of ha) rx
      obtain ⟨bs, r2⟩ := Dp.reads I _ y u (dp_of hb) ry
      have sh := shps_py hs.2
      refine SeqAt.notIn_tuple_reads (xs := toPys _) (by rw [toPy] at r2; exact r2) r1 (SeqAt.canLay_of_shaped sh) (SeqAt.canLay_of_shaped (shp_py hs.1)) (room_in_shaped (shp_py hs.1) hu) ?_
      rw [any_eqD]
      exact ⟨.bl _, H, I, rfl, q⟩
    · cases hg
  · split at hg
    · rename_i hs
      simp only [Bool.and_eq_true] at hs
      cases hg
      obtain ⟨as, r1⟩ := Dp.reads I _ x v (dp_of ha) rx
      obtain ⟨bs, r2⟩ := Dp.reads I _ y u (dp_list hb) ry
      have sh := shps_py hs.2
      refine SeqAt.notIn_list_reads (xs := toPys _) r2 r1 (SeqAt.canLay_of_shaped sh) (SeqAt.canLay_of_shaped (shp_py hs.1)) (room_in_shaped (shp_py hs.1) hu) ?_
      rw [any_eqD]
      exact ⟨.bl _, H, I, rfl, q⟩
    · cases hg
  · cases hg
    rw [rp_str ha] at rx
    rw [rp_str hb] at ry
    refine op_notIn_str pins s σ H _ _ v u Q I rx ry ⟨_, _, rfl, rfl, ?_⟩
    rw [occ_one]
    exact q
  · cases hg
theorem op_cmpV (hu : X.A.units + 65 < cLine) (o : CmpOp) : OpB X (compareOp o) (cmpE o) := by
  have hu' : X.A.units + 64 < cLine := by omega
  cases o with
  | Eq => exact op_eqV hu'
  | NotEq => exact op_neV hu'
  | Lt => exact op_ltV hu'
  | LtE => exact op_leV
  | Gt => exact op_gtV
  | GtE => exact op_geV
  | Is => exact op_isV
  | IsNot => exact op_isnotV
  | In => exact op_inV hu
  | NotIn => exact op_notinV hu

def IxV (X : Cx) (g : Vl → Vl → Option Vl) : Prop := IxR X fun x y H Q => ∃ a b r, RpV X.K H x a ∧ RpV X.K H y b ∧ g a b = some r ∧ Done X.K H Q r
theorem atI_rp {K : PySem.W.Frag} {H : Hp} {vs : List V} {xs : List Dt} {i : Int} {d : Dt} (h : RpDs K H vs xs) (e : atI xs i = some d) : ∃ v, atI vs i = some v ∧ RpD K H v d := by
  unfold atI at e ⊢
  rw [h.length]
  cases hx : ixN xs.length i with
  | none => rw [hx] at e; cases e
  | some j =>
    rw [hx] at e
    exact pr_get h e
theorem ix_V : IxV X ixE := by
  intro value slice pins s σ H o i ov iv Q I rx ry h hsub
  obtain ⟨a, b, r, ha, hb, hg, q⟩ := h
  unfold ixE at hg
  split at hg
  · split at hg
    · rename_i hl
      simp only [Option.map_eq_some_iff] at hg
      obtain ⟨c, hc, e⟩ := hg
      subst e
      rw [rp_str ha] at rx
      rw [rp_int hb] at ry
      exact ix_str value slice pins s σ H _ _ ov iv Q I rx ry ⟨_, _, c, rfl, rfl, by rw [str_len]; exact hl, hc, done_h q mk_str⟩ hsub
    · cases hg
  · simp only [Option.map_eq_some_iff] at hg
    obtain ⟨c, hc, e⟩ := hg
    subst e
    obtain ⟨p, vs, rfl, h2, h3⟩ := rp_tup ha
    obtain ⟨v, hv, hd⟩ := atI_rp h3 hc
    rw [rp_int hb] at ry
    exact ix_tup value slice pins s σ H _ _ ov iv Q I rx ry ⟨p, vs, _, v, rfl, rfl, h2, hv, done_h q hd⟩ hsub
  · simp only [Option.map_eq_some_iff] at hg
    obtain ⟨c, hc, e⟩ := hg
    subst e
    obtain ⟨p, vs, rfl, h2, h3⟩ := ha
    obtain ⟨v, hv, hd⟩ := atI_rp h3 hc
    rw [rp_int hb] at ry
    exact ix_list value slice pins s σ H _ _ ov iv Q I rx ry ⟨p, vs, _, v, rfl, rfl, .inl h2, hv, done_h q hd⟩ hsub
  · simp only [Option.map_eq_some_iff] at hg
    obtain ⟨c, hc, e⟩ := hg
    subst e
    obtain ⟨p, vs, rfl, h2, h3⟩ := ha
    obtain ⟨v, hv, hd⟩ := atI_rp h3 hc
    rw [rp_int hb] at ry
    exact ix_list value slice pins s σ H _ _ ov iv Q I rx ry ⟨p, vs, _, v, rfl, rfl, h2, hv, done_h q hd⟩ hsub
  · cases hg

def SlV (X : Cx) (g : Vl → Option Int → Option Int → Option Vl) : Prop := SlR X fun x lo hi H Q => ∃ a r, RpV X.K H x a ∧ g a lo hi = some r ∧ Done X.K H Q r
theorem cut_rp {K : PySem.W.Frag} {H : Hp} {vs : List V} {xs : List Dt} (h : RpDs K H vs xs) (lo hi : Option Int) : RpDs K H (cutV vs lo hi) (cutD xs lo hi) := by
  unfold cutV cutD
  rw [h.length]
  exact pr_take _ (pr_drop _ h)
theorem sl_V : SlV X slE := by
  intro pins s σ H x v vl vu lo hi sl Q I rx hs pl pu h
  obtain ⟨a, r, ha, hg, q⟩ := h
  unfold slE at hg
  split at hg
  · split at hg
    · rename_i hl
      cases hg
      rw [rp_str ha] at rx
      refine sl_str pins s σ H _ v vl vu lo hi sl Q I rx hs pl pu ⟨_, rfl, by rw [str_len]; exact hl, ?_⟩
      rename_i x
      have e : cutS ⟨x.toArray⟩ lo hi = ⟨(cutD x lo hi).toArray⟩ := by
        unfold cutS cutD
        rw [str_len]
      rw [e]
      exact done_h q mk_str
    · cases hg
  · cases hg
    obtain ⟨p, vs, rfl, h2, h3⟩ := rp_tup ha
    refine sl_tupA pins s σ H _ v vl vu lo hi sl Q I rx hs pl pu ⟨p, vs, rfl, h2, fun hw => ?_, fun _ t ht => done_t q (cut_rp h3 lo hi) ht⟩
    rename_i xs
    have e : cutD xs lo hi = xs := by
      unfold cutD
      rw [← h3.length, hw.1, hw.2, List.drop_zero, Nat.sub_zero, List.take_of_length_le (by rw [h3.length]; exact Nat.le_refl _)]
    rw [e] at q
    exact done_h q ha
  · cases hg
    obtain ⟨p, vs, rfl, h2, h3⟩ := ha
    exact sl_list pins s σ H _ v vl vu lo hi sl Q I rx hs pl pu ⟨p, vs, rfl, .inl h2, fun t ht => done_l q (cut_rp h3 lo hi) ht⟩
  · cases hg

theorem tru_V {K : PySem.W.Frag} {H : Hp} {v : V} {r : Vl} {b : Bool} (h : RpV K H v r) (e : truE r = some b) : TruV K v H b := by
  unfold truE at e
  split at e
  · rw [rp_non h]; cases e; rfl
  · rw [rp_bl h]; cases e; rfl
  · rw [rp_int h]; cases e; rfl
  · split at e
    · rename_i x hl
      rw [rp_str h]
      cases e
      refine ⟨by rw [str_len]; exact hl, ?_⟩
      rw [str_len]
      cases x <;> simp <;> omega
    · cases e
  · obtain ⟨p, vs, rfl, h2, h3⟩ := rp_tup h
    cases e
    exact .inr (.inl ⟨vs, h2, by rw [pr_empty h3]⟩)
  · obtain ⟨p, vs, rfl, h2, h3⟩ := h
    cases e
    exact .inl ⟨vs, .inl h2, by rw [pr_empty h3]⟩
  · cases e
  · cases e

def CallV (X : Cx) (f : Value) (g : List Vl → Option Vl) : Prop := CallR X f fun xs H Q => ∃ as r, RpVs X.K H xs as ∧ g as = some r ∧ Done X.K H Q r
theorem vs1 {K : PySem.W.Frag} {H : Hp} {xs : List V} {a : Vl} (h : RpVs K H xs [a]) : ∃ x, xs = [x] ∧ RpV K H x a := by
  cases h with
  | cons h t => cases t; exact ⟨_, rfl, h⟩
theorem vs2 {K : PySem.W.Frag} {H : Hp} {xs : List V} {a b : Vl} (h : RpVs K H xs [a, b]) : ∃ x y, xs = [x, y] ∧ RpV K H x a ∧ RpV K H y b := by
  cases h with
  | cons h t =>
    cases t with
    | cons h2 t => cases t; exact ⟨_, _, rfl, h, h2⟩
theorem items_lenV {K : PySem.W.Frag} {H : Hp} {v : V} {r : Vl} {xs : List Dt} (h : RpV K H v r) (e : itemsOf r = some xs) : LenV K v H xs.length := by
  obtain ⟨a, vs, rfl, h2, h3⟩ := rpV_items h e
  rcases h2 with h2 | h2
  · exact .inl ⟨vs, h2, h3.length.symm⟩
  · exact .inr ⟨vs, h2, h3.length.symm⟩
theorem c_len : CallV X (.builtin "len") lenE := by
  intro pins s σ H xs us Q I rs h
  obtain ⟨as, r, ha, hg, q⟩ := h
  unfold lenE at hg
  split at hg
  · split at hg
    · rename_i hl
      cases hg
      obtain ⟨v, rfl, hv⟩ := vs1 ha
      rw [rp_str hv] at rs
      exact call_len pins s σ H _ us Q I rs ⟨_, _, rfl, ⟨by rw [str_len]; exact hl, rfl⟩, by rw [str_len]; exact done_h q mk_int⟩
    · cases hg
  · cases hg
    obtain ⟨v, rfl, hv⟩ := vs1 ha
    obtain ⟨p, vs, rfl, h2, h3⟩ := rp_tup hv
    exact call_len pins s σ H _ us Q I rs ⟨_, _, rfl, .inr ⟨vs, h2, h3.length.symm⟩, done_h q mk_int⟩
  · cases hg
    obtain ⟨v, rfl, p, vs, rfl, h2, h3⟩ := vs1 ha
    exact call_len pins s σ H _ us Q I rs ⟨_, _, rfl, .inl ⟨vs, .inl h2, h3.length.symm⟩, done_h q mk_int⟩
  · cases hg
    obtain ⟨v, rfl, p, vs, rfl, h2, h3⟩ := vs1 ha
    exact call_len pins s σ H _ us Q I rs ⟨_, _, rfl, .inl ⟨vs, h2, h3.length.symm⟩, done_h q mk_int⟩
  · cases hg
theorem c_abs : CallV X (.builtin "abs") absE := by
  intro pins s σ H xs us Q I rs h
  obtain ⟨as, r, ha, hg, q⟩ := h
  unfold absE at hg
  split at hg
  all_goals try (cases hg; done)
  cases hg
  obtain ⟨v, rfl, hv⟩ := vs1 ha
  rw [rp_int hv] at rs
  exact call_abs pins s σ H _ us Q I rs ⟨_, rfl, done_h q mk_int⟩
theorem c_int : CallV X (.type "int") intE := by
  intro pins s σ H xs us Q I rs h
  obtain ⟨as, r, ha, hg, q⟩ := h
  unfold intE at hg
  split at hg
  all_goals try (cases hg; done)
  · cases hg
    obtain ⟨v, rfl, hv⟩ := vs1 ha
    rw [rp_int hv] at rs
    exact call_int1 pins s σ H _ us Q I rs (.inl ⟨_, rfl, done_h q mk_int⟩)
  · cases hg
    obtain ⟨v, rfl, hv⟩ := vs1 ha
    rw [rp_bl hv] at rs
    exact call_int1 pins s σ H _ us Q I rs (.inr ⟨_, rfl, done_h q mk_int⟩)
theorem c_tuple : CallV X (.type "tuple") tupleE := by
  intro pins s σ H xs us Q I rs h
  obtain ⟨as, r, ha, hg, q⟩ := h
  unfold tupleE at hg
  split at hg
  all_goals try (cases hg; done)
  rename_i a
  simp only [Option.map_eq_some_iff] at hg
  obtain ⟨ys, hy, e⟩ := hg
  subst e
  obtain ⟨v, rfl, hv⟩ := vs1 ha
  obtain ⟨p, vs, rfl, h2, h3⟩ := rpV_items hv hy
  refine call_tuple_of pins s σ H _ us Q I rs ⟨p, vs, rfl, ?_⟩
  rcases h2 with h2 | h2
  · exact .inl ⟨h2, fun l hl => done_t q h3 hl⟩
  · exact .inr ⟨h2, done_h q (mk_tup h2 h3)⟩
theorem c_list : CallV X (.type "list") listE := by
  intro pins s σ H xs us Q I rs h
  obtain ⟨as, r, ha, hg, q⟩ := h
  unfold listE at hg
  split at hg
  all_goals try (cases hg; done)
  rename_i a
  simp only [Option.map_eq_some_iff] at hg
  obtain ⟨ys, hy, e⟩ := hg
  subst e
  obtain ⟨v, rfl, hv⟩ := vs1 ha
  obtain ⟨p, vs, rfl, h2, h3⟩ := rpV_items hv hy
  exact call_list_of pins s σ H _ us Q I rs ⟨p, vs, rfl, h2, fun l hl => done_l q h3 hl⟩
theorem c_all (hc : X.calm = true) : CallV X (.builtin "all") allE := by
  intro pins s σ H xs us Q I rs h
  obtain ⟨as, r, ha, hg, q⟩ := h
  unfold allE at hg
  split at hg
  all_goals try (cases hg; done)
  simp only [Option.map_eq_some_iff] at hg
  obtain ⟨ys, hy, e⟩ := hg
  subst e
  obtain ⟨v, rfl, p, vs, rfl, h2, h3⟩ := vs1 ha
  exact cr_all hc pins s σ H _ us Q I rs ⟨p, ys, rfl, by rw [← rpDs_bools h3 hy]; exact .inl h2, done_h q mk_bl⟩
theorem c_any (hc : X.calm = true) : CallV X (.builtin "any") anyE := by
  intro pins s σ H xs us Q I rs h
  obtain ⟨as, r, ha, hg, q⟩ := h
  unfold anyE at hg
  split at hg
  all_goals try (cases hg; done)
  simp only [Option.map_eq_some_iff] at hg
  obtain ⟨ys, hy, e⟩ := hg
  subst e
  obtain ⟨v, rfl, p, vs, rfl, h2, h3⟩ := vs1 ha
  exact cr_any hc pins s σ H _ us Q I rs ⟨p, ys, rfl, by rw [← rpDs_bools h3 hy]; exact .inl h2, done_h q mk_bl⟩
end
end Ev
namespace Ev
open PySem PySem.Spec PyProof.Rows L2
section
variable {X : Cx}
theorem getD_py : ∀ (ds : List Dt) (i : Nat), (toPys ds).getD i .none = toPy (ds.getD i .non)
  | [], i => by simp [toPys, toPy]
  | d :: ds, 0 => by simp [toPys]
  | d :: ds, i + 1 => by simp [toPys]; exact getD_py ds i
theorem alikeAll_py {ds : List Dt} (h : allAlk ds = true) (h2 : noNon ds = true) : PySem.W.AlikeAll (toPys ds) := by
  rw [toPys_map]
  refine ⟨fun x hx y hy => ?_, fun x hx => ?_⟩
  · obtain ⟨a, ha, rfl⟩ := List.mem_map.mp hx
    obtain ⟨b, hb, rfl⟩ := List.mem_map.mp hy
    rw [← alk_py]
    unfold allAlk at h
    simp only [List.all_eq_true] at h
    exact h a ha b hb
  · obtain ⟨a, ha, rfl⟩ := List.mem_map.mp hx
    unfold noNon at h2
    simp only [List.all_eq_true] at h2
    have := h2 a ha
    cases a <;> simp_all [toPy]
theorem best_at (g : Dt → Dt → Bool) (x : Dt) (r : List Dt) : argBest (fun i j => g ((x :: r).getD i .non) ((x :: r).getD j .non)) r.length ≤ r.length ∧
    (x :: r)[argBest (fun i j => g ((x :: r).getD i .non) ((x :: r).getD j .non)) r.length]? = some (bestD g x r) := by
  obtain ⟨h1, h2⟩ := PySem.W.argBest_fold g Dt.non x r r.length (Nat.le_refl _)
  rw [List.take_length] at h2
  refine ⟨h1, ?_⟩
  have hlt : argBest (fun i j => g ((x :: r).getD i .non) ((x :: r).getD j .non)) r.length < (x :: r).length := by rw [List.length_cons]; omega
  rw [List.getElem?_eq_getElem hlt]
  unfold bestD
  rw [← h2, List.getD_eq_getElem?_getD, List.getElem?_eq_getElem hlt]
  rfl
theorem c_min1 (hc : X.calm = true) (hu : X.A.units + 64 < cLine) : CallV X (.builtin "min") (fun as => match as with
    | [v] => min1E v
    | _ => none) := by
  intro pins s σ H xs us Q I rs h
  obtain ⟨as, r, ha, hg, q⟩ := h
  dsimp only at hg
  split at hg
  rotate_left
  · cases hg
  unfold min1E at hg
  split at hg
  rotate_left
  · cases hg
  split at hg
  rotate_left
  · cases hg
  rename_i _ a _ x l hi hk
  simp only [Bool.and_eq_true, decide_eq_true_eq] at hk
  cases hg
  obtain ⟨v, rfl, hv⟩ := vs1 ha
  obtain ⟨p, vs, rfl, h2, h3⟩ := rpV_items hv hi
  rw [Vals.ref1 rs]
  have hal := alikeAll_py hk.1.1 hk.1.2
  have hdep : X.A.in1.units + PyData.depthAll (toPys (x :: l)) < cLine := by
    rw [deps_py]
    show X.A.units + 1 + _ < _
    omega
  obtain ⟨b1, b2⟩ := best_at ltD x l
  have ebt : (fun i j => PySem.W.dataLt ((toPys (x :: l)).getD i .none) ((toPys (x :: l)).getD j .none)) = fun i j => ltD ((x :: l).getD i .non) ((x :: l).getD j .non) := by
    funext i j
    rw [getD_py, getD_py]
    rfl
  obtain ⟨vb, hvb, hdb⟩ := pr_get h3 b2
  have fin : ∀ (its : List Value) (h' : Heap) (tk : Nat) (u : Value), Vals vs its → its.toArray[argBest (fun i j => ltD ((x :: l).getD i .non) ((x :: l).getD j .non)) (its.toArray.size - 1)]? = some u →
      (∀ b o, s.heap.get? b = some o → h'.get? b = some o) → EP X pins σ Q u { s with heap := h', toks := tk } := fun its h' tk u rv hu' hk' => by
    have e1 : its.toArray.size - 1 = l.length := by
      rw [List.size_toArray, ← rv.length, h3.length, List.length_cons]
      rfl
    rw [e1] at hu'
    obtain ⟨u2, e2, r2⟩ := rv.get hvb
    have e3 : its.toArray[argBest (fun i j => ltD ((x :: l).getD i .non) ((x :: l).getD j .non)) l.length]? = some u2 := by simpa using e2
    rw [e3] at hu'
    cases hu'
    exact ⟨vb, H, I.kept hk', r2, done_h q hdb⟩
  have hall := dpAll_mono pu_same _ _ (dpAll_of h3)
  rcases h2 with h2 | h2
  · obtain ⟨its, rv, pl, hz⟩ := I.list h2
    obtain ⟨bs, hr⟩ := Dp.readsAll I _ vs its hall rv
    have hn : its.toArray.size = l.length + 1 := by rw [List.size_toArray, ← rv.length, h3.length]; rfl
    refine PySem.call_min_walkH (PySem.W.iter_listW (A := X.A.in1) (I.ok.hd hc) pl.isList fun s₂ e W st hfp hw hk2 => ?_)
    refine ⟨_, _, _, _, _, _, _, s.heap, _, rfl, W, st, hfp, by omega, hw, hk2, PySem.W.cmpIn_lt (A := X.A.in1) (s := s) hr hal hdep, fun v s' hP m => ?_⟩
    obtain ⟨h', tk, rfl, hk'⟩ := PySem.W.moved_old e rfl m
    rw [ebt] at hP
    exact fin its h' tk v rv hP hk'
  · obtain ⟨its, rv, pl, hz⟩ := I.tuple h2
    obtain ⟨bs, hr⟩ := Dp.readsAll I _ vs its hall rv
    have hn : its.toArray.size = l.length + 1 := by rw [List.size_toArray, ← rv.length, h3.length]; rfl
    refine PySem.call_min_walkH (PySem.W.iter_tupleW (A := X.A.in1) (I.ok.hd hc) (show s.heap.IsTuple p its.toArray from pl) fun s₂ e W st hfp hw hk2 => ?_)
    refine ⟨_, _, _, _, _, _, _, s.heap, _, rfl, W, st, hfp, by omega, hw, hk2, PySem.W.cmpIn_lt (A := X.A.in1) (s := s) hr hal hdep, fun v s' hP m => ?_⟩
    obtain ⟨h', tk, rfl, hk'⟩ := PySem.W.moved_old e rfl m
    rw [ebt] at hP
    exact fin its h' tk v rv hP hk'
theorem c_max1 (hc : X.calm = true) (hu : X.A.units + 64 < cLine) : CallV X (.builtin "max") (fun as => match as with
    | [v] => max1E v
    | _ => none) := by
  intro pins s σ H xs us Q I rs h
  obtain ⟨as, r, ha, hg, q⟩ := h
  dsimp only at hg
  split at hg
  rotate_left
  · cases hg
  unfold max1E at hg
  split at hg
  rotate_left
  · cases hg
  split at hg
  rotate_left
  · cases hg
  rename_i _ a _ x l hi hk
  simp only [Bool.and_eq_true, decide_eq_true_eq] at hk
  cases hg
  obtain ⟨v, rfl, hv⟩ := vs1 ha
  obtain ⟨p, vs, rfl, h2, h3⟩ := rpV_items hv hi
  rw [Vals.ref1 rs]
  have hal := alikeAll_py hk.1.1 hk.1.2
  have hdep : X.A.in1.units + PyData.depthAll (toPys (x :: l)) < cLine := by
    rw [deps_py]
    show X.A.units + 1 + _ < _
    omega
  obtain ⟨b1, b2⟩ := best_at (fun y a => ltD a y) x l
  have ebt : (fun i j => PySem.W.dataLt ((toPys (x :: l)).getD j .none) ((toPys (x :: l)).getD i .none)) = fun i j => ltD ((x :: l).getD j .non) ((x :: l).getD i .non) := by
    funext i j
    rw [getD_py, getD_py]
    rfl
  obtain ⟨vb, hvb, hdb⟩ := pr_get h3 b2
  have fin : ∀ (its : List Value) (h' : Heap) (tk : Nat) (u : Value), Vals vs its → its.toArray[argBest (fun i j => ltD ((x :: l).getD j .non) ((x :: l).getD i .non)) (its.toArray.size - 1)]? = some u →
      (∀ b o, s.heap.get? b = some o → h'.get? b = some o) → EP X pins σ Q u { s with heap := h', toks := tk } := fun its h' tk u rv hu' hk' => by
    have e1 : its.toArray.size - 1 = l.length := by
      rw [List.size_toArray, ← rv.length, h3.length, List.length_cons]
      rfl
    rw [e1] at hu'
    obtain ⟨u2, e2, r2⟩ := rv.get hvb
    have e3 : its.toArray[argBest (fun i j => ltD ((x :: l).getD j .non) ((x :: l).getD i .non)) l.length]? = some u2 := by simpa using e2
    rw [e3] at hu'
    cases hu'
    exact ⟨vb, H, I.kept hk', r2, done_h q hdb⟩
  have hall := dpAll_mono pu_same _ _ (dpAll_of h3)
  rcases h2 with h2 | h2
  · obtain ⟨its, rv, pl, hz⟩ := I.list h2
    obtain ⟨bs, hr⟩ := Dp.readsAll I _ vs its hall rv
    have hn : its.toArray.size = l.length + 1 := by rw [List.size_toArray, ← rv.length, h3.length]; rfl
    refine PySem.call_max_walkH (PySem.W.iter_listW (A := X.A.in1) (I.ok.hd hc) pl.isList fun s₂ e W st hfp hw hk2 => ?_)
    refine ⟨_, _, _, _, _, _, _, s.heap, _, rfl, W, st, hfp, by omega, hw, hk2, PySem.W.cmpIn_gt (A := X.A.in1) (s := s) hr hal hdep, fun v s' hP m => ?_⟩
    obtain ⟨h', tk, rfl, hk'⟩ := PySem.W.moved_old e rfl m
    rw [ebt] at hP
    exact fin its h' tk v rv hP hk'
  · obtain ⟨its, rv, pl, hz⟩ := I.tuple h2
    obtain ⟨bs, hr⟩ := Dp.readsAll I _ vs its hall rv
    have hn : its.toArray.size = l.length + 1 := by rw [List.size_toArray, ← rv.length, h3.length]; rfl
    refine PySem.call_max_walkH (PySem.W.iter_tupleW (A := X.A.in1) (I.ok.hd hc) (show s.heap.IsTuple p its.toArray from pl) fun s₂ e W st hfp hw hk2 => ?_)
    refine ⟨_, _, _, _, _, _, _, s.heap, _, rfl, W, st, hfp, by omega, hw, hk2, PySem.W.cmpIn_gt (A := X.A.in1) (s := s) hr hal hdep, fun v s' hP m => ?_⟩
    obtain ⟨h', tk, rfl, hk'⟩ := PySem.W.moved_old e rfl m
    rw [ebt] at hP
    exact fin its h' tk v rv hP hk'
theorem c_min (hc : X.calm = true) (hu : X.A.units + 64 < cLine) : CallV X (.builtin "min") minE := by
  intro pins s σ H xs us Q I rs h
  obtain ⟨as, r, ha, hg, q⟩ := h
  unfold minE at hg
  split at hg
  all_goals try (cases hg; done)
  · exact c_min1 hc hu pins s σ H xs us Q I rs ⟨_, r, ha, hg, q⟩
  · cases hg
    obtain ⟨v, w, rfl, hv, hw⟩ := vs2 ha
    rw [rp_int hv, rp_int hw] at rs
    exact call_min2 hc pins s σ H _ us Q I rs ⟨_, _, rfl, done_h q mk_int⟩
theorem c_max (hc : X.calm = true) (hu : X.A.units + 64 < cLine) : CallV X (.builtin "max") maxE := by
  intro pins s σ H xs us Q I rs h
  obtain ⟨as, r, ha, hg, q⟩ := h
  unfold maxE at hg
  split at hg
  all_goals try (cases hg; done)
  · exact c_max1 hc hu pins s σ H xs us Q I rs ⟨_, r, ha, hg, q⟩
  · cases hg
    obtain ⟨v, w, rfl, hv, hw⟩ := vs2 ha
    rw [rp_int hv, rp_int hw] at rs
    exact call_max2 hc pins s σ H _ us Q I rs ⟨_, _, rfl, done_h q mk_int⟩
end
end Ev
namespace Ev
open PySem PySem.Spec PyProof.Rows L2
section
variable {X : Cx}
theorem preSum_getD (ns : List Int) : ∀ j, j ≤ ns.length → preSum (fun i => ns.getD i 0) j = (ns.take j).sum
  | 0, _ => by simp [preSum]
  | j + 1, h => by
    have hj : j < ns.length := h
    rw [preSum, preSum_getD ns j (by omega), List.take_add_one, List.sum_append, List.getElem?_eq_getElem hj, List.getD_eq_getElem?_getD, List.getElem?_eq_getElem hj]
    simp
theorem c_sum (hc : X.calm = true) : CallV X (.builtin "sum") sumE := by
  intro pins s σ H xs us Q I rs h
  obtain ⟨as, r, ha, hg, q⟩ := h
  unfold sumE at hg
  split at hg
  · rename_i a
    simp only [bind, Option.bind_eq_some_iff] at hg
    obtain ⟨ds, hi, ns, hn, e⟩ := hg
    cases e
    obtain ⟨v, rfl, hv⟩ := vs1 ha
    obtain ⟨p, vs, rfl, h2, h3⟩ := rpV_items hv hi
    rw [Vals.ref1 rs]
    have evs := rpDs_ints h3 hn
    subst evs
    rcases h2 with h2 | h2
    · obtain ⟨its, rv, hl, _⟩ := I.list h2
      exact sum_raw (I.ok.hd hc) hl.isList rv.ints fun h' tk t' hk => ⟨.int _, H, I.kept hk, ⟨_, rfl⟩, done_h q mk_int⟩
    · obtain ⟨its, rv, hl, _⟩ := I.tuple h2
      have hints := rv.ints
      have hlen : its.toArray.size = ns.length := by rw [List.size_toArray, ← rv.length, List.length_map]
      refine PySem.call_sum_walkAnyS (PySem.W.iter_tupleW (A := X.A.in1) (I.ok.hd hc) (show s.heap.IsTuple p its.toArray from hl) fun s₂ e W st hfp hw hk2 => ?_)
      refine ⟨_, _, _, _, _, _, _, fun i => ns.getD i 0, rfl, W, st, hfp, fun i v hv => ?_, fun s' t' m => ?_⟩
      · obtain ⟨hi', he⟩ := Array.getElem?_eq_some_iff.mp hv
        have hi2 : i < ns.length := by omega
        obtain ⟨t, ht⟩ := hints.get i ns[i] (List.getElem?_eq_getElem hi2)
        have e2 : its[i]? = some v := by rw [← hv]; simp
        rw [e2] at ht
        refine ⟨t, ?_⟩
        show v = Value.int (ns.getD i 0) t
        rw [List.getD_eq_getElem?_getD, List.getElem?_eq_getElem hi2]
        exact Option.some.inj ht
      · obtain ⟨h', tk, rfl, hk'⟩ := PySem.W.moved_old e rfl m
        refine ⟨.int ns.sum, H, I.kept hk', ⟨t', ?_⟩, done_h q mk_int⟩
        rw [hlen, preSum_getD ns _ (Nat.le_refl _), List.take_length]
  · cases hg
theorem allAlk_py {ds : List Dt} (h : allAlk ds = true) : PySem.W.AllAlike (ds.map toPy) := fun x hx y hy => by
  obtain ⟨a, ha, rfl⟩ := List.mem_map.mp hx
  obtain ⟨b, hb, rfl⟩ := List.mem_map.mp hy
  rw [← alk_py]
  unfold allAlk at h
  simp only [List.all_eq_true] at h
  exact h a ha b hb
theorem sortOk_py {ds : List Dt} (h : sortOk ds = true) : PySem.W.Sortable (ds.map toPy) := by
  unfold sortOk at h
  rw [Bool.or_eq_true] at h
  rcases h with h | h
  · left
    intro d hd
    obtain ⟨a, ha, rfl⟩ := List.mem_map.mp hd
    have := (List.all_eq_true.mp h) a ha
    split at this
    · rename_i x r
      exact ⟨toPy x, toPys r, by simp [toPy, toPys]⟩
    · cases this
  · right
    intro d hd
    obtain ⟨a, ha, rfl⟩ := List.mem_map.mp hd
    have := (List.all_eq_true.mp h) a ha
    cases a <;> simp_all [toPy]
theorem dep_mem : ∀ {ds : List Dt} {d : Dt}, d ∈ ds → dep d ≤ deps ds
  | x :: xs, d, h => by
    rcases List.mem_cons.mp h with e | h
    · subst e
      unfold deps
      omega
    · have := dep_mem h
      unfold deps
      omega
/-- values with their data -/
theorem zip_each {K : PySem.W.Frag} {H : Hp} : ∀ {vs : List V} {us : List Value} {ds : List Dt}, Vals vs us → RpDs K H vs ds → PySem.W.EachIs (fun u (b : V × Dt) => RelV b.1 u) us (vs.zip ds)
  | _, _, _, .nil, .nil => .nil
  | _, _, _, .cons r t, .cons r2 t2 => .cons r (zip_each t t2)
theorem each_vals : ∀ {us : List Value} {bs : List (V × Dt)}, PySem.W.EachIs (fun u (b : V × Dt) => RelV b.1 u) us bs → Vals (bs.map (·.1)) us
  | _, _, .nil => .nil
  | _, _, .cons r t => .cons r (each_vals t)
theorem pr_zip {α β : Type} {F : α → β → Prop} : ∀ {xs : List α} {ys : List β}, Paired F xs ys → ∀ p ∈ xs.zip ys, F p.1 p.2
  | _, _, .nil, p, h => by simp at h
  | _, _, .cons r t, p, h => by
    rw [List.zip_cons_cons] at h
    rcases List.mem_cons.mp h with e | h
    · subst e; exact r
    · exact pr_zip t p h
theorem pr_of_mem {α β : Type} {F : α → β → Prop} : ∀ {bs : List (α × β)}, (∀ p ∈ bs, F p.1 p.2) → Paired F (bs.map (·.1)) (bs.map (·.2))
  | [], _ => .nil
  | b :: bs, h => .cons (h b List.mem_cons_self) (pr_of_mem fun p hp => h p (List.mem_cons_of_mem _ hp))
theorem zip_snd {α β : Type} : ∀ {xs : List α} {ys : List β}, xs.length = ys.length → (xs.zip ys).map (·.2) = ys
  | [], [], _ => rfl
  | x :: xs, y :: ys, h => by
    rw [List.zip_cons_cons, List.map_cons, zip_snd (by simpa using h)]
  | [], _ :: _, h => by simp at h
  | _ :: _, [], h => by simp at h
theorem c_sorted (hu : X.A.units + 100 < cLine) : CallV X (.builtin "sorted") sortedE := by
  intro pins s σ H xs us Q I rs h
  obtain ⟨as, r, ha, hg, q⟩ := h
  unfold sortedE at hg
  split at hg
  · split at hg
    · rename_i ds hk
      simp only [Bool.and_eq_true, decide_eq_true_eq] at hk
      cases hg
      obtain ⟨v, rfl, p, vs, rfl, h2, h3⟩ := vs1 ha
      rw [Vals.ref1 rs]
      obtain ⟨its, rv, hl, _⟩ := I.list (.inl h2)
      have hlen := h3.length
      have hmap : (vs.zip ds).map (fun b => toPy b.2) = ds.map toPy := by
        have e : ∀ l : List (V × Dt), l.map (fun b => toPy b.2) = (l.map (·.2)).map toPy := fun l => by rw [List.map_map]; rfl
        rw [e, zip_snd hlen]
      have hdp : ∀ b ∈ vs.zip ds, RpD X.K H b.1 b.2 := pr_zip h3
      have her : PySem.W.EachIs (fun u (b : V × Dt) => ∃ as, Reads s.heap u (toPy b.2) as) its (vs.zip ds) :=
        (PySem.W.each_mem (zip_each rv h3)).mono fun u b ⟨r1, hb⟩ => Dp.reads I _ b.1 u (dp_of (hdp b hb)) r1
      refine PySem.W.sorted_data (β := V × Dt) (enc := fun b => toPy b.2) hl.isList (zip_each rv h3) her (by rw [hmap]; exact allAlk_py hk.1.1.1) (by rw [hmap]; exact sortOk_py hk.1.1.2)
        (by rw [List.length_zip]; omega) (fun b hb => ?_) fun out hol ho => ?_
      · rw [dep_py]
        have := dep_mem (List.of_mem_zip hb).2
        omega
      · have hsz : out.length ≤ sizeLine := by rw [hol, List.length_zip]; omega
        obtain ⟨ep, he'⟩ := PyProof.Rows.sortedAll_at s.heap its out.toArray
        have hv := each_vals ho
        have hsnd : ((vs.zip ds).mergeSort (PySem.W.dataLe false fun b => toPy b.2)).map (·.2) = sortD ds := by
          unfold sortD
          have e := PySem.W.sort_maps (r := PySem.W.dataLe false fun b : V × Dt => toPy b.2) (s := PySem.W.dataLe false toPy) (fun b : V × Dt => b.2) (l := vs.zip ds) (fun a _ b _ => rfl)
          rw [zip_snd hlen] at e
          exact e
        have hpr : RpDs X.K H (((vs.zip ds).mergeSort (PySem.W.dataLe false fun b => toPy b.2)).map (·.1)) (sortD ds) := by
          rw [← hsnd]
          exact pr_of_mem fun b hb => hdp b (List.mem_mergeSort.mp hb)
        refine ⟨.ref _, _, I.laid (t' := s.toks) (o := .lst (((vs.zip ds).mergeSort (PySem.W.dataLe false fun b => toPy b.2)).map (·.1))) (fun _ _ => PyProof.Rows.sortedAll_old) (Nat.le_succ _) ⟨by rw [hv.length]; exact hsz, out, ep, hv, he'⟩, rfl, done_l q hpr (I.hok.fresh (Nat.le_succ _))⟩
    · cases hg
  · cases hg

def MeV (X : Cx) (id : String) (g : Vl → List Vl → Option Vl) : Prop := MtR X id fun x xs H Q => ∃ a as r, RpV X.K H x a ∧ RpVs X.K H xs as ∧ g a as = some r ∧ Done X.K H Q r
theorem joinL_nil : ∀ ts : List (List Nat), TL.joinL [] ts = ts.flatten
  | [] => rfl
  | [p] => by simp [TL.joinL]
  | p :: q :: r => by
    show p ++ ([] ++ TL.joinL [] (q :: r)) = _
    rw [joinL_nil (q :: r), List.nil_append, List.flatten_cons, List.flatten_cons, List.flatten_cons]
theorem map_tl_mk (ts : List (List Nat)) : (ts.map fun x => (⟨x.toArray⟩ : Str)).map TL.tl = ts := by
  rw [List.map_map]
  exact List.map_id' _
theorem join_flat (ts : List (List Nat)) : Txt.join (⟨([] : List Nat).toArray⟩ : Str) (ts.map fun x => (⟨x.toArray⟩ : Str)) = ⟨ts.flatten.toArray⟩ := by
  rw [TL.join_eq]
  apply TL.ext_tl
  rw [TL.tl_join, map_tl_mk, TL.tl_mk, TL.tl_mk, joinL_nil]
theorem flat_len : ∀ ts : List (List Nat), ((ts.map fun x => (⟨x.toArray⟩ : Str)).map (·.length)).sum = ts.flatten.length
  | [] => rfl
  | t :: ts => by
    rw [List.map_cons, List.map_cons, List.sum_cons, flat_len ts, List.flatten_cons, List.length_append, str_len]
theorem m_join : MeV X "str.join" joinE := by
  intro pins s σ H x xs v us Q I rx rs h
  obtain ⟨a, as, r, ha, has, hg, q⟩ := h
  unfold joinE at hg
  split at hg
  · rename_i sep l
    simp only [bind, Option.bind_eq_some_iff] at hg
    obtain ⟨ts, ht, hg⟩ := hg
    split at hg
    · rename_i hk
      obtain ⟨h1, h2⟩ := hk
      cases hg
      subst h1
      obtain ⟨w, rfl, p, vs, rfl, hp, hd⟩ := vs1 has
      have evs := rpDs_strs hd ht
      subst evs
      rw [rp_str ha] at rx
      refine mt_join pins s σ H _ _ v us Q I rx rs ⟨_, p, _, rfl, rfl, .inl (.inl hp), ?_, ?_⟩
      · rw [flat_len, str_len, List.length_nil, Nat.mul_zero, Nat.add_zero]
        exact h2
      · rw [join_flat]
        exact done_h q mk_str
    · cases hg
  · cases hg
theorem cnt_filter (c : Nat) : ∀ x : List Nat, PyProof.Rows.cnt c x = ((x.filter (· = c)).length : Int)
  | [] => rfl
  | n :: r => by
    rw [PyProof.Rows.cnt_cons, cnt_filter c r, List.filter_cons]
    by_cases h : n = c
    · rw [if_pos h, if_pos (by simpa using h), List.length_cons]
      omega
    · rw [if_neg h, if_neg (by simpa using h)]
      omega
theorem m_count : MeV X "str.count" countE := by
  intro pins s σ H x xs v us Q I rx rs h
  obtain ⟨a, as, r, ha, has, hg, q⟩ := h
  unfold countE at hg
  split at hg
  · split at hg
    · rename_i hl
      cases hg
      obtain ⟨w, rfl, hw⟩ := vs1 has
      rw [rp_str ha] at rx
      rw [rp_str hw] at rs
      refine mt_count pins s σ H _ _ v us Q I rx rs ⟨_, _, rfl, rfl, ?_⟩
      rename_i x c
      have e : Txt.count ⟨x.toArray⟩ ⟨[c].toArray⟩ = ((x.filter (· = c)).length : Int) := by
        rw [show (⟨[c].toArray⟩ : Str) = ⟨#[c]⟩ from rfl, PyProof.Rows.count_cnt]
        exact cnt_filter c x
      rw [e]
      exact done_h q mk_int
    · cases hg
  · cases hg
end
end Ev
namespace Ev
open PySem PySem.Spec PyProof.Rows L2
/-- the slots' values, as they stand -/
def SRep (K : PySem.W.Frag) (σ : L2.St) (H : Hp) (δ : Env) : Prop := ∀ (i : Nat) (r : Vl), δ[i]? = some (some r) → ∃ v, σ[i]? = some (some v) ∧ RpV K H v r
theorem SRep.mono {K : PySem.W.Frag} {σ : L2.St} {H H' : Hp} {δ : Env} (e : Same H H') (h : SRep K σ H δ) : SRep K σ H' δ := fun i r hi =>
  let ⟨v, h1, h2⟩ := h i r hi
  ⟨v, h1, h2.mono e⟩
/-- where a value comes from -/
def Org (K : PySem.W.Frag) (c : E) (σ : L2.St) (H H' : Hp) (v : V) (r : Vl) : Prop := (fr c = true → FR K H H' v r) ∧ ∀ i : Nat, asVar c = some i → σ[i]? = some (some v)
section
variable (K : PySem.W.Frag) (cf : Nat → List Vl → Option Vl)
def T (c : E) : TE := fun σ H Q => ∃ δ, SRep K σ H δ ∧ ∃ r, evE cf c δ = some r ∧ ∀ v H', Same H H' → RpV K H' v r → Org K c σ H H' v r → Q v H'
def TT' (c : E) : TT := fun σ H Q => ∃ δ, SRep K σ H δ ∧ ∃ r, evE cf c δ = some r ∧ ∃ b, truE r = some b ∧ ∀ H', Same H H' → Q b H'
def TA' (c : Es) : TA := fun σ H Q => ∃ δ, SRep K σ H δ ∧ ∃ r, evEs cf c δ = some r ∧ ∀ vs H', Same H H' → RpVs K H' vs r → Q vs H'
def TO' (c : Oe) : TO := fun σ H Q => ∃ δ, SRep K σ H δ ∧ ∃ r, evO cf c δ = some r ∧ ∀ H', Same H H' → Q r H'
end
theorem PE.imp {X : Cx} {e : Expr} {t t' : TE} (h : PE X e t) (i : ∀ σ H Q, t' σ H Q → t σ H Q) : PE X e t' := ⟨fun pins s σ H Q I q => h.run pins s σ H Q I (i _ _ _ q)⟩
theorem PT.imp {X : Cx} {e : Expr} {t t' : TT} (h : PT X e t) (i : ∀ σ H Q, t' σ H Q → t σ H Q) : PT X e t' := ⟨fun pins s σ H Q I q => h.run pins s σ H Q I (i _ _ _ q)⟩
theorem PW.imp {X : Cx} {e : Expr} {t t' : TT} (h : PW X e t) (i : ∀ σ H Q, t' σ H Q → t σ H Q) : PW X e t' := ⟨fun wh pins s σ H Q I q => h.run wh pins s σ H Q I (i _ _ _ q)⟩
theorem PA.imp {X : Cx} {e : List Expr} {t t' : TA} (h : PA X e t) (i : ∀ σ H Q, t' σ H Q → t σ H Q) : PA X e t' := ⟨fun pos pins s σ H Q I q => h.run pos pins s σ H Q I (i _ _ _ q)⟩
theorem PO.imp {X : Cx} {e : Option Expr} {t t' : TO} (h : PO X e t) (i : ∀ σ H Q, t' σ H Q → t σ H Q) : PO X e t' := ⟨fun pins s σ H Q I q => h.run pins s σ H Q I (i _ _ _ q)⟩
theorem org_fr {K : PySem.W.Frag} {c : E} {σ : L2.St} {H H' : Hp} {v : V} {r : Vl} (h : FR K H H' v r) (hv : asVar c = none) : Org K c σ H H' v r := ⟨fun _ => h, fun i e => by rw [hv] at e; cases e⟩
theorem org_no {K : PySem.W.Frag} {c : E} {σ : L2.St} {H H' : Hp} {v : V} {r : Vl} (h : fr c = false) (hv : asVar c = none) : Org K c σ H H' v r :=
  ⟨fun e => (Bool.noConfusion (h.symm.trans e)), fun i e => by rw [hv] at e; cases e⟩
/-- a value that needs no heap -/
theorem done_of {K : PySem.W.Frag} {c : E} {σ : L2.St} {H H0 : Hp} {Q : VK} {r : Vl} (q : ∀ v H', Same H0 H' → RpV K H' v r → Org K c σ H0 H' v r → Q v H') (e : Same H0 H) (hv : asVar c = none) : Done K H Q r :=
  fun v H' s h f => q v H' (e.trans s) h (org_fr (f.old e) hv)

section
variable {X : Cx} {cf : Nat → List Vl → Option Vl} {pos : Pos}
end
section
variable {X : Cx} {cf : Nat → List Vl → Option Vl} {pos : Pos}
abbrev SE (X : Cx) (cf : Nat → List Vl → Option Vl) (e : Expr) (c : E) : Prop := PE X e (T X.K cf c)
abbrev ST (X : Cx) (cf : Nat → List Vl → Option Vl) (e : Expr) (c : E) : Prop := PT X e (TT' X.K cf c)
abbrev SA (X : Cx) (cf : Nat → List Vl → Option Vl) (e : List Expr) (c : Es) : Prop := PA X e (TA' X.K cf c)

theorem s_var {i : Nat} {x : Str} (hN : X.N[i]? = some x) (hv : Vis X.env.scope x) (hd : (x == ("__debug__" : Str)) = false) (hcd : (x == ("__classdict__" : Str)) = false) : SE X cf (.Name x pos) (.var i) := by
  refine PE.imp (pe_var hN hv hd hcd) fun σ H Q ⟨δ, hS, r, he, q⟩ => ?_
  simp only [evE] at he
  have e2 : δ[i]? = some (some r) := by
    cases hx : δ[i]? with
    | none => rw [hx] at he; cases he
    | some o => rw [hx] at he; simp [Option.join] at he; rw [he]
  obtain ⟨v, h1, h2⟩ := hS i r e2
  exact ⟨v, h1, q v H (Same.refl H) h2 ⟨fun e => by simp [fr] at e, fun j e => by simp [asVar] at e; subst e; exact h1⟩⟩
theorem s_con {e : Expr} {d : Dt} {v : V} (h : PE X e (tC v)) (hr : ∀ H, RpD X.K H v d) : SE X cf e (.con d) := by
  refine PE.imp h fun σ H Q ⟨δ, hS, r, he, q⟩ => ?_
  simp only [evE] at he
  cases he
  exact q v H (Same.refl H) (hr H) ⟨fun _ => trivial, fun j e => by simp [asVar] at e⟩
variable {a b c : Expr} {ca cb cc : E}
theorem s_bin {o : Operator} (ha : SE X cf a ca) (hb : SE X cf b cb) : SE X cf (.BinOp a o b pos) (.bin o ca cb) := by
  refine PE.imp (pe_op (op_binV o) ha hb) fun σ H Q ⟨δ, hS, r, he, q⟩ => ?_
  simp only [evE, bind, Option.bind_eq_some_iff] at he
  obtain ⟨x, hx, y, hy, hg⟩ := he
  exact ⟨δ, hS, x, hx, fun v1 H1 s1 r1 _ => ⟨δ, hS.mono s1, y, hy, fun v2 H2 s2 r2 _ => ⟨x, y, r, r1.mono s2, r2, hg, done_of q (s1.trans s2) rfl⟩⟩⟩
theorem un_negV : UnR X (unaryOp .USub) (fun x H Q => ∃ a r, RpV X.K H x a ∧ negE a = some r ∧ Done X.K H Q r) := by
  intro pins s σ H x v Q I rx h
  obtain ⟨a, r, ha, hg, q⟩ := h
  unfold negE at hg
  split at hg
  · cases hg
    rw [rp_int ha] at rx
    exact un_neg pins s σ H _ v Q I rx ⟨_, rfl, done_h q mk_int⟩
  · cases hg
theorem s_neg (ha : SE X cf a ca) : SE X cf (.UnaryOp .USub a pos) (.neg ca) := by
  refine PE.imp (pe_un un_negV ha) fun σ H Q ⟨δ, hS, r, he, q⟩ => ?_
  simp only [evE, bind, Option.bind_eq_some_iff] at he
  obtain ⟨x, hx, hg⟩ := he
  exact ⟨δ, hS, x, hx, fun v1 H1 s1 r1 _ => ⟨x, r, r1, hg, done_of q s1 rfl⟩⟩
theorem cmp_imp {o : CmpOp} {σ : L2.St} {H : Hp} {Q : VK} (h : T X.K cf (.cmp o ca cb) σ H Q) :
    tOp (fun x y H Q => ∃ a b r, RpV X.K H x a ∧ RpV X.K H y b ∧ cmpE o a b = some r ∧ Q (.bl r) H) (T X.K cf ca) (T X.K cf cb) σ H Q := by
  obtain ⟨δ, hS, r, he, q⟩ := h
  simp only [evE, bind, Option.bind_eq_some_iff] at he
  obtain ⟨x, hx, y, hy, t, hg, e⟩ := he
  cases e
  exact ⟨δ, hS, x, hx, fun v1 H1 s1 r1 _ => ⟨δ, hS.mono s1, y, hy, fun v2 H2 s2 r2 _ => ⟨x, y, t, r1.mono s2, r2, hg, done_h (done_of q (s1.trans s2) rfl) mk_bl⟩⟩⟩
theorem s_cmp {o : CmpOp} (hu : X.A.units + 65 < cLine) (ha : SE X cf a ca) (hb : SE X cf b cb) (hm : behindInMarks o b = false) : SE X cf (.Compare a [o] [b] pos) (.cmp o ca cb) :=
  PE.imp (pe_cmpR (op_cmpV hu o) ha hb hm) fun σ H Q h => cmp_imp h
/-- a test that is a bool -/
theorem tt_T {σ : L2.St} {H : Hp} {Q : Bool → Hp → Prop} (h : TT' X.K cf ca σ H Q) (hb : ∀ δ r, evE cf ca δ = some r → ∃ b, r = .h (.bl b)) : T X.K cf ca σ H fun x H' => ∃ k, x = .bl k ∧ Q k H' := by
  obtain ⟨δ, hS, r, he, b, ht, q⟩ := h
  obtain ⟨k, rfl⟩ := hb δ r he
  cases ht
  exact ⟨δ, hS, _, he, fun v H' s hv _ => ⟨b, rp_bl hv, q H' s⟩⟩
theorem cmp_bool {o : CmpOp} (δ : Env) (r : Vl) (he : evE cf (.cmp o ca cb) δ = some r) : ∃ b, r = .h (.bl b) := by
  simp only [evE, bind, Option.bind_eq_some_iff] at he
  obtain ⟨x, hx, y, hy, t, hg, e⟩ := he
  cases e
  exact ⟨t, rfl⟩
theorem st_cmp {o : CmpOp} (hu : X.A.units + 65 < cLine) (ha : SE X cf a ca) (hb : SE X cf b cb) (hm : behindInMarks o b = false) : ST X cf (.Compare a [o] [b] pos) (.cmp o ca cb) :=
  PT.imp (pt_cmpR (op_cmpV hu o) ha hb hm) fun σ H Q h => cmp_imp (tt_T h cmp_bool)
theorem cmp2_imp {o p : CmpOp} {σ : L2.St} {H : Hp} {Q : VK} (h : T X.K cf (.cmp2 o p ca cb cc) σ H Q) :
    tChain (fun x y H Q => ∃ a b r, RpV X.K H x a ∧ RpV X.K H y b ∧ cmpE o a b = some r ∧ Q (.bl r) H) (fun x y H Q => ∃ a b r, RpV X.K H x a ∧ RpV X.K H y b ∧ cmpE p a b = some r ∧ Q (.bl r) H) (T X.K cf ca) (T X.K cf cb) (T X.K cf cc) σ H Q := by
  obtain ⟨δ, hS, r, he, q⟩ := h
  simp only [evE, bind, Option.bind_eq_some_iff] at he
  obtain ⟨x, hx, y, hy, t, hg, e⟩ := he
  refine ⟨δ, hS, x, hx, fun v1 H1 s1 r1 _ => ⟨δ, hS.mono s1, y, hy, fun v2 H2 s2 r2 _ => ⟨x, y, t, r1.mono s2, r2, hg, t, rfl, ?_⟩⟩⟩
  cases t with
  | true =>
    simp only [if_true, Option.bind_eq_some_iff] at e ⊢
    obtain ⟨z, hz, s, hg2, e⟩ := e
    cases e
    exact ⟨δ, hS.mono (s1.trans s2), z, hz, fun v3 H3 s3 r3 _ => ⟨y, z, s, r2.mono s3, r3, hg2, done_h (done_of q (s1.trans (s2.trans s3)) rfl) mk_bl⟩⟩
  | false =>
    simp at e
    subst e
    exact done_h (done_of q (s1.trans s2) rfl) mk_bl
theorem cmp2_bool {o p : CmpOp} (δ : Env) (r : Vl) (he : evE cf (.cmp2 o p ca cb cc) δ = some r) : ∃ b, r = .h (.bl b) := by
  simp only [evE, bind, Option.bind_eq_some_iff] at he
  obtain ⟨x, hx, y, hy, t, hg, e⟩ := he
  cases t with
  | true =>
    simp only [if_true, Option.bind_eq_some_iff] at e
    obtain ⟨z, hz, s, hg2, e⟩ := e
    cases e
    exact ⟨s, rfl⟩
  | false =>
    simp at e
    exact ⟨false, e.symm⟩
theorem s_cmp2 {o p : CmpOp} (hu : X.A.units + 65 < cLine) (ha : SE X cf a ca) (hb : SE X cf b cb) (hc : SE X cf c cc) (hm : lastMarks [o, p] [b, c] = false) : SE X cf (.Compare a [o, p] [b, c] pos) (.cmp2 o p ca cb cc) :=
  PE.imp (pe_chain (op_cmpV hu o) (op_cmpV hu p) ha hb hc hm) fun σ H Q h => cmp2_imp h
theorem st_cmp2 {o p : CmpOp} (hu : X.A.units + 65 < cLine) (ha : SE X cf a ca) (hb : SE X cf b cb) (hc : SE X cf c cc) (hm : lastMarks [o, p] [b, c] = false) : ST X cf (.Compare a [o, p] [b, c] pos) (.cmp2 o p ca cb cc) :=
  PT.imp (pt_chain (op_cmpV hu o) (op_cmpV hu p) ha hb hc hm) fun σ H Q h => cmp2_imp (tt_T h cmp2_bool)
theorem st_plain {e : Expr} (h : SE X cf e ca) (he : ∀ whole, isTrue e X.env whole = (do let v ← whole; standAt e.pos; holding [v] (truthy v))) : ST X cf e ca :=
  PT.imp (pt_truth h he) fun σ H Q ⟨δ, hS, r, he, b, ht, q⟩ => ⟨δ, hS, r, he, fun v H' s hv _ => ⟨b, tru_V hv ht, q H' s⟩⟩
theorem s_and {rest : List Expr} (ha : SE X cf a ca) (hb : SE X cf (.BoolOp .And (b :: rest) pos) cb) : SE X cf (.BoolOp .And (a :: b :: rest) pos) (.and ca cb) := by
  refine PE.imp (pe_andT ha hb) fun σ H Q ⟨δ, hS, r, he, q⟩ => ?_
  simp only [evE, bind, Option.bind_eq_some_iff] at he
  obtain ⟨x, hx, t, ht, e⟩ := he
  refine ⟨δ, hS, x, hx, fun v1 H1 s1 r1 _ => ⟨t, tru_V r1 ht, ?_⟩⟩
  cases t with
  | true =>
    simp only [if_true] at e ⊢
    exact ⟨δ, hS.mono s1, r, e, fun v2 H2 s2 r2 _ => q v2 H2 (s1.trans s2) r2 (org_no rfl rfl)⟩
  | false =>
    simp at e ⊢
    subst e
    exact q v1 H1 s1 r1 (org_no rfl rfl)
theorem s_or {rest : List Expr} (ha : SE X cf a ca) (hb : SE X cf (.BoolOp .Or (b :: rest) pos) cb) : SE X cf (.BoolOp .Or (a :: b :: rest) pos) (.or ca cb) := by
  refine PE.imp (pe_orT ha hb) fun σ H Q ⟨δ, hS, r, he, q⟩ => ?_
  simp only [evE, bind, Option.bind_eq_some_iff] at he
  obtain ⟨x, hx, t, ht, e⟩ := he
  refine ⟨δ, hS, x, hx, fun v1 H1 s1 r1 _ => ⟨t, tru_V r1 ht, ?_⟩⟩
  cases t with
  | false =>
    simp at e ⊢
    exact ⟨δ, hS.mono s1, r, e, fun v2 H2 s2 r2 _ => q v2 H2 (s1.trans s2) r2 (org_no rfl rfl)⟩
  | true =>
    simp at e ⊢
    subst e
    exact q v1 H1 s1 r1 (org_no rfl rfl)
theorem s_one {op} (ha : SE X cf a ca) : SE X cf (.BoolOp op [a] pos) ca := pe_one ha
abbrev SW (X : Cx) (cf : Nat → List Vl → Option Vl) (e : Expr) (c : E) : Prop := PW X e (TT' X.K cf c)
theorem sw_one_and (ha : ST X cf a ca) : SW X cf (.BoolOp .And [a] pos) ca := pw_and1 ha
theorem sw_one_or (ha : ST X cf a ca) : SW X cf (.BoolOp .Or [a] pos) ca := pw_or1 ha
theorem sw_and {rest : List Expr} (ha : ST X cf a ca) (hb : SW X cf (.BoolOp .And (b :: rest) pos) cb) : SW X cf (.BoolOp .And (a :: b :: rest) pos) (.and ca cb) := by
  refine PW.imp (pw_and ha hb) fun σ H Q ⟨δ, hS, r, he, k, hk, q⟩ => ?_
  simp only [evE, bind, Option.bind_eq_some_iff] at he
  obtain ⟨x, hx, t, ht, e⟩ := he
  refine ⟨δ, hS, x, hx, t, ht, fun H1 s1 => ?_⟩
  cases t with
  | true =>
    simp only [if_true] at e ⊢
    exact ⟨δ, hS.mono s1, r, e, k, hk, fun H2 s2 => q H2 (s1.trans s2)⟩
  | false =>
    simp at e ⊢
    subst e
    rw [ht] at hk
    cases hk
    exact q H1 s1
theorem sw_or {rest : List Expr} (ha : ST X cf a ca) (hb : SW X cf (.BoolOp .Or (b :: rest) pos) cb) : SW X cf (.BoolOp .Or (a :: b :: rest) pos) (.or ca cb) := by
  refine PW.imp (pw_or ha hb) fun σ H Q ⟨δ, hS, r, he, k, hk, q⟩ => ?_
  simp only [evE, bind, Option.bind_eq_some_iff] at he
  obtain ⟨x, hx, t, ht, e⟩ := he
  refine ⟨δ, hS, x, hx, t, ht, fun H1 s1 => ?_⟩
  cases t with
  | false =>
    simp at e ⊢
    exact ⟨δ, hS.mono s1, r, e, k, hk, fun H2 s2 => q H2 (s1.trans s2)⟩
  | true =>
    simp at e ⊢
    subst e
    rw [ht] at hk
    cases hk
    exact q H1 s1
theorem s_not (ha : SE X cf a ca) : SE X cf (.UnaryOp .Not a pos) (.not ca) := by
  refine PE.imp (pe_notT ha) fun σ H Q ⟨δ, hS, r, he, q⟩ => ?_
  simp only [evE, bind, Option.bind_eq_some_iff] at he
  obtain ⟨x, hx, t, ht, e⟩ := he
  cases e
  exact ⟨δ, hS, x, hx, fun v1 H1 s1 r1 _ => ⟨t, tru_V r1 ht, done_h (done_of q s1 rfl) mk_bl⟩⟩
theorem st_not (ha : ST X cf a ca) : ST X cf (.UnaryOp .Not a pos) (.not ca) := by
  refine PT.imp (pt_not ha) fun σ H Q ⟨δ, hS, r, he, k, hk, q⟩ => ?_
  simp only [evE, bind, Option.bind_eq_some_iff] at he
  obtain ⟨x, hx, t, ht, e⟩ := he
  cases e
  cases hk
  exact ⟨δ, hS, x, hx, t, ht, fun H1 s1 => q H1 s1⟩
theorem s_ife (hc : ST X cf c cc) (ha : SE X cf a ca) (hb : SE X cf b cb) : SE X cf (.IfExp c a b pos) (.ife cc ca cb) := by
  refine PE.imp (pe_ifExp hc ha hb) fun σ H Q ⟨δ, hS, r, he, q⟩ => ?_
  simp only [evE, bind, Option.bind_eq_some_iff] at he
  obtain ⟨x, hx, t, ht, e⟩ := he
  refine ⟨δ, hS, x, hx, t, ht, fun H1 s1 => ?_⟩
  cases t with
  | true =>
    simp only [if_true] at e ⊢
    refine ⟨δ, hS.mono s1, r, e, fun v2 H2 s2 r2 o2 => q v2 H2 (s1.trans s2) r2 ⟨fun e => ?_, fun i e => by simp [asVar] at e⟩⟩
    simp only [fr, Bool.and_eq_true] at e
    exact (o2.1 e.1).old s1
  | false =>
    simp at e ⊢
    refine ⟨δ, hS.mono s1, r, e, fun v2 H2 s2 r2 o2 => q v2 H2 (s1.trans s2) r2 ⟨fun e => ?_, fun i e => by simp [asVar] at e⟩⟩
    simp only [fr, Bool.and_eq_true] at e
    exact (o2.1 e.2).old s1
theorem st_ife (hc : ST X cf c cc) (ha : ST X cf a ca) (hb : ST X cf b cb) : ST X cf (.IfExp c a b pos) (.ife cc ca cb) := by
  refine ⟨fun pins s σ H Q I ⟨δ, hS, r, he, k, hk, q⟩ => ?_⟩
  simp only [evE, bind, Option.bind_eq_some_iff] at he
  obtain ⟨x, hx, t, ht, e⟩ := he
  have e0 : ∀ wh, isTrue (.IfExp c a b pos) X.env wh = (do if ← isTrue c X.env (eval c X.env) then isTrue a X.env (eval a X.env) else isTrue b X.env (eval b X.env)) := fun wh => by rw [PySem.isTrue]
  rw [e0]
  refine wpAny_bind (thn (hc.run pins s σ H (fun b H1 => b = t ∧ Same H H1) I ⟨δ, hS, x, hx, t, ht, fun H1 s1 => ⟨rfl, s1⟩⟩) fun d s1 ⟨H1, I1, ed, sm⟩ => ?_)
  subst ed
  cases d with
  | true =>
    simp only [if_true] at e ⊢
    exact ha.run pins s1 σ H1 Q I1 ⟨δ, hS.mono sm, r, e, k, hk, fun H2 s2 => q H2 (sm.trans s2)⟩
  | false =>
    simp at e ⊢
    exact hb.run pins s1 σ H1 Q I1 ⟨δ, hS.mono sm, r, e, k, hk, fun H2 s2 => q H2 (sm.trans s2)⟩
end
end Ev
namespace Ev
open PySem PySem.Spec PyProof.Rows L2
section
variable {X : Cx} {cf : Nat → List Vl → Option Vl} {pos : Pos} {a b c : Expr} {ca cb cc : E} {es : List Expr} {ces : Es}
theorem sa_nil : SA X cf [] .nil := PA.imp pa_nil fun σ H Q ⟨δ, hS, r, he, q⟩ => by
  simp only [evEs] at he
  cases he
  exact q [] H (Same.refl H) .nil
theorem sa_cons (ha : SE X cf a ca) (hs : SA X cf es ces) (hst : starEach (a :: es) X.env = (false, eval a X.env) :: starEach es X.env) : SA X cf (a :: es) (.cons ca ces) := by
  refine PA.imp (pa_cons ha hs hst) fun σ H Q ⟨δ, hS, r, he, q⟩ => ?_
  simp only [evEs, bind, Option.bind_eq_some_iff] at he
  obtain ⟨x, hx, xs, hxs, e⟩ := he
  cases e
  exact ⟨δ, hS, x, hx, fun v1 H1 s1 r1 _ => ⟨δ, hS.mono s1, xs, hxs, fun vs H2 s2 r2 => q (v1 :: vs) H2 (s1.trans s2) (.cons (r1.mono s2) r2)⟩⟩
theorem asHs_rp {K : PySem.W.Frag} {H : Hp} : ∀ {vs : List V} {rs : List Vl} {ds : List Dt}, RpVs K H vs rs → asHs rs = some ds → RpDs K H vs ds
  | _, [], ds, h, e => by
    cases h
    simp [asHs] at e
    subst e
    exact .nil
  | _, .h d :: r, ds, h, e => by
    cases h with
    | cons h1 h2 =>
      simp only [asHs, Option.map_eq_some_iff] at e
      obtain ⟨es, e1, e2⟩ := e
      subst e2
      exact .cons h1 (asHs_rp h2 e1)
  | _, .l _ :: _, ds, h, e => by simp [asHs] at e
  | _, .s _ :: _, ds, h, e => by simp [asHs] at e
  | _, .m _ :: _, ds, h, e => by simp [asHs] at e
theorem s_tup {k} (h : SA X cf es ces) : SE X cf (.Tuple es k pos) (.tup ces) := by
  refine PE.imp (pe_tup h) fun σ H Q ⟨δ, hS, r, he, q⟩ => ?_
  simp only [evE, bind, Option.bind_eq_some_iff] at he
  obtain ⟨xs, hxs, ds, hds, e⟩ := he
  split at e
  · rename_i hl
    cases e
    refine ⟨δ, hS, xs, hxs, fun vs H1 s1 r1 => ?_⟩
    have hd := asHs_rp r1 hds
    exact ⟨by rw [hd.length]; exact hl, fun p hp => done_t (done_of q s1 rfl) hd hp⟩
  · cases e
theorem s_lst (h : SA X cf es ces) : SE X cf (.List es pos) (.lst ces) := by
  refine PE.imp (pe_lst h) fun σ H Q ⟨δ, hS, r, he, q⟩ => ?_
  simp only [evE, bind, Option.bind_eq_some_iff] at he
  obtain ⟨xs, hxs, ds, hds, e⟩ := he
  split at e
  · rename_i hl
    cases e
    refine ⟨δ, hS, xs, hxs, fun vs H1 s1 r1 => ?_⟩
    have hd := asHs_rp r1 hds
    exact ⟨by rw [hd.length]; exact hl, fun p hp => done_l (done_of q s1 rfl) hd hp⟩
  · cases e
theorem s_ix (ha : SE X cf a ca) (hb : SE X cf b cb) (hs : PlainIx b) : SE X cf (.Subscript a b pos) (.ix ca cb) := by
  refine PE.imp (pe_ix ix_V ha hb hs) fun σ H Q ⟨δ, hS, r, he, q⟩ => ?_
  simp only [evE, bind, Option.bind_eq_some_iff] at he
  obtain ⟨x, hx, y, hy, hg⟩ := he
  exact ⟨δ, hS, x, hx, fun v1 H1 s1 r1 _ => ⟨δ, hS.mono s1, y, hy, fun v2 H2 s2 r2 _ => ⟨x, y, r, r1.mono s2, r2, hg, done_of q (s1.trans s2) rfl⟩⟩⟩
abbrev SO (X : Cx) (cf : Nat → List Vl → Option Vl) (e : Option Expr) (c : Oe) : Prop := PO X e (TO' X.K cf c)
theorem so_no : SO X cf none .no := PO.imp po_none fun σ H Q ⟨δ, hS, r, he, q⟩ => by
  simp only [evO] at he
  cases he
  exact q H (Same.refl H)
theorem asI_v {K : PySem.W.Frag} {H : Hp} {v : V} {r : Vl} {i : Int} (h : RpV K H v r) (e : asI r = some i) : v = .int i := by
  unfold asI at e
  split at e
  · cases e; exact rp_int h
  · cases e
theorem so_yes (ha : SE X cf a ca) : SO X cf (some a) (.yes ca) := by
  refine PO.imp (po_some ha) fun σ H Q ⟨δ, hS, r, he, q⟩ => ?_
  simp only [evO, bind, Option.bind_eq_some_iff] at he
  obtain ⟨x, hx, i, hi, e⟩ := he
  cases e
  exact ⟨δ, hS, x, hx, fun v1 H1 s1 r1 _ => ⟨i, asI_v r1 hi, q H1 s1⟩⟩
theorem s_sl {lo hi : Option Expr} {cl ch : Oe} {p2 : Pos} (ha : SE X cf a ca) (hl : SO X cf lo cl) (hh : SO X cf hi ch) : SE X cf (.Subscript a (.Slice lo hi none p2) pos) (.sl ca cl ch) := by
  refine PE.imp (pe_slice sl_V ha hl hh) fun σ H Q ⟨δ, hS, r, he, q⟩ => ?_
  simp only [evE, bind, Option.bind_eq_some_iff] at he
  obtain ⟨x, hx, i, hi, j, hj, hg⟩ := he
  exact ⟨δ, hS, x, hx, fun v1 H1 s1 r1 _ => ⟨δ, hS.mono s1, i, hi, fun H2 s2 => ⟨δ, hS.mono (s1.trans s2), j, hj, fun H3 s3 =>
    ⟨x, r, r1.mono (s2.trans s3), hg, done_of q (s1.trans (s2.trans s3)) rfl⟩⟩⟩⟩
/-- a written list of expressions, no star -/
def plainE : Expr → Bool
  | .Starred _ _ => false
  | _ => true
theorem star_plain (env : PySem.Env) (es : List Expr) (h : plainE a = true) : starEach (a :: es) env = (false, eval a env) :: starEach es env := by
  cases a <;> first | rfl | cases h
theorem star_all (env : PySem.Env) : ∀ es : List Expr, es.all plainE = true → (backTo pos (starEach es env)).any (·.1) = false
  | [], _ => rfl
  | e :: es, h => by
    rw [List.all_cons, Bool.and_eq_true] at h
    rw [star_plain env es h.1]
    show ((false : Bool) || (backTo pos (starEach es env)).any (·.1)) = false
    rw [star_all env es h.2]
    rfl
/-- a call of a def of the text -/
def spE (K : PySem.W.Frag) (f : List Vl → Option Vl) : Sp := fun vs H Q _ => ∃ ds, RpVs K H vs ds ∧ ∃ r, f ds = some r ∧ Done K H Q r
theorem s_call {k n : Nat} {f : Addr} {fd : FuncData} {ps : List Str} {x : Str} {p : Pos} (F : FnOk X.prog X.w X.K X.mg X.base CX0 k f fd ps (spE X.K (cf n))) (hr : Room k X.A) (hg : Gl X x) (hm : X.mg x = some (.ref f)) (hk : PySem.W.keepIn X.K (.ref f) = true)
    (hb : Binds X.K fd ps []) (ha : SA X cf (a :: es) ces) (hp : (a :: es).all plainE = true) (hdb : (x == ("__debug__" : Str)) = false) : SE X cf (.Call (.Name x p) (a :: es) [] pos) (.call n ces) := by
  rw [List.all_cons, Bool.and_eq_true] at hp
  refine PE.imp (pe_call F hr hg hm hk hb .nil (E := E0) pass0 ha hdb (star_plain _ _ hp.1) (star_all _ _ hp.2)) fun σ H Q ⟨δ, hS, r, he, q⟩ => ?_
  simp only [evE, bind, Option.bind_eq_some_iff] at he
  obtain ⟨xs, hxs, hg⟩ := he
  refine ⟨δ, hS, xs, hxs, fun vs H1 s1 r1 => ?_⟩
  show spE X.K (cf n) (vs ++ []) H1 Q E0
  rw [List.append_nil]
  exact ⟨xs, r1, r, hg, done_of q s1 rfl⟩
/-- built-in functions, types -/
theorem tcb_imp {g : List Vl → Option Vl} {σ : L2.St} {H : Hp} {Q : VK} {ce : E} (hv : asVar ce = none) (h : T X.K cf ce σ H Q) (he : ∀ δ r, evE cf ce δ = some r → ∃ vs, evEs cf ces δ = some vs ∧ g vs = some r) :
    tCB (fun xs H Q => ∃ as r, RpVs X.K H xs as ∧ g as = some r ∧ Done X.K H Q r) (TA' X.K cf ces) σ H Q := by
  obtain ⟨δ, hS, r, he', q⟩ := h
  obtain ⟨xs, hxs, hg⟩ := he δ r he'
  exact ⟨δ, hS, xs, hxs, fun vs H1 s1 r1 => ⟨xs, r, r1, hg, done_of q s1 hv⟩⟩
theorem bi_ev {f : Bi} (δ : Env) (r : Vl) (he : evE cf (.bi f ces) δ = some r) : ∃ vs, evEs cf ces δ = some vs ∧ biE f vs = some r := by
  simp only [evE, bind, Option.bind_eq_some_iff] at he
  exact he
/-- the built-in names, what they are -/
def biName : Bi → Str
  | .len => "len" | .abs => "abs" | .min => "min" | .max => "max" | .sum => "sum" | .int => "int"
  | .tuple => "tuple" | .list => "list" | .sorted => "sorted" | .all => "all" | .any => "any"
def biTy : Bi → Bool
  | .int | .tuple | .list => true
  | _ => false
theorem s_bi {f : Bi} {p : Pos} (hr : Room 0 X.A) (hc : X.calm = true) (hg : Gl X (biName f)) (hm : X.mg (biName f) = none) (ha : SA X cf (a :: es) ces) (hp : (a :: es).all plainE = true) :
    SE X cf (.Call (.Name (biName f) p) (a :: es) [] pos) (.bi f ces) := by
  rw [List.all_cons, Bool.and_eq_true] at hp
  have h1 := star_plain X.env es hp.1
  have h2 := star_all (pos := pos) X.env es hp.2
  have hu := hr.units
  have hu2 : X.A.units + 100 < cLine := by have := hr.un; omega
  cases f with
  | len => exact PE.imp (pe_callB c_len hg hm PySem.boot_len ha (by decide +kernel) (by decide +kernel) h1 h2) fun σ H Q h => tcb_imp rfl h bi_ev
  | abs => exact PE.imp (pe_callB c_abs hg hm PyProof.Rows.boot_abs ha (by decide +kernel) (by decide +kernel) h1 h2) fun σ H Q h => tcb_imp rfl h bi_ev
  | min => exact PE.imp (pe_callB (c_min hc hu) hg hm PyProof.Rows.boot_min ha (by decide +kernel) (by decide +kernel) h1 h2) fun σ H Q h => tcb_imp rfl h bi_ev
  | max => exact PE.imp (pe_callB (c_max hc hu) hg hm PyProof.Rows.boot_max ha (by decide +kernel) (by decide +kernel) h1 h2) fun σ H Q h => tcb_imp rfl h bi_ev
  | sum => exact PE.imp (pe_callB (c_sum hc) hg hm PyProof.Rows.boot_sum ha (by decide +kernel) (by decide +kernel) h1 h2) fun σ H Q h => tcb_imp rfl h bi_ev
  | int => exact PE.imp (pe_callTy c_int hg hm PyProof.Rows.boot_int ha (by decide +kernel) (by decide +kernel) h1 h2) fun σ H Q h => tcb_imp rfl h bi_ev
  | tuple => exact PE.imp (pe_callTy c_tuple hg hm PyProof.Rows.boot_tuple ha (by decide +kernel) (by decide +kernel) h1 h2) fun σ H Q h => tcb_imp rfl h bi_ev
  | list => exact PE.imp (pe_callTy c_list hg hm PyProof.Rows.boot_list ha (by decide +kernel) (by decide +kernel) h1 h2) fun σ H Q h => tcb_imp rfl h bi_ev
  | sorted => exact PE.imp (pe_callB (c_sorted hu2) hg hm PyProof.Rows.boot_sorted ha (by decide +kernel) (by decide +kernel) h1 h2) fun σ H Q h => tcb_imp rfl h bi_ev
  | all => exact PE.imp (pe_callB (c_all hc) hg hm PyProof.Rows.boot_all ha (by decide +kernel) (by decide +kernel) h1 h2) fun σ H Q h => tcb_imp rfl h bi_ev
  | any => exact PE.imp (pe_callB (c_any hc) hg hm PyProof.Rows.boot_any ha (by decide +kernel) (by decide +kernel) h1 h2) fun σ H Q h => tcb_imp rfl h bi_ev
theorem rp_range {K : PySem.W.Frag} {H : Hp} (i j : Int) : RpDs K H (rgV i j) (rngD i j) := by
  unfold rgV rngD
  exact pr_map fun n _ => mk_int
theorem rg_ok {i j : Int} (h : (rngOk i j && decide ((j - i).toNat ≤ sizeLine)) = true) : RgOk i j := by
  unfold rngOk at h
  simp only [Bool.and_eq_true, decide_eq_true_eq] at h
  exact ⟨h.1.1.1.1, h.1.1.1.2, h.1.1.2, h.1.2, h.2⟩
abbrev PRS (X : Cx) (cf : Nat → List Vl → Option Vl) (e : Expr) (ca cb : E) : Prop := PRg X e fun σ H Q => ∃ δ, SRep X.K σ H δ ∧ ∃ x y i j, evE cf ca δ = some x ∧ evE cf cb δ = some y ∧ asI x = some i ∧ asI y = some j ∧ ∀ H', Same H H' → Q i j H'
theorem prs_1 {p : Pos} (hg : Gl X "range") (hm : X.mg "range" = none) (hb : SE X cf b cb) (hp : plainE b = true) : PRS X cf (.Call (.Name "range" p) [b] [] pos) (.con (.int 0)) cb := by
  intro pins s σ H Q I h
  obtain ⟨δ, hS, x, y, i, j, hx, hy, hi, hj, q⟩ := h
  simp only [evE] at hx
  cases hx
  simp only [asI] at hi
  cases hi
  exact prg_1 hg hm hb (star_plain _ _ hp) pins s σ H Q I ⟨δ, hS, y, hy, fun v1 H1 s1 r1 _ => ⟨j, asI_v r1 hj, q H1 s1⟩⟩
theorem prs_2 {p : Pos} (hg : Gl X "range") (hm : X.mg "range" = none) (ha : SE X cf a ca) (hb : SE X cf b cb) (hp : plainE a = true) (hp2 : plainE b = true) : PRS X cf (.Call (.Name "range" p) [a, b] [] pos) ca cb := by
  intro pins s σ H Q I h
  obtain ⟨δ, hS, x, y, i, j, hx, hy, hi, hj, q⟩ := h
  exact prg_2 hg hm ha hb (star_plain _ _ hp) (star_plain _ _ hp2) (star_all _ _ (by rw [List.all_cons, hp2]; rfl)) pins s σ H Q I ⟨δ, hS, x, hx, fun v1 H1 s1 r1 _ => ⟨δ, hS.mono s1, y, hy, fun v2 H2 s2 r2 _ => ⟨i, j, asI_v r1 hi, asI_v r2 hj, q H2 (s1.trans s2)⟩⟩⟩
theorem s_rngT {e : Expr} {p : Pos} (hc : X.calm = true) (hg : Gl X "tuple") (hm : X.mg "tuple" = none) (he : PRS X cf e ca cb) (hp : plainE e = true) : SE X cf (.Call (.Name "tuple" p) [e] [] pos) (.rng true ca cb) := by
  refine PE.imp (pe_tupRg hc hg hm he (star_plain _ _ hp)) fun σ H Q ⟨δ, hS, r, he, q⟩ => ?_
  simp only [evE, bind, Option.bind_eq_some_iff] at he
  obtain ⟨x, hx, y, hy, i, hi, j, hj, e⟩ := he
  split at e
  · rename_i hk
    simp at e
    subst e
    exact ⟨δ, hS, x, y, i, j, hx, hy, hi, hj, fun H1 s1 => ⟨rg_ok hk, fun t ht => done_t (done_of q s1 rfl) (rp_range i j) ht⟩⟩
  · cases e
theorem s_rngL {e : Expr} {p : Pos} (hc : X.calm = true) (hg : Gl X "list") (hm : X.mg "list" = none) (he : PRS X cf e ca cb) (hp : plainE e = true) : SE X cf (.Call (.Name "list" p) [e] [] pos) (.rng false ca cb) := by
  refine PE.imp (pe_listRg hc hg hm he (star_plain _ _ hp)) fun σ H Q ⟨δ, hS, r, he, q⟩ => ?_
  simp only [evE, bind, Option.bind_eq_some_iff] at he
  obtain ⟨x, hx, y, hy, i, hi, j, hj, e⟩ := he
  split at e
  · rename_i hk
    simp at e
    subst e
    exact ⟨δ, hS, x, y, i, j, hx, hy, hi, hj, fun H1 s1 => ⟨rg_ok hk, fun t ht => done_l (done_of q s1 rfl) (rp_range i j) ht⟩⟩
  · cases e
def tyName : Ty → String
  | .int => "int" | .bool => "bool" | .str => "str" | .tuple => "tuple"
def clsOf : Vl → String
  | .h .non => "NoneType"
  | .h (.bl _) => "bool"
  | .h (.int _) => "int"
  | .h (.str _) => "str"
  | .h (.tup _) => "tuple"
  | .l _ => "list"
  | .s _ => "list"
  | .m _ => "dict"
theorem kit_all (r : Vl) (t : Ty) (h : ∀ k, r ≠ .m k) : PySem.W.kitOne X.K (.type (clsOf r)) (.type (tyName t)) = some (isiE r t) := by
  refine kit_ty ?_
  cases r with
  | h d => cases d <;> cases t <;> (simp only [clsOf, tyName, isiE]; decide +kernel)
  | l _ => cases t <;> (simp only [clsOf, tyName, isiE]; decide +kernel)
  | s _ => cases t <;> (simp only [clsOf, tyName, isiE]; decide +kernel)
  | m k => exact absurd rfl (h k)
theorem tyx_of {H : Hp} {v : V} {r : Vl} (h : RpV X.K H v r) : TyX X.K H v (.type (clsOf r)) := by
  have tl : ∀ {a : Addr} {vs : List V}, SqL X.K H a vs → TyX X.K H (.ref a) (.type "list") := fun {a vs} h2 => by
    rcases h2 with (h2 | ⟨o, h2⟩) | ⟨o, its, n, hk, hc, _⟩
    · exact .base (.lst h2)
    · exact .base (.frz h2)
    · exact .kList hk hc
  cases r with
  | h d =>
    cases d with
    | non => rw [rp_non h]; exact .base .non
    | bl _ => rw [rp_bl h]; exact .base (.bl _)
    | int _ => rw [rp_int h]; exact .base (.int _)
    | str _ => rw [rp_str h]; exact .base (.str _)
    | tup _ =>
      obtain ⟨a, vs, rfl, h2, _⟩ := rp_tup h
      rcases h2 with (h2 | ⟨o, h2⟩) | ⟨o, its, n, hk, hc, _⟩
      · exact .base (.tup h2)
      · exact .fTuple h2
      · exact .kTuple hk hc
  | l _ =>
    obtain ⟨a, vs, rfl, h2, _⟩ := h
    exact tl (.inl h2)
  | s _ =>
    obtain ⟨a, vs, rfl, h2, _⟩ := h
    exact tl h2
  | m _ => exact h.elim
theorem s_isi {t : Ty} {p p2 : Pos} {x : Str} (hg : Gl X "isinstance") (hm : X.mg "isinstance" = none) (hg2 : Gl X x) (hm2 : X.mg x = none) (hv : bootBuiltins x = some (.type (tyName t))) (hn : x ≠ "__name__") (hd : (x == ("__debug__" : Str)) = false)
    (ha : SE X cf a ca) (hp : plainE a = true) : SE X cf (.Call (.Name "isinstance" p) [a, .Name x p2] [] pos) (.isi ca t) := by
  refine PE.imp (pe_callB call_isi hg hm PyProof.Rows.boot_isinstance (pa_cons ha (pa_cons (pe_bltn (v := .ty (tyName t)) hg2 hm2 hv rfl hn hd) pa_nil) (star_plain _ _ hp)) (by decide +kernel) (by decide +kernel) (star_plain _ _ hp) rfl)
    fun σ H Q ⟨δ, hS, r, he, q⟩ => ?_
  simp only [evE, bind, Option.bind_eq_some_iff] at he
  obtain ⟨x, hx, e⟩ := he
  cases e
  refine ⟨δ, hS, x, hx, fun v1 H1 s1 r1 _ => ⟨v1, .ty (tyName t), _, _, _, rfl, .ty _, tyx_of r1, kit_all x t (fun k e => ?_), done_h (done_of q s1 rfl) mk_bl⟩⟩
  subst e
  exact r1.elim
def meId : Me → String
  | .join => "str.join" | .count => "str.count"
def meName : Me → Str
  | .join => "join" | .count => "count"
theorem m_all (f : Me) : MeV X (meId f) (meE f) := by
  cases f with
  | join => exact m_join
  | count => exact m_count
theorem me_str {f : Me} {x : Vl} {vs : List Vl} {r : Vl} (h : meE f x vs = some r) : ∃ z, x = .h (.str z) := by
  cases f with
  | join =>
    simp only [meE] at h
    unfold joinE at h
    split at h
    · exact ⟨_, rfl⟩
    · cases h
  | count =>
    simp only [meE] at h
    unfold countE at h
    split at h
    · exact ⟨_, rfl⟩
    · cases h
/-- a receiver that is no call -/
def recvE : Expr → Bool
  | .Name _ _ => true
  | .Constant _ _ _ => true
  | .Subscript _ _ _ => true
  | _ => false
theorem recv_base (env : PySem.Env) (f : Str) (h : recvE a = true) : attributeBase a f env (eval a env) = eval a env := by
  cases a <;> first | rfl | cases h
theorem s_me {f : Me} {apos : Pos} (ha : SE X cf a ca) (hb : SE X cf b cb) (h1 : recvE a = true) (h2 : plainE b = true) (hl : (apos.endLine == pos.line) = true) :
    SE X cf (.Call (.Attribute a (meName f) apos) [b] [] pos) (.me f ca (.cons cb .nil)) := by
  have slot : Slot "str" (meName f) (meId f) := by cases f <;> first | exact F.slot_str_join | exact F.slot_str_count
  have ty : typeOf (.builtin (meId f)) = pure (.type "method_descriptor") := by cases f <;> first | exact F.type_str_join | exact F.type_str_count
  refine PE.imp (pe_m1 slot ty (m_all f) ha hb (star_plain _ _ h2) (recv_base _ _ h1) hl) fun σ H Q ⟨δ, hS, r, he, q⟩ => ?_
  simp only [evE, bind, Option.bind_eq_some_iff] at he
  obtain ⟨x, hx, vs, hvs, hg⟩ := he
  simp only [evEs, bind, Option.bind_eq_some_iff] at hvs
  obtain ⟨y, hy, _, e1, e2⟩ := hvs
  cases e1
  cases e2
  obtain ⟨z, rfl⟩ := me_str hg
  exact ⟨δ, hS, _, hx, fun v1 H1 s1 r1 _ => ⟨⟨_, rp_str r1⟩, δ, hS.mono s1, y, hy, fun v2 H2 s2 r2 _ => ⟨_, _, r, r1.mono s2, .cons r2 .nil, hg, done_of q (s1.trans s2) rfl⟩⟩⟩
end
end Ev
namespace Ev
open PySem PySem.Spec PyProof.Rows L2
set_option maxHeartbeats 1000000 in
theorem meets_enumerate_new1 {v : Value} {o : Obj} {H : Heap → Prop} (B : Begins v o H) :
    Meets (Builtin.«enumerate.__new__» ⟨[.type "enumerate", v], []⟩) (fun _ R s => H s.heap ∧
      R (.ok (.ret (.ref (s.heap.push o).objs.size))) { s with heap := (s.heap.push o).push { cls := .type "enumerate", data := .fields #[.none, .bool false, .ref s.heap.objs.size, rawInt 0, .none, .none] } }) :=
  .of_wp fun prog w A R s h => by
    obtain ⟨hp, g, d, tk, os⟩ := s; obtain ⟨h1, h⟩ := h
    have hsub := sub_enumerate
    have q1 : ∀ {A' : Around} {E : Value → Shared → Prop} {Q : Value → Shared → Prop}, Q (.ref hp.objs.size) ⟨hp.push o, g, d, tk, os⟩ → wpAny (model prog w) A' (pyIter v) Q E ⟨hp, g, d, tk, os⟩ :=
      fun q => B.iter prog w _ _ ⟨hp, g, d, tk, os⟩ _ h1 q
    wp_walk using q1
    refine wpAny_stack_any fun st => wpAny_pure ?_
    split
    · rename_i c _ _ _ _ _
      cases (c == Value.type "enumerate")
      · wp_walk using q1
        exact ⟨_, rfl, h⟩
      · wp_walk using q1
        exact ⟨_, rfl, h⟩
    · wp_walk using q1
      exact ⟨_, rfl, h⟩
section
variable {prog : Program} {w : World} {A : Around} {E : Value → Shared → Prop} {s : Shared}
/-- enumerate(v): its two new cells -/
theorem enum_begins1 {v : Value} {o : Obj} {H : Heap → Prop} {Q : Value → Shared → Prop} (B : Begins v o H) (h1 : H s.heap)
    (h : ∀ h', IsEnum h' (s.heap.objs.size + 1) s.heap.objs.size 0 .none → h'.get? s.heap.objs.size = some o → h'.objs.size = s.heap.objs.size + 2 →
      (∀ b o, s.heap.get? b = some o → h'.get? b = some o) → Q (.ref (s.heap.objs.size + 1)) { s with heap := h' }) :
    wpAny (model prog w) A (call (.type "enumerate") [v]) Q E s := by
  refine callType_new F.called_enumerate (by decide) (F.typeCall_enumerate_1 _) (F.newCall_enumerate_1 _) (fun obj => F.args_object_init_2 obj _) F.entry_enumerate_new
    (meets_enumerate_new1 B) ⟨h1, ?_⟩
  have hz : (s.heap.push o).objs.size = s.heap.objs.size + 1 := Heap.size_push ..
  show _ ∧ _
  rw [hz]
  have he : IsEnum ((s.heap.push o).push { cls := .type "enumerate", data := .fields #[.none, .bool false, .ref s.heap.objs.size, rawInt 0, .none, .none] }) (s.heap.objs.size + 1) s.heap.objs.size 0 .none := by
    have := Heap.get?_push_size (s.heap.push o) (o := { cls := .type "enumerate", data := .fields #[.none, .bool false, .ref s.heap.objs.size, rawInt 0, .none, .none] }) rfl
    rw [hz] at this; exact this
  refine ⟨⟨_, he, rfl⟩, h _ he (Heap.get?_push_of_some _ (Heap.get?_push_size _ B.free)) (by rw [Heap.size_push, hz]) fun b o x => Heap.get?_push_of_some _ (Heap.get?_push_of_some _ x)⟩
end
/-- the tuple at a, each item in a new pair -/
def IteT (K : PySem.W.Frag) (a : Addr) : It :=
  ⟨fun i H => ∃ (xs : List V) (x : V), SqT K H a xs ∧ xs[i]? = some x, fun i H v H' => ∃ T x, v = .ref T ∧ H T = none ∧ H' = upd H T (.tup [.int (i : Nat), x]) ∧ ∀ xs, SqT K H a xs → xs[i]? = some x, fun i H => ∃ xs : List V, SqT K H a xs ∧ xs.length = i⟩
/-- the text z, each sign in a new pair -/
def IteS (z : Str) : It :=
  ⟨fun i _ => i < z.cps.size, fun i H v H' => ∃ T c, v = .ref T ∧ H T = none ∧ H' = upd H T (.tup [.int (i : Nat), .str ⟨#[c]⟩]) ∧ z.cps[i]? = some c, fun i _ => z.cps.size = i⟩
theorem turn_enumT {P : Program} {w : World} {K : PySem.W.Frag} {elts : List Expr} {kk : Nat} {tpos : Pos} (a e it : Addr) :
    Turn P w K (.Tuple elts kk tpos) (IteT K a) [e, it] e (fun i h => (∃ old, IsEnum h e it ((i : Nat) : Int) old) ∧ h.IsTupleIter it a i ∧ e ≠ it ∧ a ≠ it ∧ a ≠ e) where
  mem := by simp
  obj := fun i h st b hb => by
    obtain ⟨⟨old, he⟩, ⟨o, ho, hc, hd⟩, _⟩ := st
    have e' : b = e ∨ b = it := by simpa using hb
    rcases e' with z | z
    · rw [z]; exact ⟨_, he, fun v q => nomatch q⟩
    · rw [z]; exact ⟨o, ho, fun v q => by rw [hd] at q; cases q⟩
  keep := fun i h h' st k => let ⟨⟨old, he⟩, hi, hne⟩ := st; ⟨⟨old, k e (by simp) _ he⟩, hi.at fun o q => k it (by simp) o q, hne⟩
  item := by
    intro X hP hw hK hc i pins s σ H E I hf st hg
    subst hP hw hK
    obtain ⟨⟨old, he⟩, hit, hne, hai, hae⟩ := st
    obtain ⟨xs, x, hq, hx⟩ := hg
    obtain ⟨its, rv, p, hz⟩ := I.tuple hq
    obtain ⟨u, hu, ru⟩ := rv.get hx
    have hel : e < s.heap.objs.size := Heap.lt_size he
    have hil : it < s.heap.objs.size := by obtain ⟨_, q, _⟩ := hit; exact Heap.lt_size q
    have hlt : i < its.toArray.size := by
      have : its.toArray[i]? = some u := by simpa using hu
      exact (Array.getElem?_eq_some_iff.mp this).1
    refine wpAny_pyNext_enum_itemD (Draws.tuple (prog := X.prog) (w := X.w) (A := X.A.in1) (I.ok.hd hc) it a hai its.toArray) he ⟨hit, p⟩ hlt hne (by simp [hne, Ne.symm hae]) fun x' h' tk hP ho hst' hT hsz hk => ?_
    have ex : x' = u := by
      have : its.toArray[i]? = some u := by simpa using hu
      rw [this] at hP
      exact (Option.some.inj hP).symm
    subst ex
    obtain ⟨hit', _⟩ := hst'
    refine ⟨_, rfl, wpAny_letOwnedTupleGo_enum (s := { s with heap := h', toks := tk + 1 }) ho fun h'' he' sb => ?_⟩
    have hT2 : h''.get? s.heap.objs.size = some { cls := .type "tuple", data := .seq #[.int i tk, x'] } := (sb.2 _ (Nat.ne_of_gt hel)).trans hT
    have new : ObjOk X.prog X.w (upd H s.heap.objs.size (.tup [.int (i : Nat), x])) h'' s.heap.objs.size (.tup [.int (i : Nat), x]) :=
      ⟨by show 2 ≤ sizeLine; decide, [.int i tk, x'], .cons ⟨_, rfl⟩ (.cons ru .nil), ⟨_, hT2, rfl, _, rfl⟩⟩
    have I1 : Inv X pins σ (upd H s.heap.objs.size (.tup [.int (i : Nat), x])) { s with heap := h'', toks := tk + 1 } :=
      I.turnedNew (ch := [e, it]) (fun b ob hb q => (sb.2 b (fun z => hb (by simp [z]))).trans (hk b ob (fun z => hb (by simp [z])) (fun z => hb (by simp [z])) q)) hf (Nat.le_refl _) new
    refine ⟨.ref s.heap.objs.size, _, I1, rfl, ⟨_, x, rfl, I.hok.fresh (Nat.le_refl _), rfl, fun ys hy => by rw [I.tuple_inj hy hq]; exact hx⟩, ⟨⟨x', ?_⟩, hit'.at fun o q => (sb.2 it (Ne.symm hne)).trans q, hne, hai, hae⟩, fun b hb => ?_⟩
    · have e1 : ((i + 1 : Nat) : Int) = (i : Int) + 1 := by omega
      rw [e1]; exact he'
    · have hb' : b < s.heap.objs.size := by
        have e' : b = e ∨ b = it := by simpa using hb
        rcases e' with z | z
        · rw [z]; exact hel
        · rw [z]; exact hil
      rw [upd_ne (Nat.ne_of_lt hb')]
      exact (hf b hb).1
  done := by
    intro X hP hw hK hc i pins s σ H E I hf st hg
    subst hP hw hK
    obtain ⟨⟨old, he⟩, hit, hne, hai, hae⟩ := st
    obtain ⟨xs, hq, hx⟩ := hg
    obtain ⟨its, rv, p, hz⟩ := I.tuple hq
    obtain ⟨f0, f1, f2, f3, f4, f5⟩ := hf it (by simp)
    have hl := rv.length
    have ei : i = its.toArray.size := by simp; omega
    refine wpAny_pyNext_enum_endD (Draws.tuple (prog := X.prog) (w := X.w) (A := X.A.in1) (I.ok.hd hc) it a hai its.toArray) he ⟨by rw [← ei]; exact hit, p⟩ fun h' eb => ⟨rfl, I.turned (t' := s.toks) (fun b o hb q => eb b o hb q) f0 f1 f3 f4 f5⟩
  self := fun A i s Q E st h => let ⟨⟨_, he⟩, _⟩ := st; wpAny_pyIter_enum he h
theorem turn_enumS {P : Program} {w : World} {K : PySem.W.Frag} {elts : List Expr} {kk : Nat} {tpos : Pos} (z : Str) (t : Tok) (e it : Addr) :
    Turn P w K (.Tuple elts kk tpos) (IteS z) [e, it] e (fun i h => (∃ old, IsEnum h e it ((i : Nat) : Int) old) ∧ h.IsStrIter it (strIterType z) z t i ∧ e ≠ it) where
  mem := by simp
  obj := fun i h st b hb => by
    obtain ⟨⟨old, he⟩, ⟨o, ho, hc, hd⟩, _⟩ := st
    have e' : b = e ∨ b = it := by simpa using hb
    rcases e' with z | z
    · rw [z]; exact ⟨_, he, fun v q => nomatch q⟩
    · rw [z]; exact ⟨o, ho, fun v q => by rw [hd] at q; cases q⟩
  keep := fun i h h' st k => let ⟨⟨old, he⟩, hi, hne⟩ := st; ⟨⟨old, k e (by simp) _ he⟩, (let ⟨o, q, r⟩ := hi; ⟨o, k it (by simp) o q, r⟩), hne⟩
  item := by
    intro X hP hw hK hc i pins s σ H E I hf st hg
    subst hP hw hK
    obtain ⟨⟨old, he⟩, hit, hne⟩ := st
    have hlt : i < z.cps.size := hg
    have hel : e < s.heap.objs.size := Heap.lt_size he
    have hil : it < s.heap.objs.size := by obtain ⟨_, q, _⟩ := hit; exact Heap.lt_size q
    refine wpAny_pyNext_enum_itemD (Draws.text (prog := X.prog) (w := X.w) (A := X.A.in1) (I.ok.hd hc) it z t) he hit hlt hne (by simp [hne]) fun x' h' tk hP ho hit' hT hsz hk => ?_
    obtain ⟨c, u, hcz, rfl⟩ := hP
    refine ⟨_, rfl, wpAny_letOwnedTupleGo_enum (s := { s with heap := h', toks := tk + 1 }) ho fun h'' he' sb => ?_⟩
    have hT2 : h''.get? s.heap.objs.size = some { cls := .type "tuple", data := .seq #[.int i tk, .str ⟨#[c]⟩ u] } := (sb.2 _ (Nat.ne_of_gt hel)).trans hT
    have new : ObjOk X.prog X.w (upd H s.heap.objs.size (.tup [.int (i : Nat), .str ⟨#[c]⟩])) h'' s.heap.objs.size (.tup [.int (i : Nat), .str ⟨#[c]⟩]) :=
      ⟨by show 2 ≤ sizeLine; decide, [.int i tk, .str ⟨#[c]⟩ u], .cons ⟨_, rfl⟩ (.cons ⟨_, rfl⟩ .nil), ⟨_, hT2, rfl, _, rfl⟩⟩
    have I1 : Inv X pins σ (upd H s.heap.objs.size (.tup [.int (i : Nat), .str ⟨#[c]⟩])) { s with heap := h'', toks := tk + 1 } :=
      I.turnedNew (ch := [e, it]) (fun b ob hb q => (sb.2 b (fun z => hb (by simp [z]))).trans (hk b ob (fun z => hb (by simp [z])) (fun z => hb (by simp [z])) q)) hf (Nat.le_refl _) new
    refine ⟨.ref s.heap.objs.size, _, I1, rfl, ⟨_, c, rfl, I.hok.fresh (Nat.le_refl _), rfl, hcz⟩, ⟨⟨.str ⟨#[c]⟩ u, ?_⟩, (let ⟨o, q, r⟩ := hit'; ⟨o, (sb.2 it (Ne.symm hne)).trans q, r⟩), hne⟩, fun b hb => ?_⟩
    · have e1 : ((i + 1 : Nat) : Int) = (i : Int) + 1 := by omega
      rw [e1]; exact he'
    · have hb' : b < s.heap.objs.size := by
        have e' : b = e ∨ b = it := by simpa using hb
        rcases e' with z | z
        · rw [z]; exact hel
        · rw [z]; exact hil
      rw [upd_ne (Nat.ne_of_lt hb')]
      exact (hf b hb).1
  done := by
    intro X hP hw hK hc i pins s σ H E I hf st hg
    subst hP hw hK
    obtain ⟨⟨old, he⟩, hit, hne⟩ := st
    have ei : z.cps.size = i := hg
    obtain ⟨f0, f1, f2, f3, f4, f5⟩ := hf it (by simp)
    exact wpAny_pyNext_enum_endD (Draws.text (prog := X.prog) (w := X.w) (A := X.A.in1) (I.ok.hd hc) it z t) he (by rw [ei]; exact hit) fun h' eb => ⟨rfl, I.turned (t' := s.toks) (fun b o hb q => eb b o hb q) f0 f1 f3 f4 f5⟩
  self := fun A i s Q E st h => let ⟨⟨_, he⟩, _⟩ := st; wpAny_pyIter_enum he h
def iEnumA (K : PySem.W.Frag) (ta : TA) : TI := fun σ H R => ta σ H fun vs H1 => (∃ a xs, vs = [.ref a] ∧ SqL K H1 a xs ∧ R (Ite K a) H1) ∨ (∃ a xs, vs = [.ref a] ∧ SqT K H1 a xs ∧ R (IteT K a) H1) ∨ ∃ z, vs = [.str z] ∧ R (IteS z) H1
theorem pi_enumA {X : Cx} {e : Expr} {ta : TA} {p pos tpos : Pos} {elts : List Expr} {kk : Nat} (hg : Gl X "enumerate") (hm : X.mg "enumerate" = none) (ha : PA X [e] ta) (hs : starEach [e] X.env = [(false, eval e X.env)]) :
    PI X (.Tuple elts kk tpos) (.Call (.Name "enumerate" p) [e] [] pos) (iEnumA X.K ta) := by
  refine ⟨fun pins s σ H R I h => ?_⟩
  refine Call_ (ld_blt I hg hm boot_enumerate (PyProof.Rows.callWith_type1 (thn (ha.run pos pins s σ H _ I h) fun us s1 ⟨vs, H1, I1, r1, q1⟩ => ?_) hs rfl))
  have fp : ∀ b ∈ [s1.heap.objs.size + 1, s1.heap.objs.size], FpOk X pins H1 b := fun b hb => by
    have e' : b = s1.heap.objs.size + 1 ∨ b = s1.heap.objs.size := by simpa using hb
    have hle : s1.heap.objs.size ≤ b := by
      rcases e' with z | z
      · rw [z]; exact Nat.le_add_right _ _
      · rw [z]; exact Nat.le_refl _
    exact I1.fpOk hle (I1.hok.fresh hle)
  rcases q1 with ⟨a, xs, ex, hq, q⟩ | ⟨a, xs, ex, hq, q⟩ | ⟨z, ex, q⟩
  · subst ex
    cases r1 with
    | cons r rr =>
      cases rr
      cases r
      obtain ⟨its, rv, p', hz⟩ := I1.list hq
      refine call_enumerate_list p'.isList fun h' he hit hsz hk => wpAny_pyIter_enum he ?_
      have I2 : Inv X pins σ H1 { s1 with heap := h' } := I1.kept (t' := s1.toks) hk
      exact ⟨s1.heap.objs.size + 1, [s1.heap.objs.size + 1, s1.heap.objs.size], _, _, H1, rfl, I2, turn_enum a (s1.heap.objs.size + 1) s1.heap.objs.size, ⟨⟨.none, he⟩, hit, Nat.succ_ne_self _⟩, fp, q⟩
  · subst ex
    cases r1 with
    | cons r rr =>
      cases rr
      cases r
      obtain ⟨its, rv, p', hz⟩ := I1.tuple hq
      have hal : a < s1.heap.objs.size := by obtain ⟨_, q, _⟩ := id p'; exact Heap.lt_size q
      refine enum_begins1 (begins_tuple a its.toArray) p' fun h' he hit hsz hk => wpAny_pyIter_enum he ?_
      have I2 : Inv X pins σ H1 { s1 with heap := h' } := I1.kept (t' := s1.toks) hk
      exact ⟨s1.heap.objs.size + 1, [s1.heap.objs.size + 1, s1.heap.objs.size], _, _, H1, rfl, I2, turn_enumT a (s1.heap.objs.size + 1) s1.heap.objs.size, ⟨⟨.none, he⟩, ⟨_, hit, rfl, rfl⟩, Nat.succ_ne_self _, Nat.ne_of_lt hal, Nat.ne_of_lt (Nat.lt_succ_of_lt hal)⟩, fp, q⟩
  · subst ex
    cases r1 with
    | cons r rr =>
      cases rr
      obtain ⟨t, rfl⟩ := r
      refine enum_begins1 (begins_text z t) trivial fun h' he hit hsz hk => wpAny_pyIter_enum he ?_
      have I2 : Inv X pins σ H1 { s1 with heap := h' } := I1.kept (t' := s1.toks) hk
      exact ⟨s1.heap.objs.size + 1, [s1.heap.objs.size + 1, s1.heap.objs.size], _, _, H1, rfl, I2, turn_enumS z t (s1.heap.objs.size + 1) s1.heap.objs.size, ⟨⟨.none, he⟩, ⟨_, hit, rfl, rfl⟩, Nat.succ_ne_self _⟩, fp, q⟩
theorem walk_enumT {K : PySem.W.Frag} {a : Addr} {xs : List V} : Walk (IteT K a) xs.length (fun H => SqT K H a xs) (YPair (fun i => some (.int (i : Nat))) (fun i => xs[i]?)) := by
  refine ⟨fun i _ hi q => ⟨xs, xs[i], q, by simp [hi]⟩, fun _ q => ⟨xs, q, rfl⟩, fun i H v H' _ q y => ?_⟩
  obtain ⟨T, x, h1, h2, h3, h4⟩ := y
  exact ⟨T, .int (i : Nat), x, h1, h2, h3, rfl, h4 xs q⟩
theorem walk_enumS {z : Str} : Walk (IteS z) z.cps.size (fun _ => True) (YPair (fun i => some (.int (i : Nat))) (fun i => z.cps[i]?.map fun c => .str ⟨#[c]⟩)) := by
  refine ⟨fun i _ hi q => hi, fun _ q => rfl, fun i H v H' _ q y => ?_⟩
  obtain ⟨T, c, h1, h2, h3, h4⟩ := y
  exact ⟨T, .int (i : Nat), .str ⟨#[c]⟩, h1, h2, h3, rfl, by show Option.map _ z.cps[i]? = _; rw [h4]; rfl⟩
end Ev
namespace Ev
open PySem PySem.Spec PyProof.Rows L2
/-- the tuples, and what stands at A -/
def pl (A : List Addr) (H : Hp) : Hp := fun a => if a ∈ A then H a else pu H a
theorem pl_same {A : List Addr} {H : Hp} : Same (pl A H) H := fun a o h => by
  unfold pl at h
  split at h
  · exact h
  · exact pu_same a o h
theorem pu_pl {A : List Addr} {H : Hp} : Same (pu H) (pl A H) := fun a o h => by
  unfold pl
  split
  · exact pu_same a o h
  · exact h
theorem pl_at {A : List Addr} {H : Hp} {a : Addr} (h : a ∈ A) : pl A H a = H a := if_pos h
/-- a walk over data, while Hv stands -/
def WalkD (K : PySem.W.Frag) (J : It) (items : List Dt) (Hv : Hp) : Prop := ∃ (G : Hp → Prop) (Y : Nat → Hp → V → Hp → Prop), Walk J items.length G Y ∧ (∀ H2, Same Hv H2 → G H2) ∧
  ∀ i H2 x H', i < items.length → Same Hv H2 → Y i H2 x H' → Same H2 H' ∧ ∃ d, items[i]? = some d ∧ RpD K H' x d
/-- the lists that a walk reads -/
def OrgI (c : I) (σ : L2.St) (H : Hp) (δ : Env) (A : List Addr) : Prop := srcI c = true → ∀ a ∈ A, H a = none ∨ ∃ j ∈ srcVars c, σ[j]? = some (some (.ref a)) ∧ ∃ xs, δ[j]? = some (some (.l xs))
def TI' (K : PySem.W.Frag) (cf : Nat → List Vl → Option Vl) (c : I) : TI := fun σ H R => ∃ δ, SRep K σ H δ ∧ ∃ items, evI cf c δ = some items ∧
  ∀ (J : It) (H1 : Hp) (A : List Addr), Same H H1 → OrgI c σ H δ A → (∀ a ∈ A, ∃ vs, Rd H1 a (.lst vs)) → WalkD K J items (pl A H1) → R J H1
theorem PI.imp {X : Cx} {tg e : Expr} {t t' : TI} (h : PI X tg e t) (i : ∀ σ H R, t' σ H R → t σ H R) : PI X tg e t' := ⟨fun pins s σ H R I q => h.run pins s σ H R I (i _ _ _ q)⟩
section
variable {X : Cx} {cf : Nat → List Vl → Option Vl} {pos : Pos} {a b c : Expr} {ca cb cc : E} {tg : Expr}
abbrev SI (X : Cx) (cf : Nat → List Vl → Option Vl) (tg e : Expr) (c : I) : Prop := PI X tg e (TI' X.K cf c)
theorem orgI_nil {c : I} {σ : L2.St} {H : Hp} {δ : Env} : OrgI c σ H δ [] := fun _ a h => by cases h
theorem rngD_len (i j : Int) : (rngD i j).length = (j - i).toNat := by unfold rngD; rw [List.length_map, List.length_range]
theorem walkD_range {K : PySem.W.Frag} {i j : Int} {Hv : Hp} : WalkD K (Itr i (j - i).toNat) (rngD i j) Hv := by
  refine ⟨_, _, by rw [rngD_len]; exact walk_range, fun _ _ => trivial, fun n H2 x H' hn _ y => ?_⟩
  obtain ⟨rfl, rfl⟩ := y
  rw [rngD_len] at hn
  refine ⟨Same.refl _, .int (i + n), ?_, mk_int⟩
  unfold rngD
  rw [List.getElem?_map, List.getElem?_range hn]
  rfl
theorem small62_of {i : Int} (h : small62 i = true) : -(2 ^ 62) ≤ i ∧ i < 2 ^ 62 := by
  unfold small62 at h
  simpa using h
theorem si_rng1 {p : Pos} (hg : Gl X "range") (hm : X.mg "range" = none) (ha : SE X cf a ca) (hp : plainE a = true) : SI X cf tg (.Call (.Name "range" p) [a] [] pos) (.rng1 ca) := by
  refine PI.imp (pi_range1 hg hm (sa_cons ha sa_nil (star_plain _ _ hp)) (star_plain _ _ hp)) fun σ H R ⟨δ, hS, items, he, q⟩ => ?_
  simp only [evI, bind, Option.bind_eq_some_iff] at he
  obtain ⟨x, hx, i, hi, e⟩ := he
  split at e
  · rename_i hk
    cases e
    refine ⟨δ, hS, [x], by simp [evEs, hx], fun vs H1 s1 r1 => ?_⟩
    obtain ⟨v, rfl, hv⟩ := vs1 r1
    refine ⟨i, by rw [asI_v hv hi], (small62_of hk).1, (small62_of hk).2, ?_⟩
    have := walkD_range (K := X.K) (i := 0) (j := i) (Hv := pl [] H1)
    rw [show (i - 0).toNat = i.toNat by omega] at this
    exact q _ H1 [] s1 orgI_nil (fun a h => by cases h) this
  · cases e
theorem si_rng2 {p : Pos} (hg : Gl X "range") (hm : X.mg "range" = none) (ha : SE X cf a ca) (hb : SE X cf b cb) (hp : plainE a = true) (hp2 : plainE b = true) : SI X cf tg (.Call (.Name "range" p) [a, b] [] pos) (.rng2 ca cb) := by
  refine PI.imp (pi_range2 hg hm (sa_cons ha (sa_cons hb sa_nil (star_plain _ _ hp2)) (star_plain _ _ hp)) (by rw [star_plain _ _ hp, star_plain _ _ hp2]; rfl) (star_plain _ _ hp2)) fun σ H R ⟨δ, hS, items, he, q⟩ => ?_
  simp only [evI, bind, Option.bind_eq_some_iff] at he
  obtain ⟨x, hx, y, hy, i, hi, j, hj, e⟩ := he
  split at e
  · rename_i hk
    rw [Bool.and_eq_true] at hk
    cases e
    refine ⟨δ, hS, [x, y], by simp [evEs, hx, hy], fun vs H1 s1 r1 => ?_⟩
    obtain ⟨v, w, rfl, hv, hw⟩ := vs2 r1
    exact ⟨i, j, by rw [asI_v hv hi, asI_v hw hj], ⟨(small62_of hk.1).1, (small62_of hk.1).2, (small62_of hk.2).1, (small62_of hk.2).2⟩, q _ H1 [] s1 orgI_nil (fun a h => by cases h) walkD_range⟩
  · cases e
theorem vs3 {K : PySem.W.Frag} {H : Hp} {xs : List V} {a b c : Vl} (h : RpVs K H xs [a, b, c]) : ∃ x y z, xs = [x, y, z] ∧ RpV K H x a ∧ RpV K H y b ∧ RpV K H z c := by
  cases h with
  | cons h t =>
    obtain ⟨y, z, rfl, h2, h3⟩ := vs2 t
    exact ⟨_, _, _, rfl, h, h2, h3⟩
theorem si_rng3 {p : Pos} (hg : Gl X "range") (hm : X.mg "range" = none) (ha : SE X cf a ca) (hb : SE X cf b cb) (hc : SE X cf c cc) (hp : plainE a = true) (hp2 : plainE b = true) (hp3 : plainE c = true) : SI X cf tg (.Call (.Name "range" p) [a, b, c] [] pos) (.rng3 ca cb cc) := by
  refine PI.imp (pi_range3 hg hm (sa_cons ha (sa_cons hb (sa_cons hc sa_nil (star_plain _ _ hp3)) (star_plain _ _ hp2)) (star_plain _ _ hp)) (star_plain _ _ hp) (star_all _ _ (by simp [hp2, hp3]))) fun σ H R ⟨δ, hS, items, he, q⟩ => ?_
  simp only [evI, bind, Option.bind_eq_some_iff] at he
  obtain ⟨x, hx, y, hy, z, hz, i, hi, j, hj, k, hk, e⟩ := he
  split at e
  · rename_i hk2
    simp only [Bool.and_eq_true, decide_eq_true_eq] at hk2
    cases e
    refine ⟨δ, hS, [x, y, z], by simp [evEs, hx, hy, hz], fun vs H1 s1 r1 => ?_⟩
    obtain ⟨u, v, w, rfl, hu, hv, hw⟩ := vs3 r1
    refine ⟨i, j, k, (Builtin.Range.rangeSize i j k).toNat, by rw [asI_v hu hi, asI_v hv hj, asI_v hw hk], ⟨hk2.1.1.1, hk2.1.1.2, hk2.1.2, by omega⟩, q _ H1 [] s1 orgI_nil (fun a h => by cases h) ?_⟩
    have hl : (rng3D i k (Builtin.Range.rangeSize i j k).toNat).length = (Builtin.Range.rangeSize i j k).toNat := by unfold rng3D; rw [List.length_map, List.length_range]
    refine ⟨_, _, by rw [hl]; exact walk_rangeC, fun _ _ => trivial, fun n H2 x H' hn _ y => ?_⟩
    obtain ⟨rfl, rfl⟩ := y
    rw [hl] at hn
    refine ⟨Same.refl _, .int (i + n * k), ?_, mk_int⟩
    unfold rng3D
    rw [List.getElem?_map, List.getElem?_range hn]
    rfl
  · cases e
/-- a list, a tuple, a text -/
theorem walkD_list {K : PySem.W.Frag} {p : Addr} {vs : List V} {xs : List Dt} {H1 : Hp} (h : Rd H1 p (.lst vs)) (h2 : RpDs K H1 vs xs) : WalkD K (Itl K p) xs (pl [p] H1) := by
  have e : Same (pu H1) (pl [p] H1) := pu_pl
  refine ⟨fun H => SqL K H p vs, YAt vs, by rw [← h2.length]; exact walk_list, fun H2 s2 => sqL_mono s2 (.inl (h.imp (fun q => by rw [pl_at List.mem_cons_self]; exact q) fun ⟨o, q⟩ => ⟨o, by rw [pl_at List.mem_cons_self]; exact q⟩)), fun n H2 x H' hn s2 y => ?_⟩
  obtain ⟨rfl, hx⟩ := y
  obtain ⟨d, hd, r⟩ := pr_getL h2 hx
  exact ⟨Same.refl _, d, hd, r.keep (pu_of (e.trans s2))⟩
theorem walkD_tup {K : PySem.W.Frag} {p : Addr} {vs : List V} {xs : List Dt} {H1 : Hp} (h : SqT K H1 p vs) (h2 : RpDs K H1 vs xs) : WalkD K (Itt K p) xs (pl [] H1) := by
  have e : Same (pu H1) (pl [] H1) := pu_pl
  refine ⟨fun H => SqT K H p vs, YAt vs, by rw [← h2.length]; exact walk_tup, fun H2 s2 => sqT_mono (e.trans s2) (sqT_pu h), fun n H2 x H' hn s2 y => ?_⟩
  obtain ⟨rfl, hx⟩ := y
  obtain ⟨d, hd, r⟩ := pr_getL h2 hx
  exact ⟨Same.refl _, d, hd, r.keep (pu_of (e.trans s2))⟩
theorem walkD_str {K : PySem.W.Frag} {z : List Nat} {Hv : Hp} : WalkD K (Its ⟨z.toArray⟩) (z.map fun c => .str [c]) Hv := by
  refine ⟨_, _, by rw [List.length_map]; exact (by simpa using walk_str (z := ⟨z.toArray⟩)), fun _ _ => trivial, fun n H2 x H' hn _ y => ?_⟩
  obtain ⟨rfl, c, hc, rfl⟩ := y
  refine ⟨Same.refl _, .str [c], ?_, mk_str⟩
  have hc' : z[n]? = some c := by simpa using hc
  rw [List.getElem?_map, hc']
  rfl
/-- how a source's list comes -/
theorem join_some {α : Type} {o : Option (Option α)} {r : α} (h : o.join = some r) : o = some (some r) := by
  cases o with
  | none => cases h
  | some q => simp [Option.join] at h; rw [h]
theorem asVar_eq {e : E} {j : Nat} (h : asVar e = some j) : e = .var j := by
  cases e <;> first | (simp [asVar] at h; rw [h]) | (simp [asVar] at h)
theorem org_src {e : E} {σ : L2.St} {H H1 : Hp} {p : Addr} {xs : List Dt} {δ : Env} (o : Org X.K e σ H H1 (.ref p) (.l xs)) (hx : evE cf e δ = some (.l xs)) (h : srcOk e = true) : H p = none ∨ ∃ j ∈ (asVar e).toList, σ[j]? = some (some (.ref p)) ∧ ∃ xs, δ[j]? = some (some (.l xs)) := by
  unfold srcOk at h
  rw [Bool.or_eq_true] at h
  rcases h with h | h
  · obtain ⟨q, vs, e1, e2, _⟩ := o.1 h
    cases e1
    exact .inl e2
  · obtain ⟨j, hj⟩ := Option.isSome_iff_exists.mp h
    have ej := asVar_eq hj
    subst ej
    simp only [evE] at hx
    exact .inr ⟨j, by rw [hj]; exact List.mem_cons_self, o.2 j hj, xs, join_some hx⟩
theorem si_seq (ha : SE X cf a ca) : SI X cf tg a (.seq ca) := by
  refine ⟨fun pins s σ H R I ⟨δ, hS, items, he, q⟩ => ?_⟩
  simp only [evI, bind, Option.bind_eq_some_iff] at he
  obtain ⟨x, hx, e⟩ := he
  cases x with
  | h d =>
    cases d with
    | tup xs =>
      simp only [itemsOf, Option.some.injEq] at e
      subst e
      refine (pi_tup (tg := tg) ha).run pins s σ H R I ⟨δ, hS, _, hx, fun v H1 s1 r1 _ => ?_⟩
      obtain ⟨p, vs, rfl, h2, h3⟩ := rp_tup r1
      exact ⟨p, rfl, ⟨vs, h2⟩, q _ H1 [] s1 orgI_nil (fun a h => by cases h) (walkD_tup h2 h3)⟩
    | str z =>
      simp only [Option.some.injEq] at e
      subst e
      exact (pi_str (tg := tg) ha).run pins s σ H R I ⟨δ, hS, _, hx, fun v H1 s1 r1 _ => ⟨_, rp_str r1, q _ H1 [] s1 orgI_nil (fun a h => by cases h) walkD_str⟩⟩
    | non => simp [itemsOf] at e
    | bl _ => simp [itemsOf] at e
    | int _ => simp [itemsOf] at e
  | l xs =>
    simp only [itemsOf, Option.some.injEq] at e
    subst e
    refine (pi_list (tg := tg) ha).run pins s σ H R I ⟨δ, hS, _, hx, fun v H1 s1 r1 o => ?_⟩
    obtain ⟨p, vs, rfl, h2, h3⟩ := r1
    refine ⟨p, rfl, ⟨vs, .inl h2⟩, q _ H1 [p] s1 (fun hs a h => ?_) (fun a h => ?_) (walkD_list h2 h3)⟩
    · have : a = p := by simpa using h
      subst this
      exact org_src o hx hs
    · have : a = p := by simpa using h
      subst this
      exact ⟨vs, h2⟩
  | s _ => simp [itemsOf] at e
  | m _ => simp [itemsOf] at e
theorem zipD_len (xs ys : List Dt) : (zipD xs ys).length = min xs.length ys.length := by unfold zipD; rw [List.length_map, List.length_zip]
theorem new_pair {K : PySem.W.Frag} {H : Hp} {T : Addr} {x y : V} {d e : Dt} (hT : H T = none) (h1 : RpD K H x d) (h2 : RpD K H y e) : Same H (upd H T (.tup [x, y])) ∧ RpD K (upd H T (.tup [x, y])) (.ref T) (.tup [d, e]) := by
  have s : Same H (upd H T (.tup [x, y])) := fun b o z => by rw [upd_ne (ne_of_none z hT)]; exact z
  exact ⟨s, mk_tup (.inl (.inl upd_same)) (.cons (h1.mono s) (.cons (h2.mono s) .nil))⟩
theorem zip_at {xs ys : List Dt} {n : Nat} {d e : Dt} (h1 : xs[n]? = some d) (h2 : ys[n]? = some e) : (zipD xs ys)[n]? = some (.tup [d, e]) := by
  unfold zipD
  rw [List.getElem?_map, show (xs.zip ys)[n]? = some (d, e) from List.getElem?_zip_eq_some.mpr ⟨h1, h2⟩]
  rfl
theorem srcOk_var {e : E} {j : Nat} (h : j ∈ (asVar e).toList) {ys : List Nat} : j ∈ (asVar e).toList ++ ys := List.mem_append_left _ h
theorem walkD_zipL {K : PySem.W.Frag} {p q : Addr} {vs ws : List V} {xs ys : List Dt} {H1 : Hp} (h : Rd H1 p (.lst vs)) (h2 : RpDs K H1 vs xs) (h3 : Rd H1 q (.lst ws)) (h4 : RpDs K H1 ws ys) : WalkD K (Itz K p q) (zipD xs ys) (pl [p, q] H1) := by
  have e : Same (pu H1) (pl [p, q] H1) := pu_pl
  have g : ∀ {a : Addr} {us : List V} {H2 : Hp}, a ∈ [p, q] → Rd H1 a (.lst us) → Same (pl [p, q] H1) H2 → SqL K H2 a us := fun {a us H2} ha r s2 =>
    sqL_mono s2 (.inl (r.imp (fun z => by rw [pl_at ha]; exact z) fun ⟨o, z⟩ => ⟨o, by rw [pl_at ha]; exact z⟩))
  refine ⟨fun H => SqL K H p vs ∧ SqL K H q ws, _, walk_zip (by rw [zipD_len, ← h2.length, ← h4.length]), fun H2 s2 => ⟨g (by simp) h s2, g (by simp) h3 s2⟩, fun n H2 x H' hn s2 hyy => ?_⟩
  obtain ⟨T, x, y, rfl, hT, rfl, e1, e2⟩ := hyy
  obtain ⟨d1, g1, r1⟩ := pr_getL h2 e1
  obtain ⟨d2, g2, r2⟩ := pr_getL h4 e2
  obtain ⟨k1, k2⟩ := new_pair hT (r1.keep (pu_of (e.trans s2))) (r2.keep (pu_of (e.trans s2)))
  exact ⟨k1, _, zip_at g1 g2, k2⟩
theorem si_zip {p : Pos} {elts : List Expr} {kk : Nat} {tpos : Pos} (hg : Gl X "zip") (hm : X.mg "zip" = none) (ha : SE X cf a ca) (hb : SE X cf b cb) (hp : plainE a = true) (hp2 : plainE b = true) :
    SI X cf (.Tuple elts kk tpos) (.Call (.Name "zip" p) [a, b] [] pos) (.zip ca cb) := by
  refine PI.imp (RZ.pi_zipA hg hm (pa_cons ha (pa_cons hb pa_nil (star_plain _ _ hp2)) (star_plain _ _ hp)) (star_plain _ _ hp) (star_all _ _ (by simp [hp2]))) fun σ H R ⟨δ, hS, items, he, q⟩ => ?_
  simp only [evI, bind, Option.bind_eq_some_iff] at he
  obtain ⟨x, hx, y, hy, e⟩ := he
  refine ⟨δ, hS, x, hx, fun v H1 s1 r1 o1 => ⟨δ, hS.mono s1, y, hy, fun w H2 s2 r2 o2 => ?_⟩⟩
  split at e
  · rename_i xs ys
    cases e
    have r1' := r1.mono s2
    obtain ⟨p1, vs, rfl, h2, h3⟩ := r1'
    obtain ⟨p2, ws, rfl, h4, h5⟩ := r2
    refine ⟨p1, p2, vs, ws, rfl, .inl ⟨.inl h2, .inl h4, q _ H2 [p1, p2] (s1.trans s2) (fun hs a h => ?_) (fun a h => ?_) (walkD_zipL h2 h3 h4 h5)⟩⟩
    · simp only [srcI, Bool.and_eq_true] at hs
      have h' : a = p1 ∨ a = p2 := by simpa using h
      rcases h' with rfl | rfl
      · rcases org_src o1 hx hs.1 with k | ⟨j, k1, k2⟩
        · exact .inl k
        · exact .inr ⟨j, List.mem_append_left _ k1, k2⟩
      · rcases org_src o2 hy hs.2 with k | ⟨j, k1, k2⟩
        · exact .inl (s1.free k)
        · exact .inr ⟨j, List.mem_append_right _ k1, k2⟩
    · have h' : a = p1 ∨ a = p2 := by simpa using h
      rcases h' with rfl | rfl
      · exact ⟨_, h2⟩
      · exact ⟨_, h4⟩
  · rename_i xs ys
    cases e
    obtain ⟨p1, vs, rfl, h2, h3⟩ := rp_tup (RpV.mono s2 r1)
    obtain ⟨p2, ws, rfl, h4, h5⟩ := rp_tup r2
    refine ⟨p1, p2, vs, ws, rfl, .inr ⟨h2, h4, q _ H2 [] (s1.trans s2) orgI_nil (fun a h => by cases h) ?_⟩⟩
    have e : Same (pu H2) (pl [] H2) := pu_pl
    refine ⟨fun H => SqT X.K H p1 vs ∧ SqT X.K H p2 ws, YPair (fun i => vs[i]?) (fun i => ws[i]?), ?_, fun H3 s3 => ⟨sqT_mono (e.trans s3) (sqT_pu h2), sqT_mono (e.trans s3) (sqT_pu h4)⟩, fun n H3 x H' hn s3 hyy => ?_⟩
    · rw [zipD_len, ← h3.length, ← h5.length]
      refine ⟨fun i H hi q => ?_, fun H q => ⟨vs, ws, q.1, q.2, by omega⟩, fun i H v H' _ q y => ?_⟩
      · have h1 : i < vs.length := by omega
        have h2 : i < ws.length := by omega
        exact ⟨vs, ws, vs[i], ws[i], q.1, q.2, by simp [h1], by simp [h2]⟩
      · obtain ⟨T, x, z, h1, h2, h3, h4, h5⟩ := y
        exact ⟨T, x, z, h1, h2, h3, h4 vs q.1, h5 ws q.2⟩
    · obtain ⟨T, x, y, rfl, hT, rfl, e1, e2⟩ := hyy
      obtain ⟨d1, g1, r1⟩ := pr_getL h3 e1
      obtain ⟨d2, g2, r2⟩ := pr_getL h5 e2
      obtain ⟨k1, k2⟩ := new_pair hT (r1.keep (pu_of (e.trans s3))) (r2.keep (pu_of (e.trans s3)))
      exact ⟨k1, _, zip_at g1 g2, k2⟩
  · cases e
theorem enumD_len (xs : List Dt) : (enumD xs).length = xs.length := by unfold enumD; rw [List.length_map, List.length_zipIdx]
theorem enum_at {xs : List Dt} {n : Nat} {d : Dt} (h : xs[n]? = some d) : (enumD xs)[n]? = some (.tup [.int (n : Nat), d]) := by
  unfold enumD
  rw [List.getElem?_map, List.getElem?_zipIdx, h]
  simp
theorem walkD_enum {K : PySem.W.Frag} {J : It} {G : Hp → Prop} {vs : List V} {xs : List Dt} {H1 Hv : Hp} (w : Walk J vs.length G (YPair (fun i => some (.int (i : Nat))) (fun i => vs[i]?))) (hG : ∀ H2, Same Hv H2 → G H2) (h2 : RpDs K H1 vs xs) (e : Same (pu H1) Hv) : WalkD K J (enumD xs) Hv := by
  refine ⟨G, _, by rw [enumD_len, ← h2.length]; exact w, hG, fun n H2 x H' hn s2 hyy => ?_⟩
  obtain ⟨T, x, y, rfl, hT, rfl, e1, e2⟩ := hyy
  cases e1
  obtain ⟨d2, g2, r2⟩ := pr_getL h2 e2
  obtain ⟨k1, k2⟩ := new_pair (d := .int (n : Nat)) hT mk_int (r2.keep (pu_of (e.trans s2)))
  exact ⟨k1, _, enum_at g2, k2⟩
theorem rp_signs {K : PySem.W.Frag} {H : Hp} : ∀ z : List Nat, RpDs K H (z.map fun c => .str ⟨#[c]⟩) (z.map fun c => .str [c])
  | [] => .nil
  | _ :: z => .cons mk_str (rp_signs z)
theorem si_enum {p : Pos} {elts : List Expr} {kk : Nat} {tpos : Pos} (hg : Gl X "enumerate") (hm : X.mg "enumerate" = none) (ha : SE X cf a ca) (hp : plainE a = true) :
    SI X cf (.Tuple elts kk tpos) (.Call (.Name "enumerate" p) [a] [] pos) (.enum ca) := by
  refine PI.imp (pi_enumA hg hm (pa_cons ha pa_nil (star_plain _ _ hp)) (star_plain _ _ hp)) fun σ H R ⟨δ, hS, items, he, q⟩ => ?_
  simp only [evI, bind, Option.bind_eq_some_iff] at he
  obtain ⟨x, hx, e⟩ := he
  refine ⟨δ, hS, x, hx, fun v H1 s1 r1 o1 => ?_⟩
  cases x with
  | h d =>
    cases d with
    | tup xs =>
      simp only [itemsOf, Option.map_some, Option.some.injEq] at e
      subst e
      obtain ⟨p, vs, rfl, h2, h3⟩ := rp_tup r1
      have e : Same (pu H1) (pl [] H1) := pu_pl
      exact .inr (.inl ⟨p, vs, rfl, h2, q _ H1 [] s1 orgI_nil (fun a h => by cases h) (walkD_enum walk_enumT (fun H2 s2 => sqT_mono (e.trans s2) (sqT_pu h2)) h3 e)⟩)
    | str z =>
      simp only [Option.some.injEq] at e
      subst e
      have e : Same (pu H1) (pl [] H1) := pu_pl
      have w : Walk (IteS ⟨z.toArray⟩) (z.map fun c => V.str ⟨#[c]⟩).length (fun _ => True) (YPair (fun i => some (.int (i : Nat))) (fun i => (z.map fun c => V.str ⟨#[c]⟩)[i]?)) := by
        have := walk_enumS (z := ⟨z.toArray⟩)
        simpa using this
      exact .inr (.inr ⟨_, by rw [rp_str r1], q _ H1 [] s1 orgI_nil (fun a h => by cases h) (walkD_enum (H1 := H1) w (fun _ _ => trivial) (rp_signs z) e)⟩)
    | non => simp [itemsOf] at e
    | bl _ => simp [itemsOf] at e
    | int _ => simp [itemsOf] at e
  | l xs =>
    simp only [itemsOf, Option.map_some, Option.some.injEq] at e
    subst e
    obtain ⟨p, vs, rfl, h2, h3⟩ := r1
    have e : Same (pu H1) (pl [p] H1) := pu_pl
    refine .inl ⟨p, vs, rfl, .inl h2, q _ H1 [p] s1 (fun hs a h => ?_) (fun a h => ?_) (walkD_enum walk_enum (fun H2 s2 => sqL_mono s2 (.inl (h2.imp (fun q => by rw [pl_at List.mem_cons_self]; exact q) fun ⟨o, q⟩ => ⟨o, by rw [pl_at List.mem_cons_self]; exact q⟩))) h3 e)⟩
    · have : a = p := by simpa using h
      subst this
      exact org_src o1 hx hs
    · have : a = p := by simpa using h
      subst this
      exact ⟨vs, h2⟩
  | s _ => simp [itemsOf] at e
  | m _ => simp [itemsOf] at e
end

mutual
/-- the slots behind a target's store -/
def Bound (K : PySem.W.Frag) (H : Hp) : Tg → Dt → L2.St → L2.St → Prop
  | .nm i, d, σ, σ' => ∃ v, RpD K H v d ∧ σ' = σ.set i (some v)
  | .tp ts, .tup xs, σ, σ' => Bounds K H ts xs σ σ'
  | .tp _, _, _, _ => False
def Bounds (K : PySem.W.Frag) (H : Hp) : List Tg → List Dt → L2.St → L2.St → Prop
  | [], [], σ, σ' => σ' = σ
  | t :: ts, x :: xs, σ, σ' => ∃ σ1, Bound K H t x σ σ1 ∧ Bounds K H ts xs σ1 σ'
  | _, _, _, _ => False
end
mutual
/-- the target suits the data -/
def fits : Tg → Dt → Bool
  | .nm _, _ => true
  | .tp ts, .tup xs => fitss ts xs
  | .tp _, _ => false
def fitss : List Tg → List Dt → Bool
  | [], [] => true
  | t :: ts, x :: xs => fits t x && fitss ts xs
  | _, _ => false
end
mutual
theorem bind_fits : ∀ (t : Tg) (d : Dt) (δ δ' : Env), bindE t d δ = some δ' → fits t d = true
  | .nm _, _, _, _, _ => by simp [fits]
  | .tp ts, .tup xs, δ, δ', h => by
    simp only [bindE] at h
    simp only [fits]
    exact binds_fits ts xs δ δ' h
  | .tp _, .non, _, _, h => by simp [bindE] at h
  | .tp _, .bl _, _, _, h => by simp [bindE] at h
  | .tp _, .int _, _, _, h => by simp [bindE] at h
  | .tp _, .str _, _, _, h => by simp [bindE] at h
theorem binds_fits : ∀ (ts : List Tg) (xs : List Dt) (δ δ' : Env), bindEs ts xs δ = some δ' → fitss ts xs = true
  | [], [], _, _, _ => by simp [fitss]
  | t :: ts, x :: xs, δ, δ', h => by
    simp only [bindEs, bind, Option.bind_eq_some_iff] at h
    obtain ⟨δ1, h1, h2⟩ := h
    simp only [fitss, bind_fits t x δ δ1 h1, binds_fits ts xs δ1 δ' h2, Bool.and_self]
  | [], _ :: _, _, _, h => by simp [bindEs] at h
  | _ :: _, [], _, _, h => by simp [bindEs] at h
end
theorem srep_set {K : PySem.W.Frag} {σ : L2.St} {H : Hp} {δ : Env} {i : Nat} {v : V} {r : Vl} (h : SRep K σ H δ) (hv : RpV K H v r) (hl : i < σ.length) : SRep K (σ.set i (some v)) H (δ.set i (some r)) := fun j q hj => by
  by_cases e : i = j
  · subst e
    rw [List.getElem?_set_self hl]
    by_cases hd : i < δ.length
    · rw [List.getElem?_set_self hd] at hj
      cases hj
      exact ⟨v, rfl, hv⟩
    · rw [List.getElem?_eq_none (by rw [List.length_set]; omega)] at hj
      cases hj
  · rw [List.getElem?_set_ne e] at hj ⊢
    exact h j q hj
mutual
theorem bound_len {K : PySem.W.Frag} {H : Hp} : ∀ (t : Tg) (d : Dt) (σ σ' : L2.St), Bound K H t d σ σ' → σ'.length = σ.length
  | .nm _, _, _, _, h => by
    simp only [Bound] at h
    obtain ⟨v, _, rfl⟩ := h
    exact List.length_set
  | .tp ts, .tup xs, σ, σ', h => by
    simp only [Bound] at h
    exact bounds_len ts xs σ σ' h
  | .tp _, .non, _, _, h => by simp [Bound] at h
  | .tp _, .bl _, _, _, h => by simp [Bound] at h
  | .tp _, .int _, _, _, h => by simp [Bound] at h
  | .tp _, .str _, _, _, h => by simp [Bound] at h
theorem bounds_len {K : PySem.W.Frag} {H : Hp} : ∀ (ts : List Tg) (xs : List Dt) (σ σ' : L2.St), Bounds K H ts xs σ σ' → σ'.length = σ.length
  | [], [], _, _, h => by simp only [Bounds] at h; rw [h]
  | t :: ts, x :: xs, σ, σ', h => by
    simp only [Bounds] at h
    obtain ⟨σ1, h1, h2⟩ := h
    rw [bounds_len ts xs σ1 σ' h2, bound_len t x σ σ1 h1]
  | [], _ :: _, _, _, h => by simp [Bounds] at h
  | _ :: _, [], _, _, h => by simp [Bounds] at h
end
mutual
theorem bound_srep {K : PySem.W.Frag} {H : Hp} : ∀ (t : Tg) (d : Dt) (σ σ' : L2.St) (δ δ' : Env), Bound K H t d σ σ' → bindE t d δ = some δ' → δ.length ≤ σ.length → SRep K σ H δ → SRep K σ' H δ' ∧ δ'.length ≤ σ'.length
  | .nm i, d, σ, σ', δ, δ', h, hb, hl, hS => by
    simp only [Bound] at h
    simp only [bindE] at hb
    obtain ⟨v, hv, rfl⟩ := h
    cases hb
    refine ⟨?_, by simpa using hl⟩
    by_cases hi : i < σ.length
    · exact srep_set hS hv hi
    · rw [List.set_eq_of_length_le (by omega), List.set_eq_of_length_le (by omega)]
      exact hS
  | .tp ts, .tup xs, σ, σ', δ, δ', h, hb, hl, hS => by
    simp only [Bound] at h
    simp only [bindE] at hb
    exact bounds_srep ts xs σ σ' δ δ' h hb hl hS
  | .tp _, .non, _, _, _, _, h, _, _, _ => by simp [Bound] at h
  | .tp _, .bl _, _, _, _, _, h, _, _, _ => by simp [Bound] at h
  | .tp _, .int _, _, _, _, _, h, _, _, _ => by simp [Bound] at h
  | .tp _, .str _, _, _, _, _, h, _, _, _ => by simp [Bound] at h
theorem bounds_srep {K : PySem.W.Frag} {H : Hp} : ∀ (ts : List Tg) (xs : List Dt) (σ σ' : L2.St) (δ δ' : Env), Bounds K H ts xs σ σ' → bindEs ts xs δ = some δ' → δ.length ≤ σ.length → SRep K σ H δ → SRep K σ' H δ' ∧ δ'.length ≤ σ'.length
  | [], [], _, _, _, _, h, hb, hl, hS => by
    simp only [Bounds] at h
    simp only [bindEs] at hb
    cases hb
    subst h
    exact ⟨hS, hl⟩
  | t :: ts, x :: xs, σ, σ', δ, δ', h, hb, hl, hS => by
    simp only [Bounds] at h
    obtain ⟨σ1, h1, h2⟩ := h
    simp only [bindEs, bind, Option.bind_eq_some_iff] at hb
    obtain ⟨δ1, b1, b2⟩ := hb
    obtain ⟨k1, k2⟩ := bound_srep t x σ σ1 δ δ1 h1 b1 hl hS
    exact bounds_srep ts xs σ1 σ' δ1 δ' h2 b2 k2 k1
  | [], _ :: _, _, _, _, _, h, _, _, _ => by simp [Bounds] at h
  | _ :: _, [], _, _, _, _, h, _, _, _ => by simp [Bounds] at h
end
abbrev gR (K : PySem.W.Frag) (g : Tg) : TG := fun v σ H Q => ∃ d, RpD K H v d ∧ fits g d = true ∧ ∀ σ', Bound K H g d σ σ' → Q σ' H
abbrev gRs (K : PySem.W.Frag) (g : List Tg) : TGs := fun vs σ H Q => ∃ ds, RpDs K H vs ds ∧ fitss g ds = true ∧ ∀ σ', Bounds K H g ds σ σ' → Q σ' H
theorem PG.imp {X : Cx} {e : Expr} {t t' : TG} (h : PG X e t) (i : ∀ v σ H Q, t' v σ H Q → t v σ H Q) : PG X e t' := ⟨fun pins s σ H v u Q I r q => h.run pins s σ H v u Q I r (i _ _ _ _ q)⟩
theorem PGs.imp {X : Cx} {e : List Expr} {t t' : TGs} (h : PGs X e t) (i : ∀ v σ H Q, t' v σ H Q → t v σ H Q) : PGs X e t' := ⟨fun pins s σ H v u Q I r q => h.run pins s σ H v u Q I r (i _ _ _ _ q)⟩
section
variable {X : Cx} {pos : Pos}
theorem g_name {i : Nat} {x : Str} (hN : X.N.Nodup) (hi : X.N[i]? = some x) (hx : Loc X.env.scope x) (hf : X.fn x = true ∨ X.env.scope.names.lookup x = some .local) : PG X (.Name x pos) (gR X.K (.nm i)) :=
  PG.imp (pg_name hN hi hx hf) fun v σ H Q ⟨d, hd, _, q⟩ => q _ ⟨v, hd, rfl⟩
theorem gs_nil : PGs X [] (gRs X.K []) := PGs.imp pgs_nil fun vs σ H Q ⟨ds, hd, hf, q⟩ => by
  cases hd with
  | nil => exact ⟨rfl, q σ (by simp only [Bounds])⟩
  | cons _ _ => simp [fitss] at hf
theorem gs_cons {e : Expr} {es : List Expr} {g : Tg} {gs : List Tg} (h1 : PG X e (gR X.K g)) (h2 : PGs X es (gRs X.K gs)) (hs : (assignEach (e :: es) X.env).map (·.2) = assign e X.env :: (assignEach es X.env).map (·.2)) : PGs X (e :: es) (gRs X.K (g :: gs)) :=
  PGs.imp (pgs_cons h1 h2 hs) fun vs σ H Q ⟨ds, hd, hf, q⟩ => by
    cases hd with
    | nil => simp [fitss] at hf
    | cons r t =>
      simp only [fitss, Bool.and_eq_true] at hf
      exact ⟨_, _, rfl, _, r, hf.1, fun σ1 b1 => ⟨_, t, hf.2, fun σ2 b2 => q σ2 (by simp only [Bounds]; exact ⟨σ1, b1, b2⟩)⟩⟩
theorem fitss_len : ∀ (gs : List Tg) (ds : List Dt), fitss gs ds = true → gs.length = ds.length
  | [], [], _ => rfl
  | _ :: gs, _ :: ds, h => by
    simp only [fitss, Bool.and_eq_true] at h
    simp [fitss_len gs ds h.2]
  | [], _ :: _, h => by simp [fitss] at h
  | _ :: _, [], h => by simp [fitss] at h
theorem g_tup {es : List Expr} {k : Nat} {gs : List Tg} (hc : X.calm = true) (h : PGs X es (gRs X.K gs)) (hn : (assignEach es X.env).length = gs.length) (hst : (assignEach es X.env).findIdx? (·.1) = none) : PG X (.Tuple es k pos) (gR X.K (.tp gs)) :=
  PG.imp (pg_tup hc h hn hst) fun v σ H Q ⟨d, hd, hf, q⟩ => by
    cases d with
    | tup xs =>
      simp only [fits] at hf
      obtain ⟨a, vs, rfl, h2, h3⟩ := rp_tup hd
      exact ⟨a, vs, rfl, h2, by rw [h3.length, fitss_len gs xs hf], xs, h3, hf, fun σ' b => q σ' (by simp only [Bound]; exact b)⟩
    | _ => simp [fits] at hf
/-- a plain target -/
def tgE : Expr → Bool
  | .Name _ _ => true
  | .Tuple _ _ _ => true
  | _ => false
theorem assign_plain (env : PySem.Env) (e : Expr) (es : List Expr) (h : tgE e = true) : assignEach (e :: es) env = (false, assign e env) :: assignEach es env := by
  cases e <;> first | rfl | cases h
theorem assign_len (env : PySem.Env) : ∀ es : List Expr, es.all tgE = true → (assignEach es env).length = es.length ∧ (assignEach es env).findIdx? (·.1) = none
  | [], _ => ⟨rfl, rfl⟩
  | e :: es, h => by
    rw [List.all_cons, Bool.and_eq_true] at h
    obtain ⟨h1, h2⟩ := assign_len env es h.2
    rw [assign_plain env e es h.1]
    refine ⟨by rw [List.length_cons, List.length_cons, h1], ?_⟩
    rw [List.findIdx?_cons, h2]
    rfl
end
end Ev
namespace Ev
open PySem PySem.Spec PyProof.Rows L2
theorem wipeE_len (δ : Env) : ∀ vs : List Nat, (wipeE δ vs).length = δ.length
  | [] => rfl
  | v :: vs => by unfold wipeE; rw [List.length_set, wipeE_len δ vs]
theorem srep_wipe {K : PySem.W.Frag} {σ : L2.St} {H : Hp} {δ : Env} (h : SRep K σ H δ) : ∀ vs : List Nat, SRep K (wipe σ vs) H (wipeE δ vs)
  | [] => h
  | v :: vs => fun i r hi => by
    have ih := srep_wipe h vs
    unfold wipeE at hi
    unfold wipe
    by_cases e : v = i
    · subst e
      by_cases hv : v < (wipeE δ vs).length
      · rw [List.getElem?_set_self hv] at hi; cases hi
      · rw [List.getElem?_eq_none (by rw [List.length_set]; omega)] at hi; cases hi
    · rw [List.getElem?_set_ne e] at hi ⊢
      exact ih i r hi
mutual
/-- a store within the block's own slots -/
def tgIn (own : List Nat) : Tg → Bool
  | .nm i => own.contains i
  | .tp ts => tgsIn own ts
def tgsIn (own : List Nat) : List Tg → Bool
  | [] => true
  | t :: ts => tgIn own t && tgsIn own ts
end
theorem wipe_set {i : Nat} {v : Option V} : ∀ {own : List Nat} {σ : L2.St}, i ∈ own → wipe (σ.set i v) own = wipe σ own
  | o :: own, σ, h => by
    unfold wipe
    by_cases e : i ∈ own
    · rw [wipe_set e]
    · have ei : i = o := by
        rcases List.mem_cons.mp h with h | h
        · exact h
        · exact absurd h e
      subst ei
      have : ∀ (ws : List Nat), i ∉ ws → wipe (σ.set i v) ws = (wipe σ ws).set i v := by
        intro ws
        induction ws with
        | nil => intro _; rfl
        | cons w ws ih =>
          intro hn
          rw [List.mem_cons, not_or] at hn
          unfold wipe
          rw [ih hn.2, List.set_comm _ _ hn.1]
      rw [this own e, List.set_set]
mutual
theorem wipe_bound {K : PySem.W.Frag} {H : Hp} {own : List Nat} : ∀ (t : Tg) (d : Dt) (σ σ' : L2.St), Bound K H t d σ σ' → tgIn own t = true → wipe σ' own = wipe σ own
  | .nm i, _, σ, _, h, hi => by
    simp only [Bound] at h
    simp only [tgIn] at hi
    obtain ⟨v, _, rfl⟩ := h
    exact wipe_set (by simpa using hi)
  | .tp ts, .tup xs, σ, σ', h, hi => by
    simp only [Bound] at h
    simp only [tgIn] at hi
    exact wipe_bounds ts xs σ σ' h hi
  | .tp _, .non, _, _, h, _ => by simp [Bound] at h
  | .tp _, .bl _, _, _, h, _ => by simp [Bound] at h
  | .tp _, .int _, _, _, h, _ => by simp [Bound] at h
  | .tp _, .str _, _, _, h, _ => by simp [Bound] at h
theorem wipe_bounds {K : PySem.W.Frag} {H : Hp} {own : List Nat} : ∀ (ts : List Tg) (xs : List Dt) (σ σ' : L2.St), Bounds K H ts xs σ σ' → tgsIn own ts = true → wipe σ' own = wipe σ own
  | [], [], _, _, h, _ => by simp only [Bounds] at h; rw [h]
  | t :: ts, x :: xs, σ, σ', h, hi => by
    simp only [Bounds] at h
    simp only [tgsIn, Bool.and_eq_true] at hi
    obtain ⟨σ1, h1, h2⟩ := h
    rw [wipe_bounds ts xs σ1 σ' h2 hi.2, wipe_bound t x σ σ1 h1 hi.1]
  | [], _ :: _, _, _, h, _ => by simp [Bounds] at h
  | _ :: _, [], _, _, h, _ => by simp [Bounds] at h
end
theorem wipe_none {i : Nat} : ∀ {own : List Nat} {σ : L2.St}, i ∈ own → i < σ.length → (wipe σ own)[i]? = some none
  | o :: own, σ, h, hl => by
    unfold wipe
    by_cases e : o = i
    · subst e
      rw [List.getElem?_set_self (by rw [wipe_length]; exact hl)]
    · rw [List.getElem?_set_ne e]
      rcases List.mem_cons.mp h with h | h
      · exact absurd h.symm e
      · exact wipe_none h hl
theorem wipe_out' {σ : L2.St} {i : Nat} : ∀ {vs : List Nat}, i ∉ vs → (wipe σ vs)[i]? = σ[i]?
  | [], _ => rfl
  | v :: vs, h => by
    rw [List.mem_cons, not_or] at h
    unfold wipe
    rw [List.getElem?_set_ne (Ne.symm h.1)]
    exact wipe_out' h.2
theorem wipe_wipe (σ : L2.St) (own : List Nat) : wipe (wipe σ own) own = wipe σ own := by
  apply List.ext_getElem?
  intro i
  by_cases h : i ∈ own
  · by_cases hl : i < σ.length
    · rw [wipe_none h (by rw [wipe_length]; exact hl), wipe_none h hl]
    · rw [List.getElem?_eq_none (by rw [wipe_length, wipe_length]; omega), List.getElem?_eq_none (by rw [wipe_length]; omega)]
  · rw [wipe_out' h]
/-- a comprehension's items, as far as n -/
theorem compL_some {f : Dt → Option (Option Dt)} : ∀ {xs : List Dt} {ys : List Dt}, compL f xs = some ys → ∃ os, Paired (fun x o => f x = some o) xs os ∧ ys = os.filterMap id
  | [], ys, h => by
    simp [compL] at h
    subst h
    exact ⟨[], .nil, rfl⟩
  | x :: xs, ys, h => by
    simp only [compL, bind, Option.bind_eq_some_iff] at h
    obtain ⟨o, ho, zs, hz, e⟩ := h
    obtain ⟨os, h1, h2⟩ := compL_some hz
    refine ⟨o :: os, .cons ho h1, ?_⟩
    cases o <;> (simp at e; subst e; simp [h2])
section
variable {X : Cx} {cf : Nat → List Vl → Option Vl}
/-- a clause's tests -/
abbrev TC' (K : PySem.W.Frag) (cf : Nat → List Vl → Option Vl) (c : Oe) : TT := fun σ H Q => ∃ δ, SRep K σ H δ ∧ ∃ b, evC cf c δ = some b ∧ ∀ H', Same H H' → Q b H'
theorem PTs.imp {e : List Expr} {t t' : TT} (h : PTs X e t) (i : ∀ σ H Q, t' σ H Q → t σ H Q) : PTs X e t' := ⟨fun pins s σ H Q I q => h.run pins s σ H Q I (i _ _ _ q)⟩
abbrev SC (X : Cx) (cf : Nat → List Vl → Option Vl) (ifs : List Expr) (c : Oe) : Prop := PTs X ifs (TC' X.K cf c)
theorem sc_nil : SC X cf [] .no := PTs.imp pts_nil fun σ H Q ⟨δ, hS, b, hb, q⟩ => by
  simp only [evC] at hb
  cases hb
  exact q H (Same.refl H)
theorem sc_one {a : Expr} {ca : E} (h : ST X cf a ca) : SC X cf [a] (.yes ca) := PTs.imp (pts_one h) fun σ H Q ⟨δ, hS, b, hb, q⟩ => by
  simp only [evC, bind, Option.bind_eq_some_iff] at hb
  obtain ⟨x, hx, ht⟩ := hb
  exact ⟨δ, hS, x, hx, b, ht, q⟩
/-- one item of a comprehension -/
def oneE (cf : Nat → List Vl → Option Vl) (elt : E) (g : Tg) (c : Oe) (δ0 : Env) (x : Dt) : Option (Option Dt) := do
  let δ' ← bindE g x δ0
  let t ← evC cf c δ'
  if t then do
    let v ← evE cf elt δ'
    let d ← asH v
    some (some d)
  else some none
/-- an environment not longer than the slots -/
def cutE (σ : L2.St) (δ : Env) : Env := δ.take σ.length
theorem pair_at {α β : Type} {F : α → β → Prop} {xs : List α} {ys : List β} (h : Paired F xs ys) {i : Nat} {x : α} (hx : xs[i]? = some x) : ∃ y, ys[i]? = some y ∧ F x y := pr_getL h hx
theorem srep_len {K : PySem.W.Frag} {σ : L2.St} {H : Hp} {δ : Env} (h : SRep K σ H δ) (n : Nat) (r : Vl) (e : δ[n]? = some (some r)) : n < σ.length := by
  obtain ⟨v, h1, _⟩ := h n r e
  exact (List.getElem?_eq_some_iff.mp h1).1
mutual
/-- the target's slots are there -/
def tgLt (n : Nat) : Tg → Bool
  | .nm i => decide (i < n)
  | .tp ts => tgsLt n ts
def tgsLt (n : Nat) : List Tg → Bool
  | [] => true
  | t :: ts => tgLt n t && tgsLt n ts
end
mutual
/-- stores beyond the slots are lost -/
theorem bound_srep' {K : PySem.W.Frag} {H : Hp} : ∀ (t : Tg) (d : Dt) (σ σ' : L2.St) (δ δ' : Env), Bound K H t d σ σ' → bindE t d δ = some δ' → tgLt σ.length t = true → SRep K σ H δ → SRep K σ' H δ'
  | .nm i, d, σ, σ', δ, δ', h, hb, hl, hS => by
    simp only [Bound] at h
    simp only [bindE] at hb
    simp only [tgLt, decide_eq_true_eq] at hl
    obtain ⟨v, hv, rfl⟩ := h
    cases hb
    exact srep_set hS hv hl
  | .tp ts, .tup xs, σ, σ', δ, δ', h, hb, hl, hS => by
    simp only [Bound] at h
    simp only [bindE] at hb
    simp only [tgLt] at hl
    exact bounds_srep' ts xs σ σ' δ δ' h hb hl hS
  | .tp _, .non, _, _, _, _, h, _, _, _ => by simp [Bound] at h
  | .tp _, .bl _, _, _, _, _, h, _, _, _ => by simp [Bound] at h
  | .tp _, .int _, _, _, _, _, h, _, _, _ => by simp [Bound] at h
  | .tp _, .str _, _, _, _, _, h, _, _, _ => by simp [Bound] at h
theorem bounds_srep' {K : PySem.W.Frag} {H : Hp} : ∀ (ts : List Tg) (xs : List Dt) (σ σ' : L2.St) (δ δ' : Env), Bounds K H ts xs σ σ' → bindEs ts xs δ = some δ' → tgsLt σ.length ts = true → SRep K σ H δ → SRep K σ' H δ'
  | [], [], _, _, _, _, h, hb, hl, hS => by
    simp only [Bounds] at h
    simp only [bindEs] at hb
    cases hb
    subst h
    exact hS
  | t :: ts, x :: xs, σ, σ', δ, δ', h, hb, hl, hS => by
    simp only [Bounds] at h
    obtain ⟨σ1, h1, h2⟩ := h
    simp only [bindEs, bind, Option.bind_eq_some_iff] at hb
    simp only [tgsLt, Bool.and_eq_true] at hl
    obtain ⟨δ1, b1, b2⟩ := hb
    have k1 := bound_srep' t x σ σ1 δ δ1 h1 b1 hl.1 hS
    exact bounds_srep' ts xs σ1 σ' δ1 δ' h2 b2 (by rw [bound_len t x σ σ1 h1]; exact hl.2) k1
  | [], _ :: _, _, _, _, _, h, _, _, _ => by simp [Bounds] at h
  | _ :: _, [], _, _, _, _, h, _, _, _ => by simp [Bounds] at h
end
theorem filterMap_len {os : List (Option Dt)} : (os.filterMap id).length ≤ os.length := List.length_filterMap_le _ _
/-- the reading of a comprehension -/
theorem comp_imp {elt : E} {g : Tg} {it : I} {c : Oe} {own : List Nat} {σ : L2.St} {H : Hp} {Q : VK} (hin : tgIn own g = true) (hlt : tgLt σ.length g = true) (h : T X.K cf (.comp elt g it c own) σ H Q) :
    tLc (TI' X.K cf it) (gR X.K g) (TC' X.K cf c) (T X.K cf elt) own σ H Q := by
  obtain ⟨δ, hS, r, he, q⟩ := h
  simp only [evE, bind, Option.bind_eq_some_iff] at he
  obtain ⟨items, hi, ys, hc, e⟩ := he
  split at e
  rotate_left
  · cases e
  rename_i hsz
  cases e
  obtain ⟨os, hp, hys⟩ := compL_some hc
  refine ⟨δ, hS, items, hi, fun J H1 A s1 oA hA hW D hD => ?_⟩
  obtain ⟨G, Y, w, hG, hY⟩ := hW
  have sD : Same H1 (upd H1 D (.lst [])) := fun b o z => by rw [upd_ne (ne_of_none z hD)]; exact z
  refine lc_it w (fun i H2 => (∀ b o, b ≠ D → H1 b = some o → H2 b = some o) ∧ ∃ acc, H2 D = some (.lst acc) ∧ RpDs X.K H2 acc ((os.take i).filterMap id)) ⟨fun b o hb z => by rw [upd_ne hb]; exact z, [], upd_same, by simp; exact .nil⟩ (fun i H2 hi h2 => ?_) (fun i x H2 H3 hlt' h2 hy => ?_) fun H2 h2 => ?_
  · obtain ⟨h3, _⟩ := h2
    exact hG H2 (pl_same.trans fun b o z => h3 b o (ne_of_none z hD) z)
  · obtain ⟨h3, acc, hacc, hr⟩ := h2
    have sm : Same H1 H2 := fun b o z => h3 b o (ne_of_none z hD) z
    obtain ⟨s3, d, hd, hx⟩ := hY i H2 x H3 hlt' (pl_same.trans sm) hy
    obtain ⟨o, ho, hf⟩ := pair_at hp hd
    simp only [bind, Option.bind_eq_some_iff] at hf
    obtain ⟨δ', hb, t, ht, hf⟩ := hf
    have hil : i < os.length := by rw [← hp.length]; exact hlt'
    have etake : (os.take (i + 1)).filterMap id = (os.take i).filterMap id ++ [o].filterMap id := by
      rw [List.take_add_one, ho, List.filterMap_append]
      rfl
    have hS3 : SRep X.K (wipe σ own) H3 (wipeE δ own) := (srep_wipe hS own).mono (s1.trans (sm.trans s3))
    refine ⟨d, hx, bind_fits g d _ _ hb, fun σ2 b2 => ⟨by rw [wipe_bound g d _ _ b2 hin, wipe_wipe], δ', bound_srep' g d _ _ _ _ b2 hb (by rw [wipe_length]; exact hlt) hS3, t, ht, fun H4 s4 => ?_⟩⟩
    have hS4 : SRep X.K σ2 H4 δ' := (bound_srep' g d _ _ _ _ b2 hb (by rw [wipe_length]; exact hlt) hS3).mono s4
    have hacc4 : H4 D = some (.lst acc) := s4 _ _ (s3 _ _ hacc)
    cases t with
    | true =>
      simp only [if_true, Option.bind_eq_some_iff] at hf ⊢
      obtain ⟨v, hv, y, hy2, e⟩ := hf
      cases e
      refine ⟨δ', hS4, v, hv, fun yv H5 s5 r5 _ => ⟨acc, s5 _ _ hacc4, ?_, fun b o hb' z => ?_, acc ++ [yv], upd_same, ?_⟩⟩
      · have l1 := hr.length
        have l2 := filterMap_len (os := os.take i)
        rw [List.length_take] at l2
        have l3 := hp.length
        omega
      · rw [upd_ne hb']
        exact s5 _ _ (s4 _ _ (s3 _ _ (h3 b o hb' z)))
      · rw [etake]
        have k5 : Same (pu H5) (pu (upd H5 D (.lst (acc ++ [yv])))) := pu_upd (s5 _ _ hacc4)
        have k2 : Same (pu H2) (pu H5) := pu_mono (s3.trans (s4.trans s5))
        refine pr_append (hr.keep (k2.trans k5)) (.cons ?_ .nil)
        have : v = .h y := by
          unfold asH at hy2
          split at hy2
          · cases hy2; rfl
          · cases hy2
        rw [this] at r5
        exact RpD.keep k5 r5
    | false =>
      simp at hf ⊢
      subst hf
      refine ⟨fun b o hb' z => s4 _ _ (s3 _ _ (h3 b o hb' z)), acc, hacc4, ?_⟩
      rw [etake]
      simp only [List.filterMap_cons, List.filterMap_nil, id, List.append_nil]
      exact hr.mono (s3.trans s4)
  · obtain ⟨h3, acc, hacc, hr⟩ := h2
    have sm : Same H1 H2 := fun b o z => h3 b o (ne_of_none z hD) z
    rw [hp.length, List.take_length, ← hys] at hr
    exact q (.ref D) H2 (s1.trans sm) ⟨D, acc, rfl, .inl hacc, hr⟩ (org_fr ⟨D, acc, rfl, s1.free hD, hacc, hr⟩ rfl)
end
end Ev
namespace Ev
open PySem PySem.Spec PyProof.Rows L2
/-- where a block stands: its slots, its scope, the defs' names, the cells that are its own -/
structure Cfg where
  N : List Str
  sc : Scope
  fns : List Str
  fnC : Str → Bool
def ixOf : List Str → Str → Option Nat
  | [], _ => none
  | y :: ys, x => if y = x then some 0 else (ixOf ys x).map (· + 1)
theorem ixOf_at : ∀ {N : List Str} {x : Str} {i : Nat}, ixOf N x = some i → N[i]? = some x
  | [], x, i, h => by simp [ixOf] at h
  | y :: ys, x, i, h => by
    unfold ixOf at h
    split at h
    · rename_i e
      cases h
      rw [e]
      rfl
    · simp only [Option.map_eq_some_iff] at h
      obtain ⟨j, hj, rfl⟩ := h
      simpa using ixOf_at hj
def visB (sc : Scope) (x : Str) : Bool := match sc.names.lookup x with
  | some .local => true
  | some .cell => true
  | some .free => true
  | _ => false
def glB (sc : Scope) (x : Str) : Bool := match sc.names.lookup x with
  | some .globalImplicit => true
  | _ => false
def nameOk (x : Str) : Bool := !(x == ("__debug__" : Str)) && !(x == ("__classdict__" : Str))
theorem vis_of {sc : Scope} {x : Str} (h : visB sc x = true) : Vis sc x := by
  unfold visB at h
  unfold Vis
  split at h
  · rename_i e; exact .inl e
  · rename_i e; exact .inr (.inl e)
  · rename_i e; exact .inr (.inr e)
  · cases h
def cvC : Const → Option Dt
  | .none => some .non
  | .bool b => some (.bl b)
  | .int i => some (.int i)
  | .str x => some (.str x.cps.toList)
  | _ => none
/-- the built-in names that are spoken of -/
def bltNames : List Str := ["len", "abs", "min", "max", "sum", "int", "tuple", "list", "sorted", "all", "any", "range", "isinstance", "bool", "str", "zip", "enumerate"]
def biOf (x : Str) : Option Bi :=
  if x = "len" then some .len else if x = "abs" then some .abs else if x = "min" then some .min else if x = "max" then some .max else if x = "sum" then some .sum else if x = "int" then some .int
  else if x = "tuple" then some .tuple else if x = "list" then some .list else if x = "sorted" then some .sorted else if x = "all" then some .all else if x = "any" then some .any else none
theorem biOf_name {x : Str} {f : Bi} (h : biOf x = some f) : x = biName f := by
  unfold biOf at h
  repeat' (split at h; · rename_i e; cases h; exact e)
  cases h
def tyOf (x : Str) : Option Ty := if x = "int" then some .int else if x = "bool" then some .bool else if x = "str" then some .str else if x = "tuple" then some .tuple else none
def meOf (x : Str) : Option Me := if x = "join" then some .join else if x = "count" then some .count else none
theorem meOf_name {x : Str} {f : Me} (h : meOf x = some f) : x = meName f := by
  unfold meOf at h
  repeat' (split at h; · rename_i e; cases h; exact e)
  cases h
/-- a subscript that is no slice -/
def plainIx : Expr → Bool
  | .Slice _ _ _ _ => false
  | _ => true
theorem plainIx_of {b : Expr} (h : plainIx b = true) : PlainIx b := by
  cases b <;> first | (intro o i; rfl) | cases h
def cvG (cfg : Cfg) (x : Str) : Option Nat := match cfg.sc.names.lookup x with
  | some .local => ixOf cfg.N x
  | some .cell => if cfg.fnC x then ixOf cfg.N x else none
  | _ => none
mutual
/-- targets -/
def cvT (cfg : Cfg) : Expr → Option Tg
  | .Name x _ => (cvG cfg x).map .nm
  | .Tuple es _ _ => (cvTs cfg es).map .tp
  | _ => none
def cvTs (cfg : Cfg) : List Expr → Option (List Tg)
  | [] => some []
  | e :: es => do
    let t ← cvT cfg e
    let ts ← cvTs cfg es
    some (t :: ts)
end
def ownOf (N : List Str) (scope : Scope) : List (Str × Nat) := scope.names.filterMap fun (x, k) => match k with
  | .local => (ixOf N x).map fun i => (x, i)
  | .cell => (ixOf N x).map fun i => (x, i)
  | _ => none
def blkCfg (cfg : Cfg) (scope : Scope) : Cfg := { cfg with sc := relS scope cfg.sc, fnC := fun x => scope.names.lookup x == some .cell }
def isTup : Expr → Bool
  | .Tuple _ _ _ => true
  | _ => false
mutual
def cvE : Nat → Cfg → Expr → Option E
  | 0, _, _ => none
  | n + 1, cfg, e => match e with
    | .Name x _ => if visB cfg.sc x && nameOk x then (ixOf cfg.N x).map .var else none
    | .Constant c _ _ => (cvC c).map .con
    | .BinOp a o b _ => do
      let x ← cvE n cfg a
      let y ← cvE n cfg b
      some (.bin o x y)
    | .UnaryOp o a _ => do
      let x ← cvE n cfg a
      match o with
      | .USub => some (.neg x)
      | .Not => some (.not x)
      | _ => none
    | .BoolOp o es pos => match es with
      | [] => none
      | [a] => cvE n cfg a
      | a :: b :: r => do
        let x ← cvE n cfg a
        let y ← cvE n cfg (.BoolOp o (b :: r) pos)
        match o with
        | .And => some (.and x y)
        | .Or => some (.or x y)
    | .Compare a os bs _ => match os, bs with
      | [o], [b] => do
        let x ← cvE n cfg a
        let y ← cvE n cfg b
        if behindInMarks o b then none else some (.cmp o x y)
      | [o, p], [b, c] => do
        let x ← cvE n cfg a
        let y ← cvE n cfg b
        let z ← cvE n cfg c
        if lastMarks [o, p] [b, c] then none else some (.cmp2 o p x y z)
      | _, _ => none
    | .IfExp c a b _ => do
      let z ← cvE n cfg c
      let x ← cvE n cfg a
      let y ← cvE n cfg b
      some (.ife z x y)
    | .Tuple es _ _ => do
      let xs ← cvEs n cfg es
      if es.all plainE then some (.tup xs) else none
    | .List es _ => do
      let xs ← cvEs n cfg es
      if es.all plainE then some (.lst xs) else none
    | .Subscript a i _ => match i with
      | .Slice lo hi none _ => do
        let x ← cvE n cfg a
        let l ← cvO n cfg lo
        let h ← cvO n cfg hi
        some (.sl x l h)
      | b => do
        let x ← cvE n cfg a
        let y ← cvE n cfg b
        if plainIx b then some (.ix x y) else none
    | .Call f es kws pos => match f, kws with
      | .Name x _, [] => cvN n cfg x es
      | .Attribute o m apos, [] => match es, meOf m with
        | [b], some f => do
          let x ← cvE n cfg o
          let y ← cvE n cfg b
          if recvE o && plainE b && (apos.endLine == pos.line) then some (.me f x (.cons y .nil)) else none
        | _, _ => none
      | _, _ => none
    | .ListComp elt gs scope _ => match gs with
      | [⟨tg, iter, ifs, 0⟩] => do
        let it ← cvI n cfg tg iter
        let own := ownOf cfg.N scope
        let g ← cvT (blkCfg cfg scope) tg
        let c ← cvIf n (blkCfg cfg scope) ifs
        let x ← cvE n (blkCfg cfg scope) elt
        if blkC cfg.N cfg.sc scope own && tgIn (own.map (·.2)) g && tgLt cfg.N.length g then some (.comp x g it c (own.map (·.2))) else none
      | _ => none
    | _ => none
def cvEs : Nat → Cfg → List Expr → Option Es
  | 0, _, _ => none
  | n + 1, cfg, es => match es with
    | [] => some .nil
    | e :: r => do
      let x ← cvE n cfg e
      let xs ← cvEs n cfg r
      some (.cons x xs)
def cvO : Nat → Cfg → Option Expr → Option Oe
  | 0, _, _ => none
  | n + 1, cfg, o => match o with
    | none => some .no
    | some e => (cvE n cfg e).map .yes
def cvIf : Nat → Cfg → List Expr → Option Oe
  | 0, _, _ => none
  | n + 1, cfg, ifs => match ifs with
    | [] => some .no
    | [e] => (cvE n cfg e).map .yes
    | _ => none
/-- a call of a name -/
def cvN : Nat → Cfg → Str → List Expr → Option E
  | 0, _, _, _ => none
  | n + 1, cfg, x, es =>
    if glB cfg.sc x && es.all plainE && nameOk x then
      match ixOf cfg.fns x with
      | some f => if es.isEmpty then none else (cvEs n cfg es).map (.call f)
      | none =>
        if x = "isinstance" then
          match es with
          | [a, .Name t _] => match tyOf t with
            | some ty => if glB cfg.sc t then (cvE n cfg a).map fun y => .isi y ty else none
            | none => none
          | _ => none
        else match es with
          | [] => none
          | [.Call (.Name r _) as [] _] =>
            if r = "range" ∧ (x = "tuple" ∨ x = "list") then
              if glB cfg.sc r && as.all plainE then
                match as with
                | [b] => (cvE n cfg b).map fun y => .rng (x == "tuple") (.con (.int 0)) y
                | [a, b] => do
                  let z ← cvE n cfg a
                  let y ← cvE n cfg b
                  some (.rng (x == "tuple") z y)
                | _ => none
              else none
            else match biOf x with
              | some f => (cvEs n cfg es).map (.bi f)
              | none => none
          | _ => match biOf x with
            | some f => (cvEs n cfg es).map (.bi f)
            | none => none
    else none
/-- what is walked, into a target -/
def cvI : Nat → Cfg → Expr → Expr → Option I
  | 0, _, _, _ => none
  | n + 1, cfg, tg, e => match e with
    | .Call (.Name x _) es [] _ =>
      if x = "range" then
        if glB cfg.sc x && es.all plainE then
          match es with
          | [a] => (cvE n cfg a).map .rng1
          | [a, b] => do
            let p ← cvE n cfg a
            let q ← cvE n cfg b
            some (.rng2 p q)
          | [a, b, c] => do
            let p ← cvE n cfg a
            let q ← cvE n cfg b
            let r ← cvE n cfg c
            some (.rng3 p q r)
          | _ => none
        else none
      else if x = "zip" then
        if glB cfg.sc x && es.all plainE && isTup tg then
          match es with
          | [a, b] => do
            let p ← cvE n cfg a
            let q ← cvE n cfg b
            some (.zip p q)
          | _ => none
        else none
      else if x = "enumerate" then
        if glB cfg.sc x && es.all plainE && isTup tg then
          match es with
          | [a] => (cvE n cfg a).map .enum
          | _ => none
        else none
      else (cvE n cfg e).map .seq
    | .Set _ _ _ => none
    | e => (cvE n cfg e).map .seq
end
end Ev
namespace Ev
open PySem PySem.Spec PyProof.Rows L2
structure Gx (cfg : Cfg) (X : Cx) (cf : Nat → List Vl → Option Vl) : Prop where
  nd : X.N.Nodup
  hN : X.N = cfg.N
  sc : X.env.scope = cfg.sc
  calm : X.calm = true
  fn : ∀ x, cfg.fnC x = true → X.fn x = true
  room : Room 0 X.A
  blt : ∀ x ∈ bltNames, X.mg x = none
  defs : ∀ (n : Nat) (x : Str), cfg.fns[n]? = some x → ∃ k f fd ps, FnOk X.prog X.w X.K X.mg X.base CX0 k f fd ps (spE X.K (cf n)) ∧ Room k X.A ∧ X.mg x = some (.ref f) ∧ PySem.W.keepIn X.K (.ref f) = true ∧ Binds X.K fd ps []
theorem Gx.blk {cfg : Cfg} {X : Cx} {cf : Nat → List Vl → Option Vl} (g : Gx cfg X cf) (scope : Scope) (s : Shared) (H : Hp) (C : Addr) (cl : List (Str × Addr)) (fp : List Addr) : Gx (blkCfg cfg scope) (X.blk s H scope (compEnvC scope cl C X.env) fp) cf where
  nd := g.nd
  hN := g.hN
  sc := by
    show relS scope X.env.scope = relS scope cfg.sc
    rw [g.sc]
  calm := g.calm
  fn := fun x h => h
  room := g.room
  blt := g.blt
  defs := g.defs
structure Snd (n : Nat) : Prop where
  e : ∀ (cfg : Cfg) (X : Cx) (cf : Nat → List Vl → Option Vl) (e : Expr) (c : E), Gx cfg X cf → cvE n cfg e = some c → SE X cf e c ∧ ST X cf e c ∧ ∀ op es pos, e = .BoolOp op es pos → SW X cf e c
  es : ∀ (cfg : Cfg) (X : Cx) (cf : Nat → List Vl → Option Vl) (es : List Expr) (c : Es), Gx cfg X cf → cvEs n cfg es = some c → es.all plainE = true → SA X cf es c
  o : ∀ (cfg : Cfg) (X : Cx) (cf : Nat → List Vl → Option Vl) (o : Option Expr) (c : Oe), Gx cfg X cf → cvO n cfg o = some c → SO X cf o c
  f : ∀ (cfg : Cfg) (X : Cx) (cf : Nat → List Vl → Option Vl) (o : List Expr) (c : Oe), Gx cfg X cf → cvIf n cfg o = some c → SC X cf o c
  nm : ∀ (cfg : Cfg) (X : Cx) (cf : Nat → List Vl → Option Vl) (x : Str) (es : List Expr) (c : E) (p pos : Pos), Gx cfg X cf → cvN n cfg x es = some c → SE X cf (.Call (.Name x p) es [] pos) c
  i : ∀ (cfg : Cfg) (X : Cx) (cf : Nat → List Vl → Option Vl) (tg e : Expr) (c : I), Gx cfg X cf → cvI n cfg tg e = some c → SI X cf tg e c ∧ ∀ env x, foldedSetIterable e env x = pure x
section
variable {cfg : Cfg} {X : Cx} {cf : Nat → List Vl → Option Vl}
theorem gl_of (g : Gx cfg X cf) {x : Str} (h : glB cfg.sc x = true) : Gl X x := by
  unfold Gl Env.kindOf
  rw [g.sc]
  unfold glB at h
  split at h
  · assumption
  · cases h
theorem hu_gx (g : Gx cfg X cf) : X.A.units + 65 < cLine := by have := g.room.un; omega
theorem nameOk_of {x : Str} (h : nameOk x = true) : (x == ("__debug__" : Str)) = false ∧ (x == ("__classdict__" : Str)) = false := by
  unfold nameOk at h
  simpa using h
/-- a test by its value's truth -/
theorem both {e : Expr} {c : E} (h : SE X cf e c) (he : ∀ whole, PySem.isTrue e X.env whole = (do let v ← whole; standAt e.pos; holding [v] (truthy v))) (hb : ∀ op es pos, e ≠ .BoolOp op es pos) :
    SE X cf e c ∧ ST X cf e c ∧ ∀ op es pos, e = .BoolOp op es pos → SW X cf e c := ⟨h, st_plain h he, fun op es pos q => absurd q (hb op es pos)⟩
theorem c_con {c : Const} {d : Dt} {j pos} (h : cvC c = some d) : SE X cf (.Constant c j pos) (.con d) := by
  unfold cvC at h
  split at h
  · cases h; exact s_con pe_non fun H => mk_non
  · cases h; exact s_con pe_bl fun H => mk_bl
  · cases h; exact s_con pe_int fun H => mk_int
  · rename_i x
    cases h
    refine s_con pe_str fun H => ?_
    have : (⟨x.cps.toList.toArray⟩ : Str) = x := TL.mk_tl x
    have h2 : RpD X.K H (.str ⟨x.cps.toList.toArray⟩) (.str x.cps.toList) := mk_str
    rw [this] at h2
    exact h2
  · cases h
variable {n : Nat}
theorem snd_es (ih : Snd n) {es : List Expr} {c : Es} (g : Gx cfg X cf) (h : cvEs (n + 1) cfg es = some c) (hp : es.all plainE = true) : SA X cf es c := by
  cases es with
  | nil =>
    simp only [cvEs] at h
    cases h
    exact sa_nil
  | cons e r =>
    rw [List.all_cons, Bool.and_eq_true] at hp
    simp only [cvEs, bind, Option.bind_eq_some_iff] at h
    obtain ⟨x, hx, xs, hxs, e1⟩ := h
    cases e1
    exact sa_cons (ih.e cfg X cf e x g hx).1 (ih.es cfg X cf r xs g hxs hp.2) (star_plain _ _ hp.1)
theorem snd_o (ih : Snd n) {o : Option Expr} {c : Oe} (g : Gx cfg X cf) (h : cvO (n + 1) cfg o = some c) : SO X cf o c := by
  cases o with
  | none =>
    simp only [cvO] at h
    cases h
    exact so_no
  | some e =>
    simp only [cvO, Option.map_eq_some_iff] at h
    obtain ⟨x, hx, e1⟩ := h
    subst e1
    exact so_yes (ih.e cfg X cf e x g hx).1
theorem snd_f (ih : Snd n) {o : List Expr} {c : Oe} (g : Gx cfg X cf) (h : cvIf (n + 1) cfg o = some c) : SC X cf o c := by
  cases o with
  | nil =>
    simp only [cvIf] at h
    cases h
    exact sc_nil
  | cons e r =>
    cases r with
    | nil =>
      simp only [cvIf, Option.map_eq_some_iff] at h
      obtain ⟨x, hx, e1⟩ := h
      subst e1
      exact sc_one (ih.e cfg X cf e x g hx).2.1
    | cons _ _ => simp [cvIf] at h
theorem tyOf_name {t : Str} {ty : Ty} (h : tyOf t = some ty) : t ∈ bltNames ∧ bootBuiltins t = some (.type (tyName ty)) ∧ t ≠ "__name__" ∧ (t == ("__debug__" : Str)) = false := by
  unfold tyOf at h
  split at h
  · rename_i e; subst e; cases h; exact ⟨by decide +kernel, PyProof.Rows.boot_int, by decide +kernel, by decide +kernel⟩
  · split at h
    · rename_i e; subst e; cases h; exact ⟨by decide +kernel, PyProof.Rows.boot_bool, by decide +kernel, by decide +kernel⟩
    · split at h
      · rename_i e; subst e; cases h; exact ⟨by decide +kernel, PyProof.Rows.boot_str, by decide +kernel, by decide +kernel⟩
      · split at h
        · rename_i e; subst e; cases h; exact ⟨by decide +kernel, PyProof.Rows.boot_tuple, by decide +kernel, by decide +kernel⟩
        · cases h
theorem biName_mem (f : Bi) : biName f ∈ bltNames := by cases f <;> decide +kernel
theorem bi_case (ih : Snd n) (g : Gx cfg X cf) {x : Str} {es : List Expr} {f : Bi} {c : E} {p pos : Pos} (hg : glB cfg.sc x = true) (hp : es.all plainE = true) (hne : es ≠ []) (hf : biOf x = some f) (h : (cvEs n cfg es).map (.bi f) = some c) :
    SE X cf (.Call (.Name x p) es [] pos) c := by
  simp only [Option.map_eq_some_iff] at h
  obtain ⟨xs, hxs, e1⟩ := h
  subst e1
  have e2 := biOf_name hf
  subst e2
  cases es with
  | nil => exact absurd rfl hne
  | cons a r => exact s_bi g.room g.calm (gl_of g hg) (g.blt _ (biName_mem f)) (ih.es cfg X cf _ xs g hxs hp) hp
theorem snd_nm (ih : Snd n) {x : Str} {es : List Expr} {c : E} {p pos : Pos} (g : Gx cfg X cf) (h : cvN (n + 1) cfg x es = some c) : SE X cf (.Call (.Name x p) es [] pos) c := by
  simp only [cvN] at h
  split at h
  rotate_left
  · cases h
  rename_i hk
  simp only [Bool.and_eq_true] at hk
  obtain ⟨⟨hgl, hpl⟩, hno⟩ := hk
  have hgx := gl_of g hgl
  split at h
  · rename_i f hf
    split at h
    · cases h
    · rename_i hne
      simp only [Option.map_eq_some_iff] at h
      obtain ⟨xs, hxs, e1⟩ := h
      subst e1
      obtain ⟨k, fa, fd, ps, F, hr, hm, hkp, hb⟩ := g.defs f x (ixOf_at hf)
      cases es with
      | nil => simp at hne
      | cons a r => exact s_call F hr hgx hm hkp hb (ih.es cfg X cf _ xs g hxs hpl) hpl (nameOk_of hno).1
  · split at h
    · rename_i e1
      subst e1
      split at h
      · rename_i a t p2
        split at h
        · rename_i ty hty
          split at h
          · rename_i hgt
            simp only [Option.map_eq_some_iff] at h
            obtain ⟨y, hy, e1⟩ := h
            subst e1
            obtain ⟨t1, t2, t3, t4⟩ := tyOf_name hty
            simp only [List.all_cons, Bool.and_eq_true] at hpl
            exact s_isi hgx (g.blt _ (by decide +kernel)) (gl_of g hgt) (g.blt _ t1) t2 t3 t4 (ih.e cfg X cf a y g hy).1 hpl.1
          · cases h
        · cases h
      · cases h
    · split at h
      · cases h
      · rename_i r pr as pc
        split at h
        · rename_i hr
          split at h
          · rename_i hgr
            simp only [Bool.and_eq_true] at hgr
            obtain ⟨hr1, hr2⟩ := hr
            subst hr1
            have hgR := gl_of g hgr.1
            have hmR : X.mg "range" = none := g.blt _ (by decide +kernel)
            have key : ∀ ca cb, PRS X cf (.Call (.Name "range" pr) as [] pc) ca cb → SE X cf (.Call (.Name x p) [.Call (.Name "range" pr) as [] pc] [] pos) (.rng (x == "tuple") ca cb) := fun ca cb hP => by
              rcases hr2 with e | e
              · subst e
                exact s_rngT g.calm hgx (g.blt _ (by decide +kernel)) hP rfl
              · subst e
                exact s_rngL g.calm hgx (g.blt _ (by decide +kernel)) hP rfl
            split at h
            · rename_i b
              simp only [Option.map_eq_some_iff] at h
              obtain ⟨y, hy, e1⟩ := h
              subst e1
              simp only [List.all_cons, Bool.and_eq_true] at hgr
              exact key _ _ (prs_1 hgR hmR (ih.e cfg X cf b y g hy).1 hgr.2.1)
            · rename_i a b
              simp only [bind, Option.bind_eq_some_iff] at h
              obtain ⟨z, hz, y, hy, e1⟩ := h
              cases e1
              simp only [List.all_cons, Bool.and_eq_true] at hgr
              exact key _ _ (prs_2 hgR hmR (ih.e cfg X cf a z g hz).1 (ih.e cfg X cf b y g hy).1 hgr.2.1 hgr.2.2.1)
            · cases h
          · cases h
        · split at h
          · rename_i f hf
            exact bi_case ih g hgl hpl (by simp) hf h
          · cases h
      · rename_i hne _
        split at h
        · rename_i f hf
          exact bi_case ih g hgl hpl (fun e => hne e) hf h
        · cases h
end
end Ev
namespace Ev
open PySem PySem.Spec PyProof.Rows L2
section
variable {cfg : Cfg} {X : Cx} {cf : Nat → List Vl → Option Vl} {n : Nat}
theorem cvG_of (g : Gx cfg X cf) {x : Str} {i : Nat} (h : cvG cfg x = some i) : X.N[i]? = some x ∧ Loc X.env.scope x ∧ (X.fn x = true ∨ X.env.scope.names.lookup x = some .local) := by
  unfold cvG at h
  rw [g.hN, g.sc]
  split at h
  · rename_i e
    exact ⟨ixOf_at h, .inl e, .inr e⟩
  · rename_i e
    split at h
    · rename_i hf
      exact ⟨ixOf_at h, .inr e, .inl (g.fn x hf)⟩
    · cases h
  · cases h
theorem cvTs_plain {cfg : Cfg} : ∀ {es : List Expr} {gs : List Tg}, cvTs cfg es = some gs → es.all tgE = true ∧ es.length = gs.length
  | [], gs, h => by
    simp only [cvTs] at h
    cases h
    exact ⟨rfl, rfl⟩
  | e :: es, gs, h => by
    simp only [cvTs, bind, Option.bind_eq_some_iff] at h
    obtain ⟨t, ht, ts, hts, e1⟩ := h
    cases e1
    obtain ⟨h1, h2⟩ := cvTs_plain hts
    refine ⟨?_, by simp [h2]⟩
    rw [List.all_cons, h1, Bool.and_true]
    cases e <;> first | rfl | (simp [cvT] at ht)
mutual
theorem snd_t (g : Gx cfg X cf) : ∀ (e : Expr) (t : Tg), cvT cfg e = some t → PG X e (gR X.K t)
  | .Name x p, t, h => by
    simp only [cvT, Option.map_eq_some_iff] at h
    obtain ⟨i, hi, e1⟩ := h
    subst e1
    obtain ⟨h1, h2, h3⟩ := cvG_of g hi
    exact g_name g.nd h1 h2 h3
  | .Tuple es k p, t, h => by
    simp only [cvT, Option.map_eq_some_iff] at h
    obtain ⟨ts, hts, e1⟩ := h
    subst e1
    obtain ⟨h1, h2⟩ := cvTs_plain hts
    obtain ⟨h3, h4⟩ := assign_len X.env es h1
    exact g_tup g.calm (snd_ts g es ts hts) (by rw [h3, h2]) h4
  | .BoolOp _ _ _, _, h => by simp [cvT] at h
  | .NamedExpr _ _ _, _, h => by simp [cvT] at h
  | .BinOp _ _ _ _, _, h => by simp [cvT] at h
  | .UnaryOp _ _ _, _, h => by simp [cvT] at h
  | .Lambda _ _ _ _, _, h => by simp [cvT] at h
  | .IfExp _ _ _ _, _, h => by simp [cvT] at h
  | .Dict _ _ _, _, h => by simp [cvT] at h
  | .Set _ _ _, _, h => by simp [cvT] at h
  | .ListComp _ _ _ _, _, h => by simp [cvT] at h
  | .SetComp _ _ _ _, _, h => by simp [cvT] at h
  | .DictComp _ _ _ _ _, _, h => by simp [cvT] at h
  | .GeneratorExp _ _ _ _, _, h => by simp [cvT] at h
  | .Await _ _, _, h => by simp [cvT] at h
  | .Yield _ _, _, h => by simp [cvT] at h
  | .YieldFrom _ _, _, h => by simp [cvT] at h
  | .Compare _ _ _ _, _, h => by simp [cvT] at h
  | .Call _ _ _ _, _, h => by simp [cvT] at h
  | .FormattedValue _ _ _ _, _, h => by simp [cvT] at h
  | .JoinedStr _ _, _, h => by simp [cvT] at h
  | .Constant _ _ _, _, h => by simp [cvT] at h
  | .Attribute _ _ _, _, h => by simp [cvT] at h
  | .Subscript _ _ _, _, h => by simp [cvT] at h
  | .Starred _ _, _, h => by simp [cvT] at h
  | .List _ _, _, h => by simp [cvT] at h
  | .Slice _ _ _ _, _, h => by simp [cvT] at h
theorem snd_ts (g : Gx cfg X cf) : ∀ (es : List Expr) (ts : List Tg), cvTs cfg es = some ts → PGs X es (gRs X.K ts)
  | [], ts, h => by
    simp only [cvTs] at h
    cases h
    exact gs_nil
  | e :: es, ts, h => by
    have hp := (cvTs_plain h).1
    rw [List.all_cons, Bool.and_eq_true] at hp
    simp only [cvTs, bind, Option.bind_eq_some_iff] at h
    obtain ⟨t, ht, ts', hts, e1⟩ := h
    cases e1
    refine gs_cons (snd_t g e t ht) (snd_ts g es ts' hts) ?_
    rw [assign_plain X.env e es hp.1]
    rfl
end
theorem folded (e : Expr) (env : PySem.Env) (x : Value) (h : ∀ a b c, e ≠ .Set a b c) : foldedSetIterable e env x = pure x := by
  cases e <;> first | rfl | (rename_i a b c; exact absurd rfl (h a b c))
theorem snd_i (ih : Snd n) {tg e : Expr} {c : I} (g : Gx cfg X cf) (h : cvI (n + 1) cfg tg e = some c) : SI X cf tg e c ∧ ∀ env x, foldedSetIterable e env x = pure x := by
  simp only [cvI] at h
  split at h
  · rename_i x px es pc
    refine ⟨?_, fun env y => folded _ env y (fun _ _ _ q => nomatch q)⟩
    split at h
    · rename_i ex
      subst ex
      split at h
      rotate_left
      · cases h
      rename_i hk
      rw [Bool.and_eq_true] at hk
      have hg := gl_of g hk.1
      have hm : X.mg "range" = none := g.blt _ (by decide +kernel)
      split at h
      · simp only [Option.map_eq_some_iff] at h
        obtain ⟨p, hp, e1⟩ := h
        subst e1
        simp only [List.all_cons, Bool.and_eq_true] at hk
        exact si_rng1 hg hm (ih.e cfg X cf _ p g hp).1 hk.2.1
      · simp only [bind, Option.bind_eq_some_iff] at h
        obtain ⟨p, hp, q, hq, e1⟩ := h
        cases e1
        simp only [List.all_cons, Bool.and_eq_true] at hk
        exact si_rng2 hg hm (ih.e cfg X cf _ p g hp).1 (ih.e cfg X cf _ q g hq).1 hk.2.1 hk.2.2.1
      · simp only [bind, Option.bind_eq_some_iff] at h
        obtain ⟨p, hp, q, hq, r, hr, e1⟩ := h
        cases e1
        simp only [List.all_cons, Bool.and_eq_true] at hk
        exact si_rng3 hg hm (ih.e cfg X cf _ p g hp).1 (ih.e cfg X cf _ q g hq).1 (ih.e cfg X cf _ r g hr).1 hk.2.1 hk.2.2.1 hk.2.2.2.1
      · cases h
    · split at h
      · rename_i ex
        subst ex
        split at h
        rotate_left
        · cases h
        rename_i hk
        rw [Bool.and_eq_true, Bool.and_eq_true] at hk
        have hg := gl_of g hk.1.1
        have hm : X.mg "zip" = none := g.blt _ (by decide +kernel)
        obtain ⟨es2, k2, p2, rfl⟩ : ∃ a b c, tg = .Tuple a b c := by
          cases tg <;> first | exact ⟨_, _, _, rfl⟩ | exact absurd hk.2 (by simp [isTup])
        split at h
        · simp only [bind, Option.bind_eq_some_iff] at h
          obtain ⟨p, hp, q, hq, e1⟩ := h
          cases e1
          simp only [List.all_cons, Bool.and_eq_true] at hk
          exact si_zip hg hm (ih.e cfg X cf _ p g hp).1 (ih.e cfg X cf _ q g hq).1 hk.1.2.1 hk.1.2.2.1
        · cases h
      · split at h
        · rename_i ex
          subst ex
          split at h
          rotate_left
          · cases h
          rename_i hk
          rw [Bool.and_eq_true, Bool.and_eq_true] at hk
          have hg := gl_of g hk.1.1
          have hm : X.mg "enumerate" = none := g.blt _ (by decide +kernel)
          obtain ⟨es2, k2, p2, rfl⟩ : ∃ a b c, tg = .Tuple a b c := by
            cases tg <;> first | exact ⟨_, _, _, rfl⟩ | exact absurd hk.2 (by simp [isTup])
          split at h
          · simp only [Option.map_eq_some_iff] at h
            obtain ⟨p, hp, e1⟩ := h
            subst e1
            simp only [List.all_cons, Bool.and_eq_true] at hk
            exact si_enum hg hm (ih.e cfg X cf _ p g hp).1 hk.1.2.1
          · cases h
        · simp only [Option.map_eq_some_iff] at h
          obtain ⟨p, hp, e1⟩ := h
          subst e1
          exact si_seq (ih.e cfg X cf _ p g hp).1
  · cases h
  · rename_i hne hns
    simp only [Option.map_eq_some_iff] at h
    obtain ⟨p, hp, e1⟩ := h
    subst e1
    exact ⟨si_seq (ih.e cfg X cf _ p g hp).1, fun env y => folded _ env y (fun a b c q => hns a b c q)⟩
theorem snd_e (ih : Snd n) {e : Expr} {c : E} (g : Gx cfg X cf) (h : cvE (n + 1) cfg e = some c) : SE X cf e c ∧ ST X cf e c ∧ ∀ op es pos, e = .BoolOp op es pos → SW X cf e c := by
  cases e with
  | Name x p =>
    simp only [cvE] at h
    split at h
    · rename_i hk
      rw [Bool.and_eq_true] at hk
      simp only [Option.map_eq_some_iff] at h
      obtain ⟨i, hi, e1⟩ := h
      subst e1
      obtain ⟨h1, h2⟩ := nameOk_of hk.2
      exact both (s_var (by rw [g.hN]; exact ixOf_at hi) (by rw [g.sc]; exact vis_of hk.1) h1 h2) (fun _ => rfl) (fun _ _ _ q => nomatch q)
    · cases h
  | Constant k j p =>
    simp only [cvE, Option.map_eq_some_iff] at h
    obtain ⟨d, hd, e1⟩ := h
    subst e1
    exact both (c_con hd) (fun _ => rfl) (fun _ _ _ q => nomatch q)
  | BinOp a o b p =>
    simp only [cvE, bind, Option.bind_eq_some_iff] at h
    obtain ⟨x, hx, y, hy, e1⟩ := h
    cases e1
    exact both (s_bin (ih.e cfg X cf _ x g hx).1 (ih.e cfg X cf _ y g hy).1) (fun _ => rfl) (fun _ _ _ q => nomatch q)
  | UnaryOp o a p =>
    simp only [cvE, bind, Option.bind_eq_some_iff] at h
    obtain ⟨x, hx, h⟩ := h
    split at h
    · cases h
      exact both (s_neg (ih.e cfg X cf _ x g hx).1) (fun _ => rfl) (fun _ _ _ q => nomatch q)
    · cases h
      exact ⟨s_not (ih.e cfg X cf _ x g hx).1, st_not (ih.e cfg X cf _ x g hx).2.1, fun _ _ _ q => nomatch q⟩
    · cases h
  | BoolOp o es p =>
    simp only [cvE] at h
    split at h
    · cases h
    · rename_i a
      obtain ⟨h1, h2, _⟩ := ih.e cfg X cf a c g h
      have hw : SW X cf (.BoolOp o [a] p) c := by
        cases o
        · exact sw_one_and h2
        · exact sw_one_or h2
      exact ⟨s_one h1, hw.pt, fun op es pos q => by cases q; exact hw⟩
    · rename_i a b r
      simp only [bind, Option.bind_eq_some_iff] at h
      obtain ⟨x, hx, y, hy, h⟩ := h
      obtain ⟨h1, h2, _⟩ := ih.e cfg X cf a x g hx
      obtain ⟨k1, _, k3⟩ := ih.e cfg X cf _ y g hy
      have k3 := k3 _ _ _ rfl
      split at h
      · cases h
        have hw := sw_and h2 k3
        exact ⟨s_and h1 k1, hw.pt, fun op es pos q => by cases q; exact hw⟩
      · cases h
        have hw := sw_or h2 k3
        exact ⟨s_or h1 k1, hw.pt, fun op es pos q => by cases q; exact hw⟩
  | Compare a os bs p =>
    simp only [cvE] at h
    split at h
    · simp only [bind, Option.bind_eq_some_iff] at h
      obtain ⟨x, hx, y, hy, h⟩ := h
      split at h
      · cases h
      · rename_i hb
        cases h
        have hb := by simpa using hb
        exact ⟨s_cmp (hu_gx g) (ih.e cfg X cf _ x g hx).1 (ih.e cfg X cf _ y g hy).1 hb, st_cmp (hu_gx g) (ih.e cfg X cf _ x g hx).1 (ih.e cfg X cf _ y g hy).1 hb, fun _ _ _ q => nomatch q⟩
    · simp only [bind, Option.bind_eq_some_iff] at h
      obtain ⟨x, hx, y, hy, z, hz, h⟩ := h
      split at h
      · cases h
      · rename_i hb
        cases h
        have hb := by simpa using hb
        exact ⟨s_cmp2 (hu_gx g) (ih.e cfg X cf _ x g hx).1 (ih.e cfg X cf _ y g hy).1 (ih.e cfg X cf _ z g hz).1 hb, st_cmp2 (hu_gx g) (ih.e cfg X cf _ x g hx).1 (ih.e cfg X cf _ y g hy).1 (ih.e cfg X cf _ z g hz).1 hb, fun _ _ _ q => nomatch q⟩
    · cases h
  | IfExp c' a b p =>
    simp only [cvE, bind, Option.bind_eq_some_iff] at h
    obtain ⟨z, hz, x, hx, y, hy, e1⟩ := h
    cases e1
    exact ⟨s_ife (ih.e cfg X cf _ z g hz).2.1 (ih.e cfg X cf _ x g hx).1 (ih.e cfg X cf _ y g hy).1, st_ife (ih.e cfg X cf _ z g hz).2.1 (ih.e cfg X cf _ x g hx).2.1 (ih.e cfg X cf _ y g hy).2.1, fun _ _ _ q => nomatch q⟩
  | Tuple es k p =>
    simp only [cvE, bind, Option.bind_eq_some_iff] at h
    obtain ⟨xs, hxs, h⟩ := h
    split at h
    · rename_i hp
      cases h
      exact both (s_tup (ih.es cfg X cf _ xs g hxs hp)) (fun _ => rfl) (fun _ _ _ q => nomatch q)
    · cases h
  | List es p =>
    simp only [cvE, bind, Option.bind_eq_some_iff] at h
    obtain ⟨xs, hxs, h⟩ := h
    split at h
    · rename_i hp
      cases h
      exact both (s_lst (ih.es cfg X cf _ xs g hxs hp)) (fun _ => rfl) (fun _ _ _ q => nomatch q)
    · cases h
  | Subscript a i p =>
    simp only [cvE] at h
    split at h
    · simp only [bind, Option.bind_eq_some_iff] at h
      obtain ⟨x, hx, l, hl, u, hu, e1⟩ := h
      cases e1
      exact both (s_sl (ih.e cfg X cf _ x g hx).1 (ih.o cfg X cf _ l g hl) (ih.o cfg X cf _ u g hu)) (fun _ => rfl) (fun _ _ _ q => nomatch q)
    · simp only [bind, Option.bind_eq_some_iff] at h
      obtain ⟨x, hx, y, hy, h⟩ := h
      split at h
      · rename_i hp
        cases h
        exact both (s_ix (ih.e cfg X cf _ x g hx).1 (ih.e cfg X cf _ y g hy).1 (plainIx_of hp)) (fun _ => rfl) (fun _ _ _ q => nomatch q)
      · cases h
  | Call f es kws p =>
    simp only [cvE] at h
    split at h
    · exact both (ih.nm cfg X cf _ es c _ p g h) (fun _ => rfl) (fun _ _ _ q => nomatch q)
    · split at h
      · rename_i b f hf
        simp only [bind, Option.bind_eq_some_iff] at h
        obtain ⟨x, hx, y, hy, h⟩ := h
        split at h
        · rename_i hk
          simp only [Bool.and_eq_true] at hk
          cases h
          have e1 := meOf_name hf
          subst e1
          exact both (s_me (ih.e cfg X cf _ x g hx).1 (ih.e cfg X cf _ y g hy).1 hk.1.1 hk.1.2 hk.2) (fun _ => rfl) (fun _ _ _ q => nomatch q)
        · cases h
      · cases h
    · cases h
  | ListComp elt gs scope p =>
    simp only [cvE] at h
    split at h
    · rename_i tg iter ifs
      simp only [bind, Option.bind_eq_some_iff] at h
      obtain ⟨it, hit, t, ht, k, hk, x, hx, h⟩ := h
      split at h
      · rename_i hb
        simp only [Bool.and_eq_true] at hb
        cases h
        obtain ⟨hi, hfs⟩ := ih.i cfg X cf tg iter it g hit
        have ok : BlkOk X.N X.env.scope scope (ownOf cfg.N scope) := by
          rw [g.hN, g.sc]
          exact blkOk_by hb.1.1
        have pe := pe_lc (pos := p) (te := T X.K cf x) (tt := TC' X.K cf k) (g := gR X.K t) g.calm g.nd hi ok (fun s H C cl fp => snd_t (g.blk scope s H C cl fp) tg t ht) (fun s H C cl fp => ih.f _ _ cf ifs k (g.blk scope s H C cl fp) hk)
          (fun s H C cl fp => (ih.e _ _ cf elt x (g.blk scope s H C cl fp) hx).1) (hfs X.env)
        refine both ⟨fun pins s σ H Q I q => pe.run pins s σ H Q I (comp_imp hb.1.2 ?_ q)⟩ (fun _ => rfl) (fun _ _ _ q => nomatch q)
        rw [I.len, g.hN]
        exact hb.2
      · cases h
    · cases h
  | _ => simp [cvE] at h
theorem snd : ∀ n, Snd n
  | 0 => ⟨fun _ _ _ _ _ _ h => by simp [cvE] at h, fun _ _ _ _ _ _ h => by simp [cvEs] at h, fun _ _ _ _ _ _ h => by simp [cvO] at h, fun _ _ _ _ _ _ h => by simp [cvIf] at h, fun _ _ _ _ _ _ _ _ _ h => by simp [cvN] at h, fun _ _ _ _ _ _ _ h => by simp [cvI] at h⟩
  | n + 1 => ⟨fun cfg X cf e c g h => snd_e (snd n) g h, fun cfg X cf e c g h => snd_es (snd n) g h, fun cfg X cf e c g h => snd_o (snd n) g h, fun cfg X cf e c g h => snd_f (snd n) g h, fun cfg X cf x es c p pos g h => snd_nm (snd n) g h, fun cfg X cf tg e c g h => snd_i (snd n) g h⟩
end
end Ev
namespace Ev
open PySem PySem.Spec PyProof.Rows L2
/-- slot i's list is the def's own and stands at p -/
def Own (β : Sl) (σ : L2.St) (i : Nat) (p : Addr) : Prop := (∃ r, β[i]? = some (some (.ow r))) ∧ σ[i]? = some (some (.ref p))
/-- a value that no write of ours changes -/
def Stay (K : PySem.W.Frag) (Ow : Addr → Prop) (H : Hp) (v : V) : Vl → Prop
  | .h d => RpD K H v d
  | .l xs => ∃ a vs, v = .ref a ∧ Rd H a (.lst vs) ∧ RpDs K H vs xs ∧ ¬ Ow a
  | .s xs => ∃ a vs, v = .ref a ∧ ((Rd H a (.lst vs) ∧ ¬ Ow a) ∨ ∀ H', SqL K H' a vs) ∧ RpDs K H vs xs
  | .m _ => False
/-- a list of ours -/
def OwnV (K : PySem.W.Frag) (H0 H : Hp) (v : V) : Vl → Prop
  | .l xs => ∃ p vs, v = .ref p ∧ H p = some (.lst vs) ∧ RpDs K H vs xs ∧ H0 p = none
  | _ => False
structure BRep (K : PySem.W.Frag) (H0 : Hp) (σ : L2.St) (H : Hp) (β : Sl) : Prop where
  old : Same H0 H
  len : β.length = σ.length
  im : ∀ (i : Nat) (r : Vl), β[i]? = some (some (.im r)) → ∃ v, σ[i]? = some (some v) ∧ Stay K (fun p => ∃ j, Own β σ j p) H v r
  ow : ∀ (i : Nat) (r : Vl), β[i]? = some (some (.ow r)) → ∃ v, σ[i]? = some (some v) ∧ OwnV K H0 H v r ∧ ∀ p, v = .ref p → ∀ j, Own β σ j p → j = i
section
variable {K : PySem.W.Frag} {H0 H H' : Hp} {σ : L2.St} {β : Sl} {v : V} {r : Vl} {Ow Ow' : Addr → Prop}
theorem Stay.rp (h : Stay K Ow H v r) : RpV K H v r := by
  cases r with
  | h d => exact h
  | l xs =>
    obtain ⟨a, vs, e, h1, h2, _⟩ := h
    exact ⟨a, vs, e, h1, h2⟩
  | s xs =>
    obtain ⟨a, vs, e, h1, h2⟩ := h
    refine ⟨a, vs, e, ?_, h2⟩
    rcases h1 with h1 | h1
    · exact .inl h1.1
    · exact h1 H
  | m _ => exact h.elim
theorem OwnV.rp (h : OwnV K H0 H v r) : RpV K H v r := by
  cases r with
  | l xs =>
    obtain ⟨a, vs, e, h1, h2, _⟩ := h
    exact ⟨a, vs, e, .inl h1, h2⟩
  | _ => exact h.elim
theorem Stay.less (h : Stay K Ow H v r) (k : ∀ a, Ow' a → Ow a) : Stay K Ow' H v r := by
  cases r with
  | h d => exact h
  | l xs =>
    obtain ⟨a, vs, e, h1, h2, h3⟩ := h
    exact ⟨a, vs, e, h1, h2, fun q => h3 (k a q)⟩
  | s xs =>
    obtain ⟨a, vs, e, h1, h2⟩ := h
    exact ⟨a, vs, e, h1.imp (fun q => ⟨q.1, fun z => q.2 (k a z)⟩) id, h2⟩
  | m _ => exact h.elim
theorem Stay.mono (h : Stay K Ow H v r) (e : Same H H') : Stay K Ow H' v r := by
  cases r with
  | h d => exact RpD.mono e h
  | l xs =>
    obtain ⟨a, vs, q, h1, h2, h3⟩ := h
    exact ⟨a, vs, q, rd_mono e h1, RpDs.mono e h2, h3⟩
  | s xs =>
    obtain ⟨a, vs, q, h1, h2⟩ := h
    exact ⟨a, vs, q, h1.imp (fun z => ⟨rd_mono e z.1, z.2⟩) id, RpDs.mono e h2⟩
  | m _ => exact h.elim
theorem OwnV.mono (h : OwnV K H0 H v r) (e : Same H H') : OwnV K H0 H' v r := by
  cases r with
  | l xs =>
    obtain ⟨a, vs, q, h1, h2, h3⟩ := h
    exact ⟨a, vs, q, e _ _ h1, RpDs.mono e h2, h3⟩
  | _ => exact h.elim
/-- a write of one of ours -/
theorem Stay.write {p : Addr} {vs vs' : List V} (h : Stay K Ow H v r) (hp : H p = some (.lst vs)) (ho : Ow p) : Stay K Ow (upd H p (.lst vs')) v r := by
  have e : Same (pu H) (pu (upd H p (.lst vs'))) := pu_upd hp
  have ne : ∀ {a : Addr} {u : HO}, ¬ Ow a → Rd H a u → Rd (upd H p (.lst vs')) a u := fun {a u} n q => by
    have n2 : a ≠ p := fun z => n (z ▸ ho)
    exact q.imp (fun q => by rw [upd_ne n2]; exact q) fun ⟨o, q⟩ => ⟨o, by rw [upd_ne n2]; exact q⟩
  cases r with
  | h d => exact RpD.keep e h
  | l xs =>
    obtain ⟨a, vs, q, h1, h2, h3⟩ := h
    exact ⟨a, vs, q, ne h3 h1, RpDs.keep e h2, h3⟩
  | s xs =>
    obtain ⟨a, vs, q, h1, h2⟩ := h
    exact ⟨a, vs, q, h1.imp (fun z => ⟨ne z.2 z.1, z.2⟩) id, RpDs.keep e h2⟩
  | m _ => exact h.elim
theorem view_at {i : Nat} {r : Vl} (h : (view β)[i]? = some (some r)) : β[i]? = some (some (.im r)) ∨ β[i]? = some (some (.ow r)) := by
  unfold view at h
  rw [List.getElem?_map, Option.map_eq_some_iff] at h
  obtain ⟨b, h1, h2⟩ := h
  rw [Option.map_eq_some_iff] at h2
  obtain ⟨c, rfl, h3⟩ := h2
  cases c with
  | im q => cases h3; exact .inl h1
  | ow q => cases h3; exact .inr h1
theorem BRep.view (b : BRep K H0 σ H β) : SRep K σ H (view β) := fun i r h => by
  rcases view_at h with h | h
  · obtain ⟨v, h1, h2⟩ := b.im i r h
    exact ⟨v, h1, h2.rp⟩
  · obtain ⟨v, h1, h2, _⟩ := b.ow i r h
    exact ⟨v, h1, h2.rp⟩
theorem BRep.mono (b : BRep K H0 σ H β) (e : Same H H') : BRep K H0 σ H' β where
  old := b.old.trans e
  len := b.len
  im := fun i r h => let ⟨v, h1, h2⟩ := b.im i r h; ⟨v, h1, h2.mono e⟩
  ow := fun i r h => let ⟨v, h1, h2, h3⟩ := b.ow i r h; ⟨v, h1, h2.mono e, h3⟩
theorem own_set_im {i j : Nat} {p : Addr} {w : V} (hl : β.length = σ.length) (h : Own (β.set i (some (.im r))) (σ.set i (some w)) j p) : Own β σ j p := by
  obtain ⟨⟨q, h1⟩, h2⟩ := h
  by_cases e : i = j
  · subst e
    by_cases hi : i < β.length
    · rw [List.getElem?_set_self hi] at h1; cases h1
    · rw [List.getElem?_eq_none (by rw [List.length_set]; omega)] at h1; cases h1
  · rw [List.getElem?_set_ne e] at h1 h2
    exact ⟨⟨q, h1⟩, h2⟩
theorem BRep.setIm {i : Nat} (b : BRep K H0 σ H β) (h : Stay K (fun p => ∃ j, Own β σ j p) H v r) : BRep K H0 (σ.set i (some v)) H (β.set i (some (.im r))) where
  old := b.old
  len := by rw [List.length_set, List.length_set]; exact b.len
  im := fun j q hj => by
    by_cases e : i = j
    · subst e
      by_cases hi : i < β.length
      · rw [List.getElem?_set_self hi] at hj
        cases hj
        exact ⟨v, List.getElem?_set_self (by have := b.len; omega), h.less fun a ⟨j, z⟩ => ⟨j, own_set_im b.len z⟩⟩
      · rw [List.getElem?_eq_none (by rw [List.length_set]; omega)] at hj; cases hj
    · rw [List.getElem?_set_ne e] at hj ⊢
      obtain ⟨w, h1, h2⟩ := b.im j q hj
      exact ⟨w, h1, h2.less fun a ⟨j, z⟩ => ⟨j, own_set_im b.len z⟩⟩
  ow := fun j q hj => by
    by_cases e : i = j
    · subst e
      by_cases hi : i < β.length
      · rw [List.getElem?_set_self hi] at hj
        cases hj
      · rw [List.getElem?_eq_none (by rw [List.length_set]; omega)] at hj; cases hj
    · rw [List.getElem?_set_ne e] at hj ⊢
      obtain ⟨w, h1, h2, h3⟩ := b.ow j q hj
      exact ⟨w, h1, h2, fun p hp k z => h3 p hp k (own_set_im b.len z)⟩
theorem BRep.setH {i : Nat} {d : Dt} (b : BRep K H0 σ H β) (h : RpD K H v d) : BRep K H0 (σ.set i (some v)) H (β.set i (some (.im (.h d)))) := b.setIm h
theorem own_set_ow {i j : Nat} {p q : Addr} {r' : Vl} (h : Own (β.set i (some (.ow r'))) (σ.set i (some (.ref q))) j p) : (j = i ∧ p = q) ∨ (j ≠ i ∧ Own β σ j p) := by
  obtain ⟨⟨k, h1⟩, h2⟩ := h
  by_cases e : i = j
  · subst e
    refine .inl ⟨rfl, ?_⟩
    by_cases hi : i < σ.length
    · rw [List.getElem?_set_self hi] at h2
      cases h2
      rfl
    · rw [List.getElem?_eq_none (by rw [List.length_set]; omega)] at h2; cases h2
  · rw [List.getElem?_set_ne e] at h1 h2
    exact .inr ⟨Ne.symm e, ⟨k, h1⟩, h2⟩
theorem BRep.ownAt (b : BRep K H0 σ H β) {j : Nat} {p : Addr} (h : Own β σ j p) : (∃ vs, H p = some (.lst vs)) ∧ H0 p = none := by
  obtain ⟨⟨r, h1⟩, h2⟩ := h
  obtain ⟨v, h3, h4, _⟩ := b.ow j r h1
  rw [h2] at h3
  cases h3
  cases r with
  | l xs =>
    obtain ⟨a, vs, e, k1, _, k2⟩ := h4
    cases e
    exact ⟨⟨vs, k1⟩, k2⟩
  | _ => exact h4.elim
/-- a value that the heap of old knows not to be ours stays so -/
theorem Stay.newOw {q : Addr} (h : Stay K Ow H v r) (hq : H q = none) (k : ∀ a, Ow' a → a = q ∨ Ow a) : Stay K Ow' H v r := by
  have nq : ∀ {a : Addr} {u : HO}, Rd H a u → a ≠ q := fun {a u} z e => by
    subst e
    rcases z with z | ⟨o, z⟩ <;> rw [hq] at z <;> cases z
  cases r with
  | h d => exact h
  | l xs =>
    obtain ⟨a, vs, e, h1, h2, h3⟩ := h
    exact ⟨a, vs, e, h1, h2, fun z => (k a z).elim (nq h1) h3⟩
  | s xs =>
    obtain ⟨a, vs, e, h1, h2⟩ := h
    exact ⟨a, vs, e, h1.imp (fun z => ⟨z.1, fun y => (k a y).elim (nq z.1) z.2⟩) id, h2⟩
  | m _ => exact h.elim
/-- a new list becomes ours -/
theorem BRep.setOw {i : Nat} {p : Addr} {vs : List V} {xs : List Dt} (b : BRep K H0 σ H β) (e : Same H H') (hp : H p = none) (h1 : H' p = some (.lst vs)) (h2 : RpDs K H' vs xs) : BRep K H0 (σ.set i (some (.ref p))) H' (β.set i (some (.ow (.l xs)))) where
  old := b.old.trans e
  len := by rw [List.length_set, List.length_set]; exact b.len
  im := fun j q hj => by
    by_cases ij : i = j
    · subst ij
      by_cases hi : i < β.length
      · rw [List.getElem?_set_self hi] at hj; cases hj
      · rw [List.getElem?_eq_none (by rw [List.length_set]; omega)] at hj; cases hj
    · rw [List.getElem?_set_ne ij] at hj ⊢
      obtain ⟨w, h1, h2⟩ := b.im j q hj
      exact ⟨w, h1, (h2.newOw hp fun a ⟨j, z⟩ => (own_set_ow z).imp (·.2) fun z => ⟨j, z.2⟩).mono e⟩
  ow := fun j q hj => by
    by_cases ij : i = j
    · subst ij
      by_cases hi : i < β.length
      · rw [List.getElem?_set_self hi] at hj
        cases hj
        refine ⟨.ref p, List.getElem?_set_self (by have := b.len; omega), ⟨p, vs, rfl, h1, h2, b.old.free hp⟩, fun a ha j z => ?_⟩
        cases ha
        rcases own_set_ow z with z | z
        · exact z.1
        · obtain ⟨⟨us, k⟩, _⟩ := b.ownAt z.2
          rw [hp] at k
          cases k
      · rw [List.getElem?_eq_none (by rw [List.length_set]; omega)] at hj; cases hj
    · rw [List.getElem?_set_ne ij] at hj ⊢
      obtain ⟨w, h1, h2, h3⟩ := b.ow j q hj
      refine ⟨w, h1, h2.mono e, fun a ha k z => ?_⟩
      rcases own_set_ow z with z | z
      · subst ha
        obtain ⟨⟨us, k⟩, _⟩ := b.ownAt (j := j) (p := a) ⟨⟨q, hj⟩, h1⟩
        rw [z.2, hp] at k
        cases k
      · exact h3 a ha k z.2
theorem frz_len (j : Nat) : (frz β j).length = β.length := by
  unfold frz
  split
  · rw [List.length_set]
  · rfl
theorem own_frz {i j : Nat} {p : Addr} (h : Own (frz β j) σ i p) : i ≠ j ∧ Own β σ i p := by
  obtain ⟨⟨r, h1⟩, h2⟩ := h
  unfold frz at h1
  split at h1
  · rename_i v e
    by_cases ij : j = i
    · subst ij
      by_cases hi : j < β.length
      · rw [List.getElem?_set_self hi] at h1; cases h1
      · rw [List.getElem?_eq_none (by rw [List.length_set]; omega)] at h1; cases h1
    · rw [List.getElem?_set_ne ij] at h1
      exact ⟨Ne.symm ij, ⟨r, h1⟩, h2⟩
  · rename_i e
    refine ⟨fun ij => ?_, ⟨r, h1⟩, h2⟩
    subst ij
    exact e r h1
theorem frz_im {i j : Nat} {r : Vl} (h : β[i]? = some (some (.im r))) : (frz β j)[i]? = some (some (.im r)) := by
  unfold frz
  split
  · rename_i v e
    have ij : j ≠ i := fun ij => by subst ij; rw [h] at e; cases e
    rw [List.getElem?_set_ne ij]
    exact h
  · exact h
theorem frz_ow {j : Nat} {r : Vl} (h : β[j]? = some (some (.ow r))) : (frz β j)[j]? = some (some (.im r)) := by
  have hl : j < β.length := (List.getElem?_eq_some_iff.mp h).1
  unfold frz
  rw [h]
  exact List.getElem?_set_self hl
/-- ours no more -/
theorem BRep.frz (b : BRep K H0 σ H β) (j : Nat) : BRep K H0 σ H (frz β j) where
  old := b.old
  len := by rw [frz_len]; exact b.len
  im := fun i q hi => by
    by_cases h : ∃ q, β[i]? = some (some (.im q))
    · obtain ⟨q', h⟩ := h
      rw [frz_im h] at hi
      cases hi
      obtain ⟨v, h1, h2⟩ := b.im i q h
      exact ⟨v, h1, h2.less fun a ⟨k, z⟩ => ⟨k, (own_frz z).2⟩⟩
    · have ji : j = i ∧ β[j]? = some (some (.ow q)) := by
        unfold Ev.frz at hi
        split at hi
        · rename_i v e
          by_cases ij : j = i
          · subst ij
            rw [List.getElem?_set_self (List.getElem?_eq_some_iff.mp e).1] at hi
            cases hi
            exact ⟨rfl, e⟩
          · rw [List.getElem?_set_ne ij] at hi
            exact absurd ⟨q, hi⟩ h
        · exact absurd ⟨q, hi⟩ h
      obtain ⟨rfl, e⟩ := ji
      obtain ⟨v, h1, h2, h3⟩ := b.ow j q e
      refine ⟨v, h1, ?_⟩
      cases q with
      | l xs =>
        obtain ⟨p, vs, rfl, k1, k2, _⟩ := h2
        exact ⟨p, vs, rfl, .inl k1, k2, fun ⟨k, z⟩ => (own_frz z).1 (h3 p rfl k (own_frz z).2)⟩
      | _ => exact h2.elim
  ow := fun i q hi => by
    have h : β[i]? = some (some (.ow q)) := by
      unfold Ev.frz at hi
      split at hi
      · rename_i v e
        by_cases ij : j = i
        · subst ij
          rw [List.getElem?_set_self (List.getElem?_eq_some_iff.mp e).1] at hi
          cases hi
        · rw [List.getElem?_set_ne ij] at hi
          exact hi
      · exact hi
    obtain ⟨v, h1, h2, h3⟩ := b.ow i q h
    exact ⟨v, h1, h2, fun p hp k z => h3 p hp k (own_frz z).2⟩
theorem brep_frzAll : ∀ (js : List Nat) {β : Sl}, BRep K H0 σ H β → BRep K H0 σ H (frzAll β js)
  | [], _, b => b
  | j :: js, _, b => by
    unfold Ev.frzAll
    exact brep_frzAll js (b.frz j)
theorem own_frzAll : ∀ {js : List Nat} {β : Sl} {i : Nat} {p : Addr}, Own (frzAll β js) σ i p → i ∉ js ∧ Own β σ i p
  | [], _, _, _, h => ⟨by simp, h⟩
  | j :: js, β, i, p, h => by
    unfold Ev.frzAll at h
    obtain ⟨h1, h2⟩ := own_frzAll h
    obtain ⟨h3, h4⟩ := own_frz h2
    exact ⟨by simp [h1, h3], h4⟩
/-- one of ours is written -/
theorem BRep.write {i : Nat} {p : Addr} {vs' : List V} {xs xs' : List Dt} (b : BRep K H0 σ H β) (hi : β[i]? = some (some (.ow (.l xs)))) (hp : σ[i]? = some (some (.ref p))) (h : RpDs K H vs' xs') :
    BRep K H0 σ (upd H p (.lst vs')) (β.set i (some (.ow (.l xs')))) := by
  have hl : i < β.length := (List.getElem?_eq_some_iff.mp hi).1
  have hs : σ.set i (some (.ref p)) = σ := by
    apply List.ext_getElem?
    intro j
    by_cases e : i = j
    · subst e
      rw [List.getElem?_set_self (by have := b.len; omega), hp]
    · rw [List.getElem?_set_ne e]
  have ho : Own β σ i p := ⟨⟨_, hi⟩, hp⟩
  obtain ⟨⟨vs, k1⟩, k2⟩ := b.ownAt ho
  have own : ∀ {j : Nat} {a : Addr}, Own (β.set i (some (.ow (.l xs')))) σ j a → Own β σ j a := fun {j a} z => by
    rw [← hs] at z
    rcases own_set_ow z with ⟨rfl, rfl⟩ | z
    · exact ho
    · exact z.2
  have ke : Same (pu H) (pu (upd H p (.lst vs'))) := pu_upd k1
  refine ⟨fun a o z => ?_, by rw [List.length_set]; exact b.len, fun j q hj => ?_, fun j q hj => ?_⟩
  · rw [upd_ne (ne_of_none z k2)]
    exact b.old a o z
  · by_cases ij : i = j
    · subst ij
      rw [List.getElem?_set_self hl] at hj; cases hj
    · rw [List.getElem?_set_ne ij] at hj
      obtain ⟨w, h1, h2⟩ := b.im j q hj
      exact ⟨w, h1, (h2.write k1 ⟨i, ho⟩).less fun a ⟨k, z⟩ => ⟨k, own z⟩⟩
  · by_cases ij : i = j
    · subst ij
      rw [List.getElem?_set_self hl] at hj
      cases hj
      obtain ⟨w, h1, h2, h3⟩ := b.ow i _ hi
      rw [hp] at h1
      cases h1
      exact ⟨.ref p, hp, ⟨p, vs', rfl, upd_same, RpDs.keep ke h, k2⟩, fun a ha k z => h3 a ha k (own z)⟩
    · rw [List.getElem?_set_ne ij] at hj
      obtain ⟨w, h1, h2, h3⟩ := b.ow j q hj
      refine ⟨w, h1, ?_, fun a ha k z => h3 a ha k (own z)⟩
      cases q with
      | l ys =>
        obtain ⟨a, us, rfl, k3, k4, k5⟩ := h2
        have ne : a ≠ p := fun e => by
          subst e
          exact ij (h3 a rfl i ho)
        exact ⟨a, us, rfl, by rw [upd_ne ne]; exact k3, RpDs.keep ke k4, k5⟩
      | _ => exact h2.elim
/-- what we do not own, as the base -/
noncomputable def unown (Ow : Addr → Prop) (H : Hp) : Hp := fun a => open Classical in if Ow a then none else H a
theorem unown_same {Ow : Addr → Prop} : Same (unown Ow H) H := fun a o h => by
  unfold unown at h
  split at h
  · cases h
  · exact h
theorem unown_at {Ow : Addr → Prop} {a : Addr} (h : ¬ Ow a) : unown Ow H a = H a := if_neg h
theorem unown_none {Ow : Addr → Prop} {a : Addr} (h : Ow a) : unown Ow H a = none := if_pos h
theorem BRep.base (b : BRep K H0 σ H β) : BRep K (unown (fun p => ∃ j, Own β σ j p) H) σ H β ∧ Same H0 (unown (fun p => ∃ j, Own β σ j p) H) := by
  refine ⟨⟨unown_same, b.len, b.im, fun i r h => ?_⟩, fun a o h => ?_⟩
  · obtain ⟨v, h1, h2, h3⟩ := b.ow i r h
    refine ⟨v, h1, ?_, h3⟩
    cases r with
    | l xs =>
      obtain ⟨p, vs, rfl, k1, k2, _⟩ := h2
      exact ⟨p, vs, rfl, k1, k2, unown_none ⟨i, ⟨_, h⟩, h1⟩⟩
    | _ => exact h2.elim
  · rw [unown_at]
    · exact b.old a o h
    · intro ⟨j, z⟩
      have := (b.ownAt z).2
      rw [h] at this
      cases this
/-- back to the smaller base -/
theorem BRep.weak {H1 : Hp} (e : Same H0 H1) (b : BRep K H1 σ H β) : BRep K H0 σ H β where
  old := e.trans b.old
  len := b.len
  im := b.im
  ow := fun i r h => by
    obtain ⟨v, h1, h2, h3⟩ := b.ow i r h
    refine ⟨v, h1, ?_, h3⟩
    cases r with
    | l xs =>
      obtain ⟨p, vs, rfl, k1, k2, k3⟩ := h2
      exact ⟨p, vs, rfl, k1, k2, e.free k3⟩
    | _ => exact h2.elim
end
end Ev
namespace Ev
open PySem PySem.Spec PyProof.Rows L2
/-- what is wanted behind -/
def Post (K : PySem.W.Frag) (H0 : Hp) (D : Ends) : Fl → Prop
  | .nx β => ∀ σ H, BRep K H0 σ H β → D.nx σ H
  | .bk β => ∀ σ H, BRep K H0 σ H β → D.bk σ H
  | .ct β => ∀ σ H, BRep K H0 σ H β → D.ct σ H
  | .rt r => ∀ v H, Same H0 H → RpV K H v r → FR K H0 H v r → D.rt v H
def TS1 (K : PySem.W.Frag) (cf : Nat → List Vl → Option Vl) (wf : Nat) (c : S) : TS := fun D σ H => ∃ H0 β, BRep K H0 σ H β ∧ ∃ fl, evS cf wf c β = some fl ∧ Post K H0 D fl
def TSs (K : PySem.W.Frag) (cf : Nat → List Vl → Option Vl) (wf : Nat) (c : Ss) : TS := fun D σ H => ∃ H0 β, BRep K H0 σ H β ∧ ∃ fl, evSs cf wf c β = some fl ∧ Post K H0 D fl
abbrev SS (X : Cx) (cf : Nat → List Vl → Option Vl) (wf : Nat) (st : Stmt) (c : S) : Prop := PS X st (TS1 X.K cf wf c)
abbrev SSs (X : Cx) (cf : Nat → List Vl → Option Vl) (wf : Nat) (st : List Stmt) (c : Ss) : Prop := PSs X st (TSs X.K cf wf c)
theorem PS.imp {X : Cx} {e : Stmt} {t t' : TS} (h : PS X e t) (i : ∀ D σ H, t' D σ H → t D σ H) : PS X e t' := ⟨fun pins s σ H Q I q => h.run pins s σ H Q I (i _ _ _ q)⟩
theorem PSs.imp {X : Cx} {e : List Stmt} {t t' : TS} (h : PSs X e t) (i : ∀ D σ H, t' D σ H → t D σ H) : PSs X e t' := ⟨fun pins s σ H Q I q => h.run pins s σ H Q I (i _ _ _ q)⟩
section
variable {X : Cx} {cf : Nat → List Vl → Option Vl} {wf : Nat} {pos : Pos} {a b c e : Expr} {ca cb cc ce : E}
theorem ss_nil : SSs X cf wf [] .nil := PSs.imp pss_nil fun D σ H ⟨H0, β, br, fl, he, q⟩ => by
  simp only [evSs] at he
  cases he
  exact q σ H br
theorem ss_cons {st : Stmt} {rest : List Stmt} {c1 : S} {c2 : Ss} (h1 : SS X cf wf st c1) (h2 : SSs X cf wf rest c2) : SSs X cf wf (st :: rest) (.cons c1 c2) := by
  refine PSs.imp (pss_cons h1 h2) fun D σ H ⟨H0, β, br, fl, he, q⟩ => ?_
  simp only [evSs, bind, Option.bind_eq_some_iff] at he
  obtain ⟨r, hr, he⟩ := he
  refine ⟨H0, β, br, r, hr, ?_⟩
  cases r with
  | nx β' => exact fun σ' H' b' => ⟨H0, β', b', fl, he, q⟩
  | rt v => cases he; exact q
  | bk β' => cases he; exact q
  | ct β' => cases he; exact q
theorem ss_pass : SS X cf wf (.Pass pos) .pass := PS.imp ps_pass fun D σ H ⟨H0, β, br, fl, he, q⟩ => by
  simp only [evS] at he
  cases he
  exact q σ H br
theorem ss_doc {x j p} : SS X cf wf (.Expr (.Constant (.str x) j p) pos) .pass := PS.imp ps_doc fun D σ H ⟨H0, β, br, fl, he, q⟩ => by
  simp only [evS] at he
  cases he
  exact q σ H br
theorem ss_brk : SS X cf wf (.Break pos) .brk := PS.imp ps_break fun D σ H ⟨H0, β, br, fl, he, q⟩ => by
  simp only [evS] at he
  cases he
  exact q σ H br
theorem ss_cont : SS X cf wf (.Continue pos) .cont := PS.imp ps_continue fun D σ H ⟨H0, β, br, fl, he, q⟩ => by
  simp only [evS] at he
  cases he
  exact q σ H br
theorem ss_retN : SS X cf wf (.Return none pos) .retN := PS.imp ps_retN fun D σ H ⟨H0, β, br, fl, he, q⟩ => by
  simp only [evS] at he
  cases he
  exact q .non H br.old mk_non trivial
theorem ss_ret (he : SE X cf e ce) : SS X cf wf (.Return (some e) pos) (.ret ce) := PS.imp (ps_ret he) fun D σ H ⟨H0, β, br, fl, he, q⟩ => by
  simp only [evS, bind, Option.bind_eq_some_iff] at he
  obtain ⟨v, hv, he⟩ := he
  refine ⟨view β, br.view, v, hv, fun x H1 s1 r1 o1 => ?_⟩
  have old : Same H0 H1 := br.old.trans s1
  have key : FR X.K H0 H1 x v → fl = .rt v → D.rt x H1 := fun f e => by
    subst e
    exact q x H1 old r1 f
  split at he
  · rename_i d
    cases he
    exact key trivial rfl
  · split at he
    · rename_i hf
      cases he
      exact key ((o1.1 hf).old br.old) rfl
    · split at he
      · rename_i j hj
        split at he
        · rename_i w hw
          cases he
          have ej := asVar_eq hj
          subst ej
          simp only [evE] at hv
          have h2 := view_at (join_some hv)
          rw [hw] at h2
          rcases h2 with h2 | h2
          · cases h2
          · cases h2
            obtain ⟨y, k1, k2, k3⟩ := br.ow j _ hw
            have := o1.2 j hj
            rw [k1] at this
            cases this
            refine key ?_ rfl
            cases v with
            | l xs =>
              obtain ⟨p, vs, e, m1, m2, m3⟩ := k2.mono s1
              exact ⟨p, vs, e, m3, m1, m2⟩
            | _ => exact k2.elim
        · cases he
      · cases he
theorem ss_if {sa sb : List Stmt} {c1 c2 : Ss} (hc : ST X cf c cc) (ha : SSs X cf wf sa c1) (hb : SSs X cf wf sb c2) : SS X cf wf (.If c sa sb pos) (.ife cc c1 c2) := by
  refine PS.imp (ps_if hc ha hb) fun D σ H ⟨H0, β, br, fl, he, q⟩ => ?_
  simp only [evS, bind, Option.bind_eq_some_iff] at he
  obtain ⟨v, hv, t, ht, he⟩ := he
  refine ⟨view β, br.view, v, hv, t, ht, fun H1 s1 => ?_⟩
  cases t with
  | true =>
    simp only [if_true] at he ⊢
    exact ⟨H0, β, br.mono s1, fl, he, q⟩
  | false =>
    simp at he ⊢
    exact ⟨H0, β, br.mono s1, fl, he, q⟩
/-- name = value -/
theorem put_ok {K : PySem.W.Frag} {H0 H H1 : Hp} {σ : L2.St} {β β' : Sl} {i : Nat} {v : Vl} {x : V} (br : BRep K H0 σ H β) (s1 : Same H H1) (r1 : RpV K H1 x v) (o1 : Org K ce σ H H1 x v) (hv : evE cf ce (view β) = some v) (hp : putE β i ce v = some β') :
    BRep K H0 (σ.set i (some x)) H1 β' := by
  unfold putE at hp
  split at hp
  · rename_i d
    cases hp
    exact (br.mono s1).setH r1
  · split at hp
    · rename_i hf
      cases hp
      have f := o1.1 hf
      cases v with
      | l xs =>
        obtain ⟨p, vs, rfl, h1, h2, h3⟩ := f
        exact br.setOw s1 h1 h2 h3
      | h d => rename_i hne; exact absurd rfl (hne d)
      | s _ => exact f.elim
      | m _ => exact f.elim
    · split at hp
      · rename_i j hj
        cases hp
        have ej := asVar_eq hj
        subst ej
        simp only [evE] at hv
        have h2 := view_at (join_some hv)
        have b2 := br.frz j
        have h3 : (frz β j)[j]? = some (some (.im v)) := by
          rcases h2 with h2 | h2
          · exact frz_im h2
          · exact frz_ow h2
        obtain ⟨y, k1, k2⟩ := b2.im j v h3
        have := o1.2 j hj
        rw [k1] at this
        cases this
        exact (b2.mono s1).setIm (k2.mono s1)
      · cases hp
theorem set_imp {i : Nat} {D : Ends} {σ : L2.St} {H : Hp} (h : TS1 X.K cf wf (.set (.nm i) ce) D σ H) : tAsg (T X.K cf ce) (gName i) D σ H := by
  obtain ⟨H0, β, br, fl, he, q⟩ := h
  simp only [evS, bind, Option.bind_eq_some_iff] at he
  obtain ⟨v, hv, β', hb, e⟩ := he
  cases e
  exact ⟨view β, br.view, v, hv, fun x H1 s1 r1 o1 => q _ H1 (put_ok br s1 r1 o1 hv hb)⟩
theorem sw_no {t : Option Expr} {l : Nat} {env : PySem.Env} (h : ∀ a b s p, e ≠ .ListComp a b s p) (h2 : ∀ a b s p, e ≠ .SetComp a b s p) (h3 : ∀ a b c s p, e ≠ .DictComp a b c s p) : swapsWith e t l env = pure false := by
  cases e <;> first | rfl | exact absurd rfl (h _ _ _ _) | exact absurd rfl (h2 _ _ _ _) | exact absurd rfl (h3 _ _ _ _ _)
theorem ss_set {i : Nat} {x : Str} {p : Pos} (hN : X.N.Nodup) (hi : X.N[i]? = some x) (hx : Loc X.env.scope x) (hf : X.fn x = true ∨ X.env.scope.names.lookup x = some .local) (he : SE X cf e ce) (hs : swapsWith e (some (.Name x p)) pos.line X.env = pure false) :
    SS X cf wf (.Assign [.Name x p] e pos) (.set (.nm i) ce) := PS.imp (ps_set hN hi hx he hs hf) fun D σ H h => set_imp h
mutual
theorem bindB_fits : ∀ (t : Tg) (d : Dt) (δ δ' : Sl), bindB t d δ = some δ' → fits t d = true
  | .nm _, _, _, _, _ => by simp [fits]
  | .tp ts, .tup xs, δ, δ', h => by
    simp only [bindB] at h
    simp only [fits]
    exact bindBs_fits ts xs δ δ' h
  | .tp _, .non, _, _, h => by simp [bindB] at h
  | .tp _, .bl _, _, _, h => by simp [bindB] at h
  | .tp _, .int _, _, _, h => by simp [bindB] at h
  | .tp _, .str _, _, _, h => by simp [bindB] at h
theorem bindBs_fits : ∀ (ts : List Tg) (xs : List Dt) (δ δ' : Sl), bindBs ts xs δ = some δ' → fitss ts xs = true
  | [], [], _, _, _ => by simp [fitss]
  | t :: ts, x :: xs, δ, δ', h => by
    simp only [bindBs, bind, Option.bind_eq_some_iff] at h
    obtain ⟨δ1, h1, h2⟩ := h
    simp only [fitss, bindB_fits t x δ δ1 h1, bindBs_fits ts xs δ1 δ' h2, Bool.and_self]
  | [], _ :: _, _, _, h => by simp [bindBs] at h
  | _ :: _, [], _, _, h => by simp [bindBs] at h
end
mutual
theorem bound_brep {K : PySem.W.Frag} {H0 H : Hp} : ∀ (t : Tg) (d : Dt) (σ σ' : L2.St) (β β' : Sl), Bound K H t d σ σ' → bindB t d β = some β' → BRep K H0 σ H β → BRep K H0 σ' H β'
  | .nm i, d, σ, σ', δ, δ', h, hb, hS => by
    simp only [Bound] at h
    simp only [bindB] at hb
    obtain ⟨v, hv, rfl⟩ := h
    cases hb
    exact hS.setH hv
  | .tp ts, .tup xs, σ, σ', δ, δ', h, hb, hS => by
    simp only [Bound] at h
    simp only [bindB] at hb
    exact bounds_brep ts xs σ σ' δ δ' h hb hS
  | .tp _, .non, _, _, _, _, h, _, _ => by simp [Bound] at h
  | .tp _, .bl _, _, _, _, _, h, _, _ => by simp [Bound] at h
  | .tp _, .int _, _, _, _, _, h, _, _ => by simp [Bound] at h
  | .tp _, .str _, _, _, _, _, h, _, _ => by simp [Bound] at h
theorem bounds_brep {K : PySem.W.Frag} {H0 H : Hp} : ∀ (ts : List Tg) (xs : List Dt) (σ σ' : L2.St) (β β' : Sl), Bounds K H ts xs σ σ' → bindBs ts xs β = some β' → BRep K H0 σ H β → BRep K H0 σ' H β'
  | [], [], _, _, _, _, h, hb, hS => by
    simp only [Bounds] at h
    simp only [bindBs] at hb
    cases hb
    subst h
    exact hS
  | t :: ts, x :: xs, σ, σ', δ, δ', h, hb, hS => by
    simp only [Bounds] at h
    obtain ⟨σ1, h1, h2⟩ := h
    simp only [bindBs, bind, Option.bind_eq_some_iff] at hb
    obtain ⟨δ1, b1, b2⟩ := hb
    exact bounds_brep ts xs σ1 σ' δ1 δ' h2 b2 (bound_brep t x σ σ1 δ δ1 h1 b1 hS)
  | [], _ :: _, _, _, _, _, h, _, _ => by simp [Bounds] at h
  | _ :: _, [], _, _, _, _, h, _, _ => by simp [Bounds] at h
end
theorem ss_setT {es : List Expr} {k : Nat} {p : Pos} {ts : List Tg} (hg : PG X (.Tuple es k p) (gR X.K (.tp ts))) (he : SE X cf e ce) (hs : swapsWithSole [.Tuple es k p] e pos.line X.env = pure false) (hw : swappedStores [.Tuple es k p] e X.env = pure none) :
    SS X cf wf (.Assign [.Tuple es k p] e pos) (.set (.tp ts) ce) := by
  refine PS.imp (ps_asg he hg hs hw (by rw [assign_plain X.env _ _ rfl]; rfl)) fun D σ H ⟨H0, β, br, fl, he, q⟩ => ?_
  simp only [evS, bind, Option.bind_eq_some_iff] at he
  obtain ⟨v, hv, d, hd, β', hb, e⟩ := he
  cases e
  refine ⟨view β, br.view, v, hv, fun x H1 s1 r1 o1 => ⟨d, ?_, bindB_fits _ d β β' hb, fun σ' b' => q σ' H1 (bound_brep _ d σ σ' β β' b' hb (br.mono s1))⟩⟩
  unfold asH at hd
  split at hd
  · cases hd; exact r1
  · cases hd
theorem asH_rp {K : PySem.W.Frag} {H : Hp} {x : V} {v : Vl} {d : Dt} (h : asH v = some d) (r : RpV K H x v) : RpD K H x d := by
  unfold asH at h
  split at h
  · cases h; exact r
  · cases h
theorem asH_eq {v : Vl} {d : Dt} (h : asH v = some d) : v = .h d := by
  unfold asH at h
  split at h
  · cases h; rfl
  · cases h
theorem ss_par {i j : Nat} {x y : Str} {px py pt : Pos} {kt k2 pt2} (hc : X.calm = true) (hN : X.N.Nodup) (hi : X.N[i]? = some x) (hj : X.N[j]? = some y) (hij : i ≠ j) (hx : X.env.scope.names.lookup x = some .local) (hy : X.env.scope.names.lookup y = some .local)
    (ha : SE X cf a ca) (hb : SE X cf b cb) (hp : plainE a = true) (hp2 : plainE b = true) (hw : swappedStores [.Tuple [.Name x px, .Name y py] kt pt] (.Tuple [a, b] k2 pt2) X.env = pure (some [x, y])) :
    SS X cf wf (.Assign [.Tuple [.Name x px, .Name y py] kt pt] (.Tuple [a, b] k2 pt2) pos) (.par i j ca cb) := by
  refine PS.imp (ps_par hc hN hi hj hij hx hy (sa_cons ha (sa_cons hb sa_nil (star_plain _ _ hp2)) (star_plain _ _ hp)) hw (by rfl)) fun D σ H ⟨H0, β, br, fl, he, q⟩ => ?_
  simp only [evS, bind, Option.bind_eq_some_iff] at he
  obtain ⟨v, hv, w, hw, d, hd, d', hd', e⟩ := he
  cases e
  refine ⟨view β, br.view, [v, w], by simp [evEs, hv, hw], fun vs H1 s1 r1 => ?_⟩
  obtain ⟨v1, v2, rfl, k1, k2⟩ := vs2 r1
  exact ⟨v1, v2, rfl, q _ H1 (((br.mono s1).setH (asH_rp hd k1)).setH (asH_rp hd' k2))⟩
theorem ss_aug {i : Nat} {x : Str} {o : Operator} {p : Pos} (hN : X.N.Nodup) (hi : X.N[i]? = some x) (hx : Loc X.env.scope x) (hf : X.fn x = true ∨ X.env.scope.names.lookup x = some .local) (he : SE X cf e ce) :
    SS X cf wf (.AugAssign (.Name x p) o e pos) (.aug i o ce) := by
  refine PS.imp (ps_aug hN hi hx he (iop_V o) hf) fun D σ H ⟨H0, β, br, fl, he, q⟩ => ?_
  simp only [evS, bind, Option.bind_eq_some_iff] at he
  obtain ⟨u, hu, v, hv, d, hd, e⟩ := he
  cases e
  obtain ⟨x, h1, h2⟩ := br.view i u (join_some hu)
  exact ⟨x, h1, view β, br.view, v, hv, fun y H1 s1 r1 _ => ⟨u, v, d, h2.mono s1, r1, hd, fun z rz => q _ H1 ((br.mono s1).setH rz)⟩⟩
theorem ownL_at {β : Sl} {i : Nat} {xs : List Dt} (h : ownL β i = some xs) : β[i]? = some (some (.ow (.l xs))) := by
  unfold ownL at h
  split at h
  · rename_i e; cases h; exact e
  · cases h
theorem view_ow {β : Sl} {i : Nat} {r : Vl} (h : β[i]? = some (some (.ow r))) : (view β)[i]? = some (some r) := by
  unfold view
  rw [List.getElem?_map, h]
  rfl
theorem BRep.list {K : PySem.W.Frag} {H0 H : Hp} {σ : L2.St} {β : Sl} {i : Nat} {xs : List Dt} (br : BRep K H0 σ H β) (h : ownL β i = some xs) : ∃ p vs, σ[i]? = some (some (.ref p)) ∧ H p = some (.lst vs) ∧ RpDs K H vs xs := by
  obtain ⟨v, h1, h2, _⟩ := br.ow i _ (ownL_at h)
  obtain ⟨p, vs, rfl, h3, h4, _⟩ := h2
  exact ⟨p, vs, h1, h3, h4⟩
/-- the list's name -/
theorem t_own {K : PySem.W.Frag} {H0 H : Hp} {σ : L2.St} {β : Sl} {i : Nat} {xs : List Dt} {Q : VK} (br : BRep K H0 σ H β) (h : ownL β i = some xs) (q : ∀ p vs H1, Same H H1 → σ[i]? = some (some (.ref p)) → H1 p = some (.lst vs) → RpDs K H1 vs xs → Q (.ref p) H1) : T K cf (.var i) σ H Q := by
  refine ⟨view β, br.view, .l xs, ?_, fun x H1 s1 r1 o1 => ?_⟩
  · simp only [evE]
    rw [view_ow (ownL_at h)]
    rfl
  · obtain ⟨p, vs, h1, h2, h3⟩ := br.list h
    have := o1.2 i rfl
    rw [h1] at this
    cases this
    exact q p vs H1 s1 h1 (s1 _ _ h2) (h3.mono s1)
theorem ss_setI {i : Nat} {o k : Expr} {ck : E} {p : Pos} (ho : SE X cf o (.var i)) (hk : SE X cf k ck) (he : SE X cf e ce)
    (ha : ∀ v, assign (.Subscript o k p) X.env v = (do
      let ov ← holding [v] (eval o X.env)
      let iv ← holding [v, ov] (eval k X.env)
      standAt p
      holding [v, ov, iv] (setItem ov iv v)
      release [v, ov, iv] [])) (hs : swapsWithSole [.Subscript o k p] e pos.line X.env = pure false) (h1 : (assignEach [.Subscript o k p] X.env).map (·.2) = [assign (.Subscript o k p) X.env]) :
    SS X cf wf (.Assign [.Subscript o k p] e pos) (.setI i ck ce) := by
  refine PS.imp (ps_asg he (pg_sub ho hk set_list ha) hs (by rfl) h1) fun D σ H ⟨H0, β, br, fl, he, q⟩ => ?_
  simp only [evS, bind, Option.bind_eq_some_iff] at he
  obtain ⟨v, hv, d, hd, kv, hkv, n, hn, xs, hxs, j, hj, e⟩ := he
  cases e
  refine ⟨view β, br.view, v, hv, fun x H1 s1 r1 _ => ?_⟩
  have b1 := br.mono s1
  refine t_own b1 hxs fun a vs H2 s2 g1 g2 g3 => ?_
  have b2 := b1.mono s2
  refine ⟨view β, b2.view, kv, hkv, fun y H3 s3 r3 _ => ?_⟩
  have b3 := b2.mono s3
  refine ⟨a, vs, n, j, rfl, asI_v r3 hn, s3 _ _ g2, by rw [g3.length]; exact hj, q _ _ (b3.write (ownL_at hxs) g1 (pr_set ((asH_rp hd r1).mono (s2.trans s3)) j (g3.mono s3)))⟩
theorem get_list : PGet X (fun o i H Q => ∃ p xs k v, o = .ref p ∧ i = .int k ∧ SqL X.K H p xs ∧ atI xs k = some v ∧ Q v H) := by
  intro pins s σ H x y v u Q I rx ry h
  obtain ⟨p, xs, i, z, rfl, rfl, hq, he, q⟩ := h
  cases rx
  obtain ⟨t, rfl⟩ := ry
  obtain ⟨its, r, pl, hz⟩ := I.list hq
  obtain ⟨j, h1, h2, h3, h4, h5⟩ := atI_get he
  obtain ⟨w, ew, rw'⟩ := r.get h2
  have hl := r.length
  have hn := line63
  have fin : EP X pins σ Q w s := ⟨z, H, I, rw', q⟩
  by_cases h0 : 0 ≤ i
  · have hj : i.toNat = j := by
      rw [seqIndex_of h0 h5] at h1
      exact Option.some.inj h1
    exact wpAny_getItem_list pl.isList h0 (by omega) (by rw [hj]; simpa using ew) fin
  · have hj : (i + (its.toArray.size : Int)).toNat = j := by
      rw [seqIndex_neg (by omega) h4] at h1
      rw [List.size_toArray, ← hl]
      exact Option.some.inj h1
    exact wpAny_getItem_list_neg pl.isList (by omega) (by rw [List.size_toArray] <;> omega) (by omega) (by rw [hj]; simpa using ew) fin
theorem ss_augI {i : Nat} {o k : Expr} {ck : E} {p : Pos} {op : Operator} (ho : SE X cf o (.var i)) (hk : SE X cf k ck) (he : SE X cf e ce)
    (ha : ∀ ov iv new, augStore k ov iv new = (do holding [new, ov, iv] (setItem ov iv new); release [new, ov, iv] []; pure .next)) :
    SS X cf wf (.AugAssign (.Subscript o k p) op e pos) (.augI i op ck ce) := by
  refine PS.imp (ps_augS ho hk get_list he (iop_V op) set_list ha) fun D σ H ⟨H0, β, br, fl, he, q⟩ => ?_
  simp only [evS, bind, Option.bind_eq_some_iff] at he
  obtain ⟨kv, hkv, n, hn, xs, hxs, j, hj, x, hx, y, hy, d, hd, e⟩ := he
  cases e
  refine t_own br hxs fun a vs H2 s2 g1 g2 g3 => ?_
  have b2 := br.mono s2
  refine ⟨view β, b2.view, kv, hkv, fun kz H3 s3 r3 _ => ?_⟩
  have b3 := b2.mono s3
  have g4 := g3.mono s3
  obtain ⟨xv, hxv, rxv⟩ := pr_get g4 hx
  refine ⟨a, vs, n, xv, rfl, asI_v r3 hn, .of (s3 _ _ g2), by unfold atI; rw [g3.length, hj]; exact hxv, ?_⟩
  refine ⟨view β, b3.view, y, hy, fun yz H4 s4 r4 _ => ⟨.h x, y, d, RpD.mono s4 rxv, r4, hd, fun z rz => ?_⟩⟩
  exact ⟨a, vs, n, j, rfl, asI_v r3 hn, s4 _ _ (s3 _ _ g2), by rw [g3.length]; exact hj, q _ _ ((b3.mono s4).write (ownL_at hxs) g1 (pr_set rz j (g4.mono s4)))⟩
theorem ss_app {i : Nat} {o : Expr} {apos cpos : Pos} (ho : SE X cf o (.var i)) (he : SE X cf e ce) (h1 : recvE o = true) (h2 : plainE e = true) (hl : (apos.endLine == cpos.line) = true) :
    SS X cf wf (.Expr (.Call (.Attribute o "append" apos) [e] [] cpos) pos) (.app i ce) := by
  refine PS.imp (ps_expr (pe_bm (r := rAppend) PySem.F.plainAttrs_list F.slot_list_append F.type_list_append mt_append ho (sa_cons he sa_nil (star_plain _ _ h2)) (recv_base _ _ h1) ?_ hl (star_plain _ _ h2) rfl) (by rfl)) fun D σ H ⟨H0, β, br, fl, he, q⟩ => ?_
  · rw [star_plain _ _ h2]
    rfl
  simp only [evS, bind, Option.bind_eq_some_iff] at he
  obtain ⟨v, hv, d, hd, xs, hxs, he⟩ := he
  split at he
  rotate_left
  · cases he
  rename_i hlen
  cases he
  refine t_own br hxs fun a vs H2 s2 g1 g2 g3 => ⟨.inl ⟨rfl, vs, .of g2⟩, ?_⟩
  have b2 := br.mono s2
  refine ⟨view β, b2.view, [v], by simp [evEs, hv], fun us H3 s3 r3 => ?_⟩
  obtain ⟨y, rfl, ry⟩ := vs1 r3
  have g4 := g3.mono s3
  exact ⟨a, vs, y, rfl, rfl, s3 _ _ g2, by rw [g3.length]; exact hlen, q _ _ ((b2.mono s3).write (ownL_at hxs) g1 (pr_append g4 (.cons (asH_rp hd ry) .nil)))⟩
theorem ss_for {tg iter : Expr} {body : List Stmt} {g : Tg} {it : I} {cb : Ss} (hp : PassesOwn (model X.prog X.w) X.A X.env X.xe) (hc : X.calm = true) (hi : SI X cf tg iter it) (hg : PG X tg (gR X.K g)) (hb : SSs X cf wf body cb) (hs : ∀ x, foldedSetIterable iter X.env x = pure x) :
    SS X cf wf (.For tg iter body [] pos) (.loop g it cb) := by
  refine PS.imp (ps_for hp hc hi hg hb hs) fun D σ H ⟨H0, β, br, fl, he, q⟩ => ?_
  simp only [evS, bind, Option.bind_eq_some_iff] at he
  obtain ⟨items, hit, he⟩ := he
  split at he
  rotate_left
  · cases he
  rename_i hsrc
  refine ⟨view β, br.view, items, hit, fun J H1 A s1 oA hA ⟨G, Y, w, hG, hY⟩ => ?_⟩
  have b1 := brep_frzAll (srcVars it) (br.mono s1)
  obtain ⟨b2, sb⟩ := b1.base
  -- what is walked is not ours
  have nA : ∀ a ∈ A, ¬ ∃ j, Own (frzAll β (srcVars it)) σ j a := fun a ha ⟨j, z⟩ => by
    obtain ⟨z1, z2⟩ := own_frzAll z
    rcases oA hsrc a ha with h | ⟨k, hk, h, xs, hx⟩
    · obtain ⟨⟨vs, e⟩, _⟩ := br.ownAt z2
      rw [h] at e
      cases e
    · rcases view_at hx with hx | hx
      · obtain ⟨v, h1, h2⟩ := br.im k _ hx
        rw [h] at h1
        cases h1
        obtain ⟨a', vs, e, _, _, n⟩ := h2
        cases e
        exact n ⟨j, z2⟩
      · obtain ⟨v, h1, h2, h3⟩ := br.ow k _ hx
        rw [h] at h1
        cases h1
        have := h3 a rfl j z2
        subst this
        exact z1 hk
  have keep : Same (pl A H1) (unown (fun p => ∃ j, Own (frzAll β (srcVars it)) σ j p) H1) := fun a o h => by
    have h1 := pl_same a o h
    rw [unown_at]
    · exact h1
    · intro hz
      unfold pl at h
      split at h
      · rename_i ha
        exact nA a ha hz
      · obtain ⟨j, z⟩ := hz
        obtain ⟨⟨vs, e⟩, _⟩ := b1.ownAt z
        unfold pu at h
        rw [e] at h
        cases h
  refine for_it w (fun i σ' H' => ∃ β', BRep X.K (unown (fun p => ∃ j, Own (frzAll β (srcVars it)) σ j p) H1) σ' H' β' ∧ loopE (fun x β => (bindB g x β).bind fun β' => evSs cf wf cb β') (items.drop i) β' = some fl) ⟨_, b2, he⟩
    (fun i σ' H' _ ⟨β', b', _⟩ => hG H' (keep.trans b'.old)) (fun i x σ' H' H3 hlt ⟨β', b', hL⟩ y => ?_) fun σ' H' ⟨β', b', hL⟩ => ?_
  · obtain ⟨s3, d, hd, rx⟩ := hY i H' x H3 hlt (keep.trans b'.old) y
    have hdrop : items.drop i = d :: items.drop (i + 1) := by
      rw [List.drop_eq_getElem_cons hlt]
      rw [List.getElem?_eq_getElem hlt] at hd
      cases hd
      rfl
    rw [hdrop] at hL
    simp only [loopE, bind, Option.bind_eq_some_iff] at hL
    obtain ⟨r, ⟨β2, hb2, hr⟩, hL⟩ := hL
    refine ⟨d, rx, bindB_fits g d β' β2 hb2, fun σ2 bd => ⟨_, β2, bound_brep g d σ' σ2 β' β2 bd hb2 (b'.mono s3), r, hr, ?_⟩⟩
    cases r with
    | nx β3 => exact fun σ4 H4 b4 => ⟨β3, b4, hL⟩
    | ct β3 => exact fun σ4 H4 b4 => ⟨β3, b4, hL⟩
    | bk β3 =>
      cases hL
      exact fun σ4 H4 b4 => q σ4 H4 (b4.weak sb)
    | rt v =>
      cases hL
      exact fun u H4 s4 r4 f4 => q u H4 (sb.trans s4) r4 (f4.old sb)
  · rw [List.drop_length] at hL
    simp only [loopE] at hL
    cases hL
    exact q σ' H' (b'.weak sb)
theorem ss_while {body : List Stmt} {cb : Ss} (hp : PassesOwn (model X.prog X.w) X.A X.env X.xe) (hc : ST X cf c cc) (hb : SSs X cf wf body cb) : SS X cf wf (.While c body [] pos) (.whl cc cb) := by
  refine PS.imp (ps_while hp hc hb) fun D σ H ⟨H0, β, br, fl, he, q⟩ => ?_
  simp only [evS] at he
  refine ⟨fun m σ' H' => ∃ β', BRep X.K H0 σ' H' β' ∧ whlE (fun β => (evE cf cc (view β)).bind fun v => truE v) (fun β => evSs cf wf cb β) m β' = some fl, ⟨wf, β, br, he⟩, fun m σ' H' ⟨β', b', hL⟩ => ?_⟩
  cases m with
  | zero => simp [whlE] at hL
  | succ m =>
    simp only [whlE, bind, Option.bind_eq_some_iff] at hL
    obtain ⟨t, ⟨v, hv, ht⟩, hL⟩ := hL
    refine ⟨view β', b'.view, v, hv, t, ht, fun H2 s2 => ?_⟩
    have b2 := b'.mono s2
    cases t with
    | true =>
      simp only [if_true, Option.bind_eq_some_iff] at hL ⊢
      obtain ⟨r, hr, hL⟩ := hL
      refine ⟨fun σ' H' => ∃ β', BRep X.K H0 σ' H' β' ∧ whlE (fun β => (evE cf cc (view β)).bind fun v => truE v) (fun β => evSs cf wf cb β) m β' = some fl, fun σ' H' h => ⟨m, Nat.lt_succ_self m, h⟩, H0, β', b2, r, hr, ?_⟩
      cases r with
      | nx β3 => exact fun σ4 H4 b4 => ⟨β3, b4, hL⟩
      | ct β3 => exact fun σ4 H4 b4 => ⟨β3, b4, hL⟩
      | bk β3 =>
        cases hL
        exact q
      | rt v =>
        cases hL
        exact q
    | false =>
      simp at hL ⊢
      subst hL
      exact q σ' H2 b2
end
end Ev
namespace Ev
open PySem PySem.Spec PyProof.Rows L2
/-- no comprehension that the text could let go -/
def calmE : Expr → Bool
  | .SetComp _ _ _ _ => false
  | .DictComp _ _ _ _ _ => false
  | .ListComp _ _ _ _ => false
  | _ => true
def strCon : Expr → Bool
  | .Constant (.str _) _ _ => true
  | _ => false
mutual
def cvS : Nat → Cfg → Stmt → Option S
  | 0, _, _ => none
  | n + 1, cfg, st => match st with
    | .Pass _ => some .pass
    | .Break _ => some .brk
    | .Continue _ => some .cont
    | .Return none _ => some .retN
    | .Return (some e) _ => (cvE n cfg e).map .ret
    | .Expr e _ => match e with
      | .Constant (.str _) _ _ => some .pass
      | .Call (.Attribute o m apos) [a] [] cpos => do
        let x ← cvE n cfg o
        let y ← cvE n cfg a
        match x with
        | .var i => if m = ("append" : Str) && recvE o && plainE a && (apos.endLine == cpos.line) then some (.app i y) else none
        | _ => none
      | _ => none
    | .Assign [t] e _ => match t with
      | .Name x p => do
        let i ← cvG cfg x
        let y ← cvE n cfg e
        some (.set (.nm i) y)
      | .Tuple es k p => match e with
        | .Tuple vs _ _ => match es, vs with
          | [.Name x px, .Name y py], [a, b] => do
            let i ← cvG cfg x
            let j ← cvG cfg y
            let u ← cvE n cfg a
            let v ← cvE n cfg b
            if decide (i ≠ j) && (cfg.sc.names.lookup x == some .local) && (cfg.sc.names.lookup y == some .local) && decide (x ≠ y) && (px.line == py.line) && plainE a && plainE b && !(foldedForSure 8 a && foldedForSure 8 b) && !(constantsAlone 8 a && constantsAlone 8 b) then some (.par i j u v) else none
          | _, _ => none
        | e => do
          let ts ← cvTs cfg es
          let y ← cvE n cfg e
          some (.set (.tp ts) y)
      | .Subscript o k p => do
        let x ← cvE n cfg o
        let z ← cvE n cfg k
        let y ← cvE n cfg e
        match x with
        | .var i => if plainIx k then some (.setI i z y) else none
        | _ => none
      | _ => none
    | .AugAssign t o e _ => match t with
      | .Name x p => do
        let i ← cvG cfg x
        let y ← cvE n cfg e
        some (.aug i o y)
      | .Subscript b k p => do
        let x ← cvE n cfg b
        let z ← cvE n cfg k
        let y ← cvE n cfg e
        match x with
        | .var i => if plainIx k then some (.augI i o z y) else none
        | _ => none
      | _ => none
    | .If c a b _ => do
      let z ← cvE n cfg c
      let x ← cvSs n cfg a
      let y ← cvSs n cfg b
      some (.ife z x y)
    | .For tg it b [] _ => do
      let g ← cvT cfg tg
      let i ← cvI n cfg tg it
      let x ← cvSs n cfg b
      some (.loop g i x)
    | .While c b [] _ => do
      let z ← cvE n cfg c
      let x ← cvSs n cfg b
      some (.whl z x)
    | _ => none
def cvSs : Nat → Cfg → List Stmt → Option Ss
  | 0, _, _ => none
  | n + 1, cfg, st => match st with
    | [] => some .nil
    | s :: r => do
      let x ← cvS n cfg s
      let xs ← cvSs n cfg r
      some (.cons x xs)
end
structure Gs (cfg : Cfg) (X : Cx) (cf : Nat → List Vl → Option Vl) : Prop extends Gx cfg X cf where
  po : PassesOwn (model X.prog X.w) X.A X.env X.xe
  kd : X.env.scope.kind = .function
section
variable {cfg : Cfg} {X : Cx} {cf : Nat → List Vl → Option Vl} {n wf : Nat}
/-- name = [..], the name on the comprehension's line -/
theorem ss_setLc {i : Nat} {x : Str} {p q pos : Pos} {elt : Expr} {gs : List Comprehension} {scope : Scope} {c : E} (g : Gx cfg X cf) (h : cvE n cfg (.ListComp elt gs scope q) = some c) (hi : X.N[i]? = some x) (hx : X.env.scope.names.lookup x = some .local)
    (hsw : swapsWith (.ListComp elt gs scope q) (some (.Name x p)) pos.line X.env = pure true) : SS X cf wf (.Assign [.Name x p] (.ListComp elt gs scope q) pos) (.set (.nm i) c) := by
  cases n with
  | zero => simp [cvE] at h
  | succ n =>
    simp only [cvE] at h
    split at h
    · rename_i tg iter ifs
      simp only [bind, Option.bind_eq_some_iff] at h
      obtain ⟨it, hit, t, ht, k, hk, y, hy, h⟩ := h
      split at h
      · rename_i hb
        simp only [Bool.and_eq_true] at hb
        cases h
        obtain ⟨hI, hfs⟩ := (snd n).i cfg X cf tg iter it g hit
        have ok : BlkOk X.N X.env.scope scope (ownOf cfg.N scope) := by
          rw [g.hN, g.sc]
          exact blkOk_by hb.1.1
        have pe := ps_setLc (te := T X.K cf y) (tt := TC' X.K cf k) (g := gR X.K t) g.calm g.nd hi hx hsw hI ok (fun s H C cl fp => snd_t (g.blk scope s H C cl fp) tg t ht) (fun s H C cl fp => (snd n).f _ _ cf ifs k (g.blk scope s H C cl fp) hk)
          (fun s H C cl fp => ((snd n).e _ _ cf elt y (g.blk scope s H C cl fp) hy).1) (hfs X.env)
        refine ⟨fun pins s σ H D I q => pe.run pins s σ H D I ?_⟩
        have q2 := set_imp q
        exact comp_imp hb.1.2 (by rw [I.len, g.hN]; exact hb.2) q2
      · cases h
    · cases h
theorem sw_lc {e : Expr} {x : Str} {p : Pos} {l : Nat} {c : E} (h : cvE n cfg e = some c) (env : PySem.Env) : (∃ elt gs scope q, e = .ListComp elt gs scope q) ∨ ∀ t, swapsWith e t l env = pure false := by
  cases n with
  | zero => simp [cvE] at h
  | succ n =>
    cases e with
    | ListComp a b c d => exact .inl ⟨_, _, _, _, rfl⟩
    | SetComp a b c d => simp [cvE] at h
    | DictComp a b c d e => simp [cvE] at h
    | _ => exact .inr fun t => rfl
theorem snd_set {x : Str} {i : Nat} {p pos : Pos} {e : Expr} {c : E} (g : Gs cfg X cf) (hg : cvG cfg x = some i) (he : cvE n cfg e = some c) : SS X cf wf (.Assign [.Name x p] e pos) (.set (.nm i) c) := by
  obtain ⟨h1, h2, h3⟩ := cvG_of g.toGx hg
  rcases sw_lc (x := x) (p := p) (l := pos.line) he X.env with ⟨elt, gs, scope, q, rfl⟩ | h
  · have hb : X.env.blockKind = .function := by unfold Env.blockKind; rw [g.kd]; rfl
    have hv : swapsWith (.ListComp elt gs scope q) (some (.Name x p)) pos.line X.env = pure (X.env.kindOf x == some .local && p.line == q.line && !(scope.names.any fun (n, k) => n == x && (k == .local || k == .cell))) := by
      unfold swapsWith
      simp only [hb]
      rfl
    cases hv2 : (X.env.kindOf x == some .local && p.line == q.line && !(scope.names.any fun (n, k) => n == x && (k == .local || k == .cell))) with
    | true =>
      rw [hv2] at hv
      have hl : X.env.scope.names.lookup x = some .local := by
        rw [Bool.and_eq_true, Bool.and_eq_true] at hv2
        have := hv2.1.1
        unfold Env.kindOf at this
        simpa using this
      exact ss_setLc g.toGx he h1 hl hv
    | false =>
      rw [hv2] at hv
      exact ss_set g.nd h1 h2 h3 ((snd n).e cfg X cf _ c g.toGx he).1 hv
  · exact ss_set g.nd h1 h2 h3 ((snd n).e cfg X cf _ c g.toGx he).1 (h _)
theorem sw_par {x y : Str} {px py pt p2 : Pos} {a b : Expr} {k k2 : Nat} {env : PySem.Env} (hk : env.scope.kind = .function) (hx : env.scope.names.lookup x = some .local) (hy : env.scope.names.lookup y = some .local) (hxy : x ≠ y) (hl : (px.line == py.line) = true) (ha : plainE a = true) (hb : plainE b = true)
    (hf : (foldedForSure 8 a && foldedForSure 8 b) = false) (hc : (constantsAlone 8 a && constantsAlone 8 b) = false) :
    swappedStores [.Tuple [.Name x px, .Name y py] k pt] (.Tuple [a, b] k2 p2) env = pure (some [x, y]) := by
  have hbk : env.blockKind = .function := by unfold Env.blockKind; rw [hk]; rfl
  have e1 : env.kindOf x = some .local := hx
  have e2 : env.kindOf y = some .local := hy
  have hl2 : py.line == px.line := by simpa using (eq_of_beq hl).symm
  have s1 : ([a, b].any fun | .Starred .. => true | _ => false) = false := by
    simp only [List.any_cons, List.any_nil, Bool.or_false, Bool.or_eq_false_iff]
    constructor
    · cases a <;> first | rfl | cases ha
    · cases b <;> first | rfl | cases hb
  have s2 : ([x, y] : List Str).eraseDups.length = 2 := by
    have : (x == y) = false := by simpa using hxy
    have : (y == x) = false := by simpa using Ne.symm hxy
    simp [List.eraseDups, List.eraseDupsBy, List.eraseDupsBy.loop, this]
  have s3 : ([a, b].all (foldedForSure 8)) = false := by simpa using hf
  have s4 : ([a, b].all (constantsAlone 8)) = false := by simpa using hc
  have pl : py.line = px.line := (eq_of_beq hl).symm
  have fm : ∀ f : Expr → Option Str, f (.Name x px) = some x → f (.Name y py) = some y → [Expr.Name x px, Expr.Name y py].filterMap f = [x, y] := fun f h1 h2 => by simp [h1, h2]
  unfold swappedStores
  dsimp only
  refine (if_neg (by simp [hbk])).trans ?_
  refine (if_neg (fun h => Bool.noConfusion (s1.symm.trans h))).trans ?_
  rw [fm _ (by simp [e1, Expr.pos]) (by simp [e2, Expr.pos, pl])]
  refine (if_neg (by simp [s2])).trans ?_
  refine (if_neg (by rw [s3]; exact Bool.false_ne_true)).trans ?_
  exact if_neg (by rw [s4]; exact Bool.false_ne_true)
theorem sw_tupT {es : List Expr} {k l : Nat} {p : Pos} (e : Expr) (env : PySem.Env) : swapsWithSole [.Tuple es k p] e l env = pure false := by
  cases e <;> rfl
theorem sw_subT {o i : Expr} {l : Nat} {p : Pos} (e : Expr) (env : PySem.Env) : swapsWithSole [.Subscript o i p] e l env = pure false := by
  cases e <;> rfl
theorem st_tupT {es : List Expr} {k : Nat} {p : Pos} (e : Expr) (env : PySem.Env) (h : ∀ a b c, e = .Tuple a b c → False) : swappedStores [.Tuple es k p] e env = pure none := by
  cases e <;> first | rfl | exact absurd rfl (h _ _ _)
structure SndS (n : Nat) : Prop where
  s : ∀ (cfg : Cfg) (X : Cx) (cf : Nat → List Vl → Option Vl) (wf : Nat) (st : Stmt) (c : S), Gs cfg X cf → cvS n cfg st = some c → SS X cf wf st c
  ss : ∀ (cfg : Cfg) (X : Cx) (cf : Nat → List Vl → Option Vl) (wf : Nat) (st : List Stmt) (c : Ss), Gs cfg X cf → cvSs n cfg st = some c → SSs X cf wf st c
theorem snd_ss (ih : SndS n) {st : List Stmt} {c : Ss} (g : Gs cfg X cf) (h : cvSs (n + 1) cfg st = some c) : SSs X cf wf st c := by
  cases st with
  | nil =>
    simp only [cvSs] at h
    cases h
    exact ss_nil
  | cons s r =>
    simp only [cvSs, bind, Option.bind_eq_some_iff] at h
    obtain ⟨x, hx, xs, hxs, e⟩ := h
    cases e
    exact ss_cons (ih.s cfg X cf wf s x g hx) (ih.ss cfg X cf wf r xs g hxs)
theorem plainIx_not {k : Expr} (h : plainIx k = true) : (∀ (env : PySem.Env) (o : Expr) (p : Pos) v, assign (.Subscript o k p) env v = (do
      let ov ← holding [v] (eval o env)
      let iv ← holding [v, ov] (eval k env)
      standAt p
      holding [v, ov, iv] (setItem ov iv v)
      release [v, ov, iv] [])) ∧ ∀ ov iv new, augStore k ov iv new = (do holding [new, ov, iv] (setItem ov iv new); release [new, ov, iv] []; pure .next) := by
  cases k <;> first | exact ⟨fun _ _ _ _ => rfl, fun _ _ _ => rfl⟩ | cases h
theorem snd_s (ih : SndS n) {st : Stmt} {c : S} (g : Gs cfg X cf) (h : cvS (n + 1) cfg st = some c) : SS X cf wf st c := by
  have se : ∀ {e : Expr} {c : E}, cvE n cfg e = some c → SE X cf e c := fun {e c} he => ((snd n).e cfg X cf e c g.toGx he).1
  simp only [cvS] at h
  split at h
  · cases h; exact ss_pass
  · cases h; exact ss_brk
  · cases h; exact ss_cont
  · cases h; exact ss_retN
  · simp only [Option.map_eq_some_iff] at h
    obtain ⟨x, hx, e⟩ := h
    subst e
    exact ss_ret (se hx)
  · split at h
    · cases h; exact ss_doc
    · simp only [bind, Option.bind_eq_some_iff] at h
      obtain ⟨x, hx, y, hy, h⟩ := h
      split at h
      · split at h
        · rename_i hk
          simp only [Bool.and_eq_true, decide_eq_true_eq] at hk
          cases h
          obtain ⟨⟨⟨hm, h1⟩, h2⟩, h3⟩ := hk
          subst hm
          exact ss_app (se hx) (se hy) h1 h2 h3
        · cases h
      · cases h
    · cases h
  · split at h
    · simp only [bind, Option.bind_eq_some_iff] at h
      obtain ⟨i, hi, y, hy, e⟩ := h
      cases e
      exact snd_set g hi hy
    · split at h
      · split at h
        · simp only [bind, Option.bind_eq_some_iff] at h
          obtain ⟨i, hi, j, hj, u, hu, v, hv, h⟩ := h
          split at h
          · rename_i hk
            simp only [Bool.and_eq_true, decide_eq_true_eq, Bool.not_eq_true', beq_iff_eq] at hk
            cases h
            obtain ⟨⟨⟨⟨⟨⟨⟨⟨k1, k2⟩, k3⟩, k4⟩, k5⟩, k6⟩, k7⟩, k8⟩, k9⟩ := hk
            have kx := k2
            have ky := k3
            rw [← g.sc] at kx ky
            exact ss_par g.calm g.nd (cvG_of g.toGx hi).1 (cvG_of g.toGx hj).1 k1 kx ky (se hu) (se hv) k6 k7 (sw_par g.kd kx ky k4 (by simpa using k5) k6 k7 k8 k9)
          · cases h
        · cases h
      · rename_i es k p _ hne
        simp only [bind, Option.bind_eq_some_iff] at h
        obtain ⟨ts, hts, y, hy, e⟩ := h
        cases e
        refine ss_setT (snd_t g.toGx (.Tuple es k p) (.tp ts) (by simp only [cvT, hts]; rfl)) (se hy) (sw_tupT _ _) (st_tupT _ _ hne)
    · simp only [bind, Option.bind_eq_some_iff] at h
      obtain ⟨x, hx, z, hz, y, hy, h⟩ := h
      split at h
      · split at h
        · rename_i hk
          cases h
          exact ss_setI (se hx) (se hz) (se hy) ((plainIx_not hk).1 _ _ _) (sw_subT _ _) rfl
        · cases h
      · cases h
    · cases h
  · split at h
    · simp only [bind, Option.bind_eq_some_iff] at h
      obtain ⟨i, hi, y, hy, e⟩ := h
      cases e
      obtain ⟨h1, h2, h3⟩ := cvG_of g.toGx hi
      exact ss_aug g.nd h1 h2 h3 (se hy)
    · simp only [bind, Option.bind_eq_some_iff] at h
      obtain ⟨x, hx, z, hz, y, hy, h⟩ := h
      split at h
      · split at h
        · rename_i hk
          cases h
          exact ss_augI (se hx) (se hz) (se hy) (plainIx_not hk).2
        · cases h
      · cases h
    · cases h
  · simp only [bind, Option.bind_eq_some_iff] at h
    obtain ⟨z, hz, x, hx, y, hy, e⟩ := h
    cases e
    exact ss_if ((snd n).e cfg X cf _ z g.toGx hz).2.1 (ih.ss cfg X cf wf _ x g hx) (ih.ss cfg X cf wf _ y g hy)
  · simp only [bind, Option.bind_eq_some_iff] at h
    obtain ⟨t, ht, i, hi, x, hx, e⟩ := h
    cases e
    obtain ⟨hI, hfs⟩ := (snd n).i cfg X cf _ _ i g.toGx hi
    exact ss_for g.po g.calm hI (snd_t g.toGx _ t ht) (ih.ss cfg X cf wf _ x g hx) (hfs X.env)
  · simp only [bind, Option.bind_eq_some_iff] at h
    obtain ⟨z, hz, x, hx, e⟩ := h
    cases e
    exact ss_while g.po ((snd n).e cfg X cf _ z g.toGx hz).2.1 (ih.ss cfg X cf wf _ x g hx)
  · cases h
theorem sndS : ∀ n, SndS n
  | 0 => ⟨fun _ _ _ _ _ _ _ h => by simp [cvS] at h, fun _ _ _ _ _ _ _ h => by simp [cvSs] at h⟩
  | n + 1 => ⟨fun cfg X cf wf st c g h => snd_s (sndS n) g h, fun cfg X cf wf st c g h => snd_ss (sndS n) g h⟩
end
end Ev
namespace Ev
open PySem PySem.Spec PyProof.Rows L2
/-- a def as it is looked at: its name, its text, its slots, its parameters -/
structure DD where
  x : Str
  st : Stmt
  N : List Str
  ps : List Str
def cfgOf (ds : List DD) (d : DD) : Cfg := ⟨d.N, defScope d.st, ds.map (·.x), fun _ => true⟩
/-- a def of the text, translated -/
structure DefOk (K : PySem.W.Frag) (mg : Str → Option Value) (ds : List DD) (n : Nat) (d : DD) (fn : Fn) : Prop where
  sc : FnScope d.N d.ps (defScope d.st)
  cv : ∃ m, cvSs m (cfgOf ds d) (defBody d.st) = some fn.body
  np : fn.np = d.ps.length
  ns : fn.ns = d.N.length
  there : ∃ f fd, Fun K d.x d.x d.st f fd ∧ mg d.x = some (.ref f) ∧ Binds K fd d.ps []
theorem rpVs_start {K : PySem.W.Frag} {H : Hp} {vs : List V} {rs : List Vl} {N : List Str} (h : RpVs K H vs rs) (hl : vs.length ≤ N.length) : BRep K H (L2.start N vs) H (startE N.length rs) := by
  have hlen := h.length
  have noow : ∀ (i : Nat) (r : Vl), (startE N.length rs)[i]? ≠ some (some (.ow r)) := fun i r e => by
    unfold startE at e
    rcases Nat.lt_or_ge i rs.length with hi | hi
    · rw [List.getElem?_append_left (by simpa using hi), List.getElem?_map] at e
      simp [hi] at e
    · rw [List.getElem?_append_right (by simpa using hi)] at e
      have := List.mem_of_getElem? e
      rw [List.mem_replicate] at this
      cases this.2
  refine ⟨Same.refl H, ?_, fun i r hi => ?_, fun i r hi => absurd hi (noow i r)⟩
  · unfold startE L2.start
    simp
    omega
  · unfold startE at hi
    rcases Nat.lt_or_ge i rs.length with hl2 | hl2
    · rw [List.getElem?_append_left (by simpa using hl2), List.getElem?_map] at hi
      simp [hl2] at hi
      have hr : rs[i]? = some r := by rw [List.getElem?_eq_getElem hl2, hi]
      obtain ⟨v, h1, h2⟩ := pr_get h hr
      refine ⟨v, ?_, ?_⟩
      · unfold L2.start
        rw [List.getElem?_append_left (by simp; omega), List.getElem?_map, h1]
        rfl
      · have no : ∀ a, ¬ ∃ j, Own (startE N.length rs) (L2.start N vs) j a := fun a ⟨j, ⟨q, z⟩, _⟩ => noow j q z
        cases r with
        | h d => exact h2
        | l xs =>
          obtain ⟨a, us, e, h3, h4⟩ := h2
          exact ⟨a, us, e, h3, h4, no a⟩
        | s xs =>
          obtain ⟨a, us, e, h3, h4⟩ := h2
          refine ⟨a, us, e, ?_, h4⟩
          rcases h3 with h3 | h3
          · exact .inl ⟨h3, no a⟩
          · exact .inr fun H' => .inr h3
        | m _ => exact h2.elim
    · rw [List.getElem?_append_right (by simpa using hl2)] at hi
      have := List.mem_of_getElem? hi
      rw [List.mem_replicate] at this
      cases this.2
section
variable {P : Program} {w : World} {K : PySem.W.Frag} {mg : Str → Option Value} {base : Heap}
theorem fns_ok {ds : List DD} {fns : List Fn} {wf : Nat} (hb : ∀ x ∈ bltNames, mg x = none) (hd : ∀ n d, ds[n]? = some d → ∃ fn, fns[n]? = some fn ∧ DefOk K mg ds n d fn) : ∀ (k n : Nat) (d : DD), ds[n]? = some d → ∀ f fd, Fun K d.x d.x d.st f fd →
    FnOk P w K mg base CX0 k f fd d.ps (spE K (evF fns wf k n))
  | 0, n, d, hn, f, fd, F => ⟨fun vs H Q E ⟨ds, _, r, h, _⟩ => by simp [evF] at h, fun A outer s H args us vs Q E _ _ _ _ ⟨ds, _, r, h, _⟩ => by simp [evF] at h⟩
  | k + 1, n, d, hn, f, fd, F => by
    obtain ⟨fn, hfn, ok⟩ := hd n d hn
    obtain ⟨m, hcv⟩ := ok.cv
    refine F.ok ok.sc (fun vs H Q E h => ?_) (fun cdv A outer s H vs Q E hr h => ?_)
    · obtain ⟨rs, h1, r, h2, _⟩ := h
      simp only [evF, hfn, bind, Option.bind_some] at h2
      split at h2
      · rename_i hl
        rw [h1.length, hl, ok.np]
      · cases h2
    · obtain ⟨rs, h1, r, h2, q⟩ := h
      simp only [evF, hfn, bind, Option.bind_some] at h2
      split at h2
      rotate_left
      · cases h2
      rename_i hl
      rw [Option.bind_eq_some_iff] at h2
      obtain ⟨fl, hfl, h2⟩ := h2
      have hpl : d.ps.length ≤ d.N.length := by
        have := congrArg List.length ok.sc.pre
        rw [List.length_take] at this
        omega
      have g : Gs (cfgOf ds d) (cxOf CX0 P w K mg base d.N d.x (defScope d.st) f cdv A outer s H E).nox (evF fns wf k) :=
        { nd := ok.sc.nd
          hN := rfl
          sc := rfl
          calm := rfl
          fn := fun _ _ => rfl
          room := hr.mono (Nat.zero_le _)
          blt := hb
          defs := fun j x hx => by
            have hx2 : (ds.map (·.x))[j]? = some x := hx
            rw [List.getElem?_map, Option.map_eq_some_iff] at hx2
            obtain ⟨d2, hd2, rfl⟩ := hx2
            obtain ⟨fn2, _, ok2⟩ := hd j d2 hd2
            obtain ⟨f2, fd2, F2, m2, b2⟩ := ok2.there
            exact ⟨k, f2, fd2, d2.ps, fns_ok hb hd k j d2 hd2 f2 fd2 F2, hr, m2, F2.kp, b2⟩
          po := PassesOwn.never
          kd := ok.sc.kind }
      refine ⟨_, (sndS m).ss _ _ _ wf _ _ g hcv, H, startE fn.ns rs, ?_, fl, hfl, ?_⟩
      · rw [ok.ns]
        exact rpVs_start h1 (by rw [h1.length, hl, ok.np]; exact hpl)
      · cases fl with
        | nx β =>
          cases h2
          exact fun σ' H' b' => q .non H' b'.old mk_non trivial
        | rt v =>
          cases h2
          exact fun x H' s' r' f' => q x H' s' r' f'
        | bk β => cases h2
        | ct β => cases h2
/-- the law's own promise -/
def spL (K : PySem.W.Frag) : Sp := fun vs H Q _ => ∃ (a : Addr) (ns : List Int), vs = [.ref a] ∧ SqL K H a (ns.map V.int) ∧ ns.length ≤ 63 ∧ ∀ H', Q (.bl true) H'
theorem rp_ints {K : PySem.W.Frag} {H : Hp} : ∀ ns : List Int, RpDs K H (ns.map V.int) (ns.map Dt.int)
  | [] => .nil
  | _ :: ns => .cons mk_int (rp_ints ns)
theorem law_ok {k : Nat} {f : Addr} {fd : FuncData} {ps : List Str} {g : List Vl → Option Vl} (F : FnOk P w K mg base CX0 k f fd ps (spE K g)) (h : ∀ ns : List Int, ns.length ≤ 63 → g [.s (ns.map .int)] = some (.h (.bl true))) (hp : ps.length = 1) :
    FnOk P w K mg base CX0 k f fd ps (spL K) where
  len := fun vs H Q E ⟨a, ns, e, _⟩ => by subst e; rw [hp]; rfl
  run := fun A outer s H args us vs Q E hr e0 hb hv ⟨a, ns, e, hS, hl, q⟩ => by
    subst e
    refine F.run A outer s H args us [.ref a] Q E hr e0 hb hv ⟨[.s (ns.map .int)], .cons ⟨a, _, rfl, hS, rp_ints ns⟩ .nil, .h (.bl true), h ns hl, fun v H' s' r' _ => ?_⟩
    rw [rp_bl r']
    exact q H'
end
end Ev
namespace Ev
open PySem L2
/-- a def's body at its arguments -/
def runB (cf : Nat → List Vl → Option Vl) (wf : Nat) (fn : Fn) (vs : List Vl) : Option Vl :=
  (evSs cf wf fn.body (startE fn.ns vs)).bind fun r => match r with
    | .rt v => some v
    | .nx _ => some (.h .non)
    | _ => none
theorem evF_at {fns : List Fn} {wf k f : Nat} {vs : List Vl} {fn : Fn} (h : fns[f]? = some fn) (hl : vs.length = fn.np) : evF fns wf (k + 1) f vs = runB (evF fns wf k) wf fn vs := by
  simp only [evF, h, bind, Option.bind_some, hl, if_true]
  rfl
/-- a tuple of ints -/
def ti (xs : List Int) : Dt := .tup (xs.map .int)
/-- a tuple of tuples of ints -/
def tb (b : List (List Int)) : Dt := .tup (b.map ti)
section
variable {α : Type} {f : Dt → Option (Option Dt)}
theorem compL_mapf (e g : α → Dt) : ∀ (xs : List α), (∀ x ∈ xs, f (e x) = some (some (g x))) → compL f (xs.map e) = some (xs.map g)
  | [], _ => rfl
  | x :: xs, h => by
    have h1 := h x List.mem_cons_self
    have h2 := compL_mapf e g xs fun y hy => h y (List.mem_cons_of_mem _ hy)
    simp [compL, h1, h2]
theorem compL_filt (e : α → Dt) (g : α → Option Dt) : ∀ (xs : List α), (∀ x ∈ xs, f (e x) = some (g x)) → compL f (xs.map e) = some (xs.filterMap g)
  | [], _ => rfl
  | x :: xs, h => by
    have h1 := h x List.mem_cons_self
    have h2 := compL_filt e g xs fun y hy => h y (List.mem_cons_of_mem _ hy)
    simp only [List.map_cons, compL, h1, h2, bind, Option.bind_some, List.filterMap_cons]
    cases g x <;> rfl
theorem compL_rng (g : Nat → Dt) (a b : Int) (h : ∀ i : Nat, i < (b - a).toNat → f (.int (a + i)) = some (some (g i))) : compL f (rngD a b) = some ((List.range (b - a).toNat).map g) :=
  compL_mapf _ _ _ fun i hi => h i (List.mem_range.mp hi)
theorem compL_rng0 (g : Nat → Dt) (n : Nat) (h : ∀ i : Nat, i < n → f (.int (i : Nat)) = some (some (g i))) : compL f (rngD 0 (n : Nat)) = some ((List.range n).map g) := by
  have := compL_rng (f := f) g 0 (n : Nat) fun i hi => by
    rw [Int.zero_add]
    exact h i (by omega)
  rw [show ((n : Nat) - 0 : Int).toNat = n by omega] at this
  exact this
theorem compL_rng0F (g : Nat → Option Dt) (n : Nat) (h : ∀ i : Nat, i < n → f (.int (i : Nat)) = some (g i)) : compL f (rngD 0 (n : Nat)) = some ((List.range n).filterMap g) := by
  have e : rngD 0 (n : Nat) = (List.range n).map fun (i : Nat) => Dt.int (i : Nat) := by
    unfold rngD
    rw [show ((n : Nat) - 0 : Int).toNat = n by omega]
    exact List.map_congr_left fun i _ => by rw [Int.zero_add]
  rw [e]
  exact compL_filt _ g _ fun i hi => h i (List.mem_range.mp hi)
theorem rngD_len' (i j : Int) : (rngD i j).length = (j - i).toNat := by unfold rngD; rw [List.length_map, List.length_range]
theorem rngD_at {i j : Int} {n : Nat} {x : Dt} (h : (rngD i j)[n]? = some x) : n < (j - i).toNat ∧ x = .int (i + n) := by
  unfold rngD at h
  rw [List.getElem?_map, Option.map_eq_some_iff] at h
  obtain ⟨m, hm, rfl⟩ := h
  have h1 := (List.getElem?_eq_some_iff.mp hm).1
  rw [List.length_range] at h1
  rw [List.getElem?_range h1] at hm
  cases hm
  exact ⟨h1, rfl⟩
end
/-- a loop that runs to its end -/
theorem loopE_inv {f : Dt → Sl → Option Fl} : ∀ (items : List Dt) (P : Nat → Sl → Prop) (β : Sl), P 0 β → (∀ i x β, items[i]? = some x → P i β → ∃ β', (f x β = some (.nx β') ∨ f x β = some (.ct β')) ∧ P (i + 1) β') → ∃ β', loopE f items β = some (.nx β') ∧ P items.length β'
  | [], P, β, h, _ => ⟨β, rfl, h⟩
  | x :: xs, P, β, h, hs => by
    obtain ⟨β1, h1, h2⟩ := hs 0 x β rfl h
    obtain ⟨β2, h3, h4⟩ := loopE_inv xs (fun i => P (i + 1)) β1 h2 fun i y β' hi hp => hs (i + 1) y β' hi hp
    refine ⟨β2, ?_, h4⟩
    rcases h1 with h1 | h1
    · simp only [loopE, h1, bind, Option.bind_some]; exact h3
    · simp only [loopE, h1, bind, Option.bind_some]; exact h3
/-- a loop over a range -/
theorem loopE_rng {f : Dt → Sl → Option Fl} (a b : Int) (P : Nat → Sl → Prop) (β : Sl) (h0 : P 0 β) (hs : ∀ i β, i < (b - a).toNat → P i β → ∃ β', (f (.int (a + i)) β = some (.nx β') ∨ f (.int (a + i)) β = some (.ct β')) ∧ P (i + 1) β') :
    ∃ β', loopE f (rngD a b) β = some (.nx β') ∧ P (b - a).toNat β' := by
  obtain ⟨β', h1, h2⟩ := loopE_inv (rngD a b) P β h0 fun i x β hi hp => by
    obtain ⟨h3, rfl⟩ := rngD_at hi
    exact hs i β h3 hp
  rw [rngD_len'] at h2
  exact ⟨β', h1, h2⟩
theorem loopE_map {α : Type} {f : Dt → Sl → Option Fl} (e : α → Dt) (xs : List α) (P : Nat → Sl → Prop) (β : Sl) (h0 : P 0 β) (hs : ∀ i x β, xs[i]? = some x → P i β → ∃ β', (f (e x) β = some (.nx β') ∨ f (e x) β = some (.ct β')) ∧ P (i + 1) β') :
    ∃ β', loopE f (xs.map e) β = some (.nx β') ∧ P xs.length β' := by
  obtain ⟨β', h1, h2⟩ := loopE_inv (xs.map e) P β h0 fun i x β hi hp => by
    rw [List.getElem?_map, Option.map_eq_some_iff] at hi
    obtain ⟨y, hy, rfl⟩ := hi
    exact hs i y β hy hp
  rw [List.length_map] at h2
  exact ⟨β', h1, h2⟩
theorem asInts_map : ∀ xs : List Int, asInts (xs.map .int) = some xs
  | [] => rfl
  | x :: xs => by simp [asInts, asInts_map xs]
theorem asBools_map : ∀ xs : List Bool, asBools (xs.map .bl) = some xs
  | [] => rfl
  | x :: xs => by simp [asBools, asBools_map xs]
theorem cutD_map {α β : Type} (g : α → β) (xs : List α) (lo hi : Option Int) : cutD (xs.map g) lo hi = (cutD xs lo hi).map g := by
  unfold cutD
  rw [List.length_map, List.map_take, List.map_drop]
theorem atI_map {α β : Type} (g : α → β) (xs : List α) (i : Int) : atI (xs.map g) i = (atI xs i).map g := by
  unfold atI
  rw [List.length_map]
  cases ixN xs.length i with
  | none => rfl
  | some j => simp
theorem atI_nat' {α : Type} {xs : List α} {i : Nat} (h : i < xs.length) : atI xs (i : Nat) = xs[i]? := by
  unfold atI ixN
  rw [if_pos (by omega), if_pos (by omega)]
  simp
theorem ixN_nat {n i : Nat} (h : i < n) : ixN n (i : Nat) = some i := by
  unfold ixN
  rw [if_pos (by omega), if_pos (by omega)]
  simp
theorem small62_nat {n : Nat} (h : n < 4611686018427387904) : small62 (n : Nat) = true := by
  unfold small62
  simp
  omega
/-- it is there, and it is so -/
def Ok {α : Type} (o : Option α) (Q : α → Prop) : Prop := ∃ a, o = some a ∧ Q a
theorem ok_congr {α : Type} {o o' : Option α} {Q : α → Prop} (h : o = o') : Ok o Q = Ok o' Q := by rw [h]
theorem obind_congr {α β : Type} {o o' : Option α} {f : α → Option β} (h : o = o') : o.bind f = o'.bind f := by rw [h]
theorem mbind_congr {α β : Type} {o o' : Option α} {f : α → Option β} (h : o = o') : (Bind.bind o f) = (Bind.bind o' f) := by rw [h]
theorem compL_congr {f : Dt → Option (Option Dt)} {xs ys : List Dt} (h : xs = ys) : compL f xs = compL f ys := by rw [h]
theorem loopE_congr {f : Dt → Sl → Option Fl} {xs ys : List Dt} {β β' : Sl} (h : xs = ys) (hb : β = β') : loopE f xs β = loopE f ys β' := by rw [h, hb]
theorem ok_some {α : Type} {a : α} {Q : α → Prop} : Ok (some a) Q ↔ Q a := ⟨fun ⟨_, e, h⟩ => by cases e; exact h, fun h => ⟨a, rfl, h⟩⟩
theorem ok_none {α : Type} {Q : α → Prop} : Ok (none : Option α) Q ↔ False := ⟨fun ⟨_, e, _⟩ => (by cases e), fun h => h.elim⟩
theorem ok_bind {α β : Type} {o : Option α} {f : α → Option β} {Q : β → Prop} : Ok (o.bind f) Q ↔ Ok o fun a => Ok (f a) Q := by
  cases o with
  | none => exact ⟨fun ⟨_, e, _⟩ => (by cases e), fun ⟨_, e, _⟩ => (by cases e)⟩
  | some a => rw [ok_some]; rfl
theorem ok_map {α β : Type} {o : Option α} {f : α → β} {Q : β → Prop} : Ok (o.map f) Q ↔ Ok o fun a => Q (f a) := by
  cases o with
  | none => exact ⟨fun ⟨_, e, _⟩ => (by cases e), fun ⟨_, e, _⟩ => (by cases e)⟩
  | some a => rw [ok_some]; exact ok_some
theorem ok_eq {α : Type} {o : Option α} {a : α} : Ok o (fun x => x = a) ↔ o = some a := ⟨fun ⟨_, e, h⟩ => by rw [e, h], fun h => ⟨a, h, rfl⟩⟩
theorem ok_of {α : Type} {o : Option α} {a : α} {Q : α → Prop} (h : o = some a) (q : Q a) : Ok o Q := ⟨a, h, q⟩
theorem ok_mono {α : Type} {o : Option α} {P Q : α → Prop} (h : Ok o P) (k : ∀ a, P a → Q a) : Ok o Q := let ⟨a, e, p⟩ := h; ⟨a, e, k a p⟩
theorem ok_ite {α : Type} {c : Prop} [Decidable c] {a b : Option α} {Q : α → Prop} (h1 : c → Ok a Q) (h2 : ¬ c → Ok b Q) : Ok (if c then a else b) Q := by
  by_cases h : c
  · rw [if_pos h]; exact h1 h
  · rw [if_neg h]; exact h2 h
/-- what a turn of a loop is to reach -/
def Turned (P : Sl → Prop) (Q : Fl → Prop) : Fl → Prop
  | .nx β => P β
  | .ct β => P β
  | .bk β => Q (.nx β)
  | .rt v => Q (.rt v)
theorem ok_loop {f : Dt → Sl → Option Fl} {Q : Fl → Prop} : ∀ (items : List Dt) (P : Nat → Sl → Prop) (β : Sl), P 0 β → (∀ i x β, items[i]? = some x → P i β → Ok (f x β) (Turned (P (i + 1)) Q)) → (∀ β, P items.length β → Q (.nx β)) → Ok (loopE f items β) Q
  | [], P, β, h, _, hq => ⟨_, rfl, hq β h⟩
  | x :: xs, P, β, h, hs, hq => by
    obtain ⟨r, h1, h2⟩ := hs 0 x β rfl h
    have ih : ∀ β1, P 1 β1 → Ok (loopE f xs β1) Q := fun β1 hp => ok_loop xs (fun i => P (i + 1)) β1 hp (fun i y β' hi hp => hs (i + 1) y β' hi hp) hq
    simp only [loopE, h1, bind, Option.bind_some]
    cases r with
    | nx β1 => exact ih β1 h2
    | ct β1 => exact ih β1 h2
    | bk β1 => exact ⟨_, rfl, h2⟩
    | rt v => exact ⟨_, rfl, h2⟩
theorem ok_loopR {f : Dt → Sl → Option Fl} {Q : Fl → Prop} {a b : Int} {β : Sl} (P : Nat → Sl → Prop) (h0 : P 0 β) (hs : ∀ (i : Nat) β, a + i < b → P i β → Ok (f (.int (a + i)) β) (Turned (P (i + 1)) Q)) (hq : ∀ β, P (b - a).toNat β → Q (.nx β)) : Ok (loopE f (rngD a b) β) Q :=
  ok_loop (rngD a b) P β h0 (fun i x β hi hp => by
    obtain ⟨h3, rfl⟩ := rngD_at hi
    exact hs i β (by omega) hp) (by rw [rngD_len']; exact hq)
theorem ok_loopM {α : Type} {f : Dt → Sl → Option Fl} {Q : Fl → Prop} {e : α → Dt} {xs : List α} {β : Sl} (P : Nat → Sl → Prop) (h0 : P 0 β) (hs : ∀ (i : Nat) (x : α) β, xs[i]? = some x → P i β → Ok (f (e x) β) (Turned (P (i + 1)) Q)) (hq : ∀ β, P xs.length β → Q (.nx β)) : Ok (loopE f (xs.map e) β) Q :=
  ok_loop (xs.map e) P β h0 (fun i x β hi hp => by
    rw [List.getElem?_map, Option.map_eq_some_iff] at hi
    obtain ⟨y, hy, rfl⟩ := hi
    exact hs i y β hy hp) (by rw [List.length_map]; exact hq)
theorem bindE_nm (i : Nat) (d : Dt) (δ : Env) : bindE (.nm i) d δ = some (δ.set i (some (.h d))) := Eq.trans (by rw [bindE]) (Eq.refl _)
theorem bindE_tp (ts : List Tg) (xs : List Dt) (δ : Env) : bindE (.tp ts) (.tup xs) δ = bindEs ts xs δ := Eq.trans (by rw [bindE]) (Eq.refl _)
theorem bindEs_nil (δ : Env) : bindEs [] [] δ = some δ := Eq.trans (by rw [bindEs]) (Eq.refl _)
theorem bindEs_cons (t : Tg) (ts : List Tg) (x : Dt) (xs : List Dt) (δ : Env) : bindEs (t :: ts) (x :: xs) δ = (bindE t x δ).bind fun δ' => bindEs ts xs δ' := Eq.trans (by rw [bindEs]; rfl) (Eq.refl _)
theorem bindB_nm (i : Nat) (d : Dt) (δ : Sl) : bindB (.nm i) d δ = some (δ.set i (some (.im (.h d)))) := Eq.trans (by rw [bindB]) (Eq.refl _)
theorem bindB_tp (ts : List Tg) (xs : List Dt) (δ : Sl) : bindB (.tp ts) (.tup xs) δ = bindBs ts xs δ := Eq.trans (by rw [bindB]) (Eq.refl _)
theorem bindBs_nil (δ : Sl) : bindBs [] [] δ = some δ := Eq.trans (by rw [bindBs]) (Eq.refl _)
theorem bindBs_cons (t : Tg) (ts : List Tg) (x : Dt) (xs : List Dt) (δ : Sl) : bindBs (t :: ts) (x :: xs) δ = (bindB t x δ).bind fun δ' => bindBs ts xs δ' := Eq.trans (by rw [bindBs]; rfl) (Eq.refl _)
theorem eqE_int (i j : Int) : eqE (.h (.int i)) (.h (.int j)) = some (decide (i = j)) := by
  simp [eqE, shp, okD, dep, eqD]
theorem bbeq_tf : (true == false) = false := Eq.trans (by decide) (Eq.refl _)
theorem bbeq_ft : (false == true) = false := Eq.trans (by decide) (Eq.refl _)
theorem eqE_bl (a b : Bool) : eqE (.h (.bl a)) (.h (.bl b)) = some (a == b) := by
  simp [eqE, shp, okD, dep, eqD]
theorem eqE_non (d : Dt) (h : shp d = true) : eqE (.h d) (.h .non) = some (match d with | .non => true | _ => false) := by
  have : shp .non = true := rfl
  simp only [eqE, h, this, Bool.and_self, if_true]
  cases d <;> rfl
/-- the common script words: a cell -/
def cellB (a : Int) (b : Int) : Ss := .cons (.ife (.cmp .Lt (.var 1) (.bi .len (.cons (.var 0) .nil))) (.cons (.ret (.ix (.var 0) (.var 1)))
  .nil) .nil)
  (.cons (.ret (.bin .Add (.bin .Mult (.con (.int a)) (.var 1)) (.con (.int b))))
  .nil)
theorem run_cell {cf : Nat → List Vl → Option Vl} {wf : Nat} {a b : Int} (ha : a.natAbs < 1000) (ns : List Int) (j : Nat) : ∃ c : Int, runB cf wf ⟨2, 2, cellB a b⟩ [.s (ns.map .int), .h (.int j)] = some (.h (.int c)) := by
  by_cases h : j < ns.length
  · refine ⟨ns[j], ?_⟩
    simp [runB, cellB, evSs, evS, evE, evEs, startE, view, Bd.v, biE, lenE, cmpE, ltV, ltE, truE, ixE, fr, asVar, h, atI_nat' (xs := ns.map Dt.int) (i := j) (by simpa using h)]
  · refine ⟨a * j + b, ?_⟩
    have hm : mulOk a j = true := by
      unfold mulOk
      simp
      omega
    simp [runB, cellB, evSs, evS, evE, evEs, startE, view, Bd.v, biE, lenE, cmpE, ltV, ltE, truE, ixE, fr, asVar, h, binE, mulE, addE, hm]
end Ev
namespace Ev
open PySem L2
def drawL : Ss := .cons (.ife (.and (.var 3) (.cmp .Gt (.var 2) (.con (.int 0)))) (.cons (.app 5 (.bin .Mod (.bi .int (.cons (.var 2) .nil)) (.con (.int 5040))))
  (.cons (.set (.nm 2) (.bin .FloorDiv (.var 2) (.con (.int 5040))))
  .nil)) (.cons (.set (.nm 7) (.bin .Mod (.bi .int (.cons (.bin .Add (.bin .Add (.bin .Mult (.var 4) (.con (.int 48271))) (.bin .Mult (.bin .Add (.var 6) (.con (.int 1))) (.con (.int 69621)))) (.con (.int 11))) .nil)) (.con (.int 2147483647))))
  (.cons (.set (.nm 7) (.bin .Mod (.bi .int (.cons (.bin .Add (.bin .Mult (.var 7) (.var 7)) (.bin .Mult (.con (.int 40692)) (.bin .Add (.var 6) (.con (.int 3))))) .nil)) (.con (.int 2147483399))))
  (.cons (.app 5 (.bin .Mod (.bi .int (.cons (.bin .FloorDiv (.var 7) (.con (.int 64))) .nil)) (.con (.int 5040))))
  .nil))))
  .nil
def drawsB : Ss := .cons (.set (.nm 2) (.bi .abs (.cons (.bi .int (.cons (.var 0) .nil)) .nil)))
  (.cons (.set (.nm 3) (.cmp .GtE (.var 2) (.bin .Pow (.con (.int 10)) (.con (.int 18)))))
  (.cons (.set (.nm 4) (.var 2))
  (.cons (.set (.nm 5) (.lst .nil))
  (.cons (.loop (.nm 6) (.rng1 (.var 1)) drawL)
  (.cons (.ret (.var 5))
  .nil)))))
theorem mulOk_l {i j : Int} (h : i.natAbs < 4611686018427387904) : mulOk i j = true := by
  unfold mulOk
  simp
  omega
theorem mulOk_r {i j : Int} (h : j.natAbs < 4611686018427387904) : mulOk i j = true := by
  unfold mulOk
  simp
  omega
theorem lt_line {n : Nat} (h : n ≤ 1000000) : n < sizeLine := by unfold sizeLine; omega
theorem le_line {n : Nat} (h : n ≤ 1000000) : n ≤ sizeLine := Nat.le_of_lt (lt_line h)
def okDraw (d : Int) : Prop := 0 ≤ d ∧ d < 5040
theorem okDraw_mod (a : Int) : okDraw (a % 5040) := ⟨Int.emod_nonneg _ (by omega), Int.emod_lt_of_pos _ (by omega)⟩
theorem all_snoc {α : Type} {P : α → Prop} {xs : List α} {x : α} (h : ∀ y ∈ xs, P y) (hx : P x) : ∀ y ∈ xs ++ [x], P y := fun y hy => by
  rw [List.mem_append] at hy
  rcases hy with hy | hy
  · exact h y hy
  · have : y = x := by simpa using hy
    rw [this]
    exact hx
theorem snoc_map {α β : Type} (f : α → β) (xs : List α) (x : α) : xs.map f ++ [f x] = (xs ++ [x]).map f := by simp
def DrawI (c n : Int) (dg : Bool) (seed : Int) (i : Nat) (β : Sl) : Prop := ∃ (rest : Int) (v6 v7 : Option Bd) (ds : List Int), β = [some (.im (.h (.int c))), some (.im (.h (.int n))), some (.im (.h (.int rest))), some (.im (.h (.bl dg))), some (.im (.h (.int seed))), some (.ow (.l (ds.map .int))), v6, v7] ∧ ds.length = i ∧ ∀ d ∈ ds, okDraw d
theorem draw_mix {cf : Nat → List Vl → Option Vl} {wf : Nat} {c n seed rest : Int} {dg : Bool} {v7 : Option Bd} {ds : List Int} {i : Nat} {Q : Fl → Prop} (hl : ds.length = i) (hd : ∀ d ∈ ds, okDraw d) (hi : i ≤ 1000) (ht : (dg && decide (0 < rest)) = false) :
    Ok (evSs cf wf drawL [some (.im (.h (.int c))), some (.im (.h (.int n))), some (.im (.h (.int rest))), some (.im (.h (.bl dg))), some (.im (.h (.int seed))), some (.ow (.l (ds.map .int))), some (.im (.h (.int i))), v7]) (Turned (DrawI c n dg seed (i + 1)) Q) := by
  have hlen : (ds.map Dt.int).length < sizeLine := lt_line (by rw [List.length_map]; omega)
  have hm1 : mulOk seed 48271 = true := mulOk_r (by decide)
  have hm2 : mulOk ((i : Int) + 1) 69621 = true := mulOk_r (by decide)
  have hm4 : mulOk 40692 ((i : Int) + 3) = true := mulOk_l (by decide)
  have c1 : (0 : Int) < 5040 := by decide
  have c2 : (0 : Int) < 2147483647 := by decide
  have c3 : (0 : Int) < 2147483399 := by decide
  have c5 : (64 : Int) < 1073741824 := by decide
  have c6 : (0 : Int) < 64 := by decide
  have hm3 : ∀ a : Int, mulOk (a % 2147483647) (a % 2147483647) = true := fun a => mulOk_r (by
    have h1 := Int.emod_nonneg a (b := 2147483647) (by omega)
    have h2 := Int.emod_lt_of_pos a (b := 2147483647) (by omega)
    omega)
  have fin : ∀ (v : Vl) (a : Int), DrawI c n dg seed (i + 1) [some (.im (.h (.int c))), some (.im (.h (.int n))), some (.im (.h (.int rest))), some (.im (.h (.bl dg))), some (.im (.h (.int seed))), some (.ow (.l (ds.map .int ++ [.int (a % 5040)]))), some (.im (.h (.int i))), some (.im v)] := fun v a =>
    ⟨rest, _, _, ds ++ [a % 5040], by rw [← snoc_map], by rw [List.length_append, hl]; rfl, all_snoc hd (okDraw_mod a)⟩
  cases dg with
  | false =>
    simp -implicitDefEqProofs only [drawL, eqE_bl, bbeq_tf, bbeq_ft, beq_self_eq_true, frz, frzAll, srcI, srcVars, srcOk, Option.toList, Option.isSome_none, Option.isSome_some, eqE_int, eq_self, evSs, evS, evE, evEs, evO, evC, evI, bindB_nm, bindB_tp, bindBs_nil, bindBs_cons, bindE_nm, bindE_tp, bindEs_nil, bindEs_cons, wipeE, view, Bd.v, truE, cmpE, gtV, ltV, leV, geV, ltE, isV, isntV, neV, ninV, isNon, biE, intE, lenE, absE, minE, maxE, sumE, tupleE, listE, allE, anyE, itemsOf, binE, modE, fdivE, mulE, addE, subE, negE, powE, asH, asI, asHs, ixE, slE, ownL, putE, fr, asVar, isiE, Turned, List.set_cons_succ, List.set_cons_zero, List.map_cons, List.map_nil, List.getElem?_cons_succ, List.getElem?_cons_zero, Option.map_some, Option.join_some, bind, Option.bind_some, ok_bind, ok_some, ok_map, if_true, if_false, ite_true, ite_false, Bool.and_true, Bool.true_and, Bool.and_false, Bool.false_and, decide_true, decide_false, Bool.false_eq_true, not_true_eq_false, not_false_eq_true, Bool.not_true, Bool.not_false, Bool.or_true, Bool.true_or, Bool.or_false, Bool.false_or, List.length_nil, List.length_cons, Nat.zero_add, Int.zero_add, true_and, and_true, and_self, false_and, and_false, or_true, true_or, or_false, false_or, not_true, not_false_iff, decide_eq_true_eq, Bool.not_eq_true, ne_eq, reduceCtorEq, hlen, hm1, hm2, hm3, hm4, c1, c2, c3, c5, c6]
    exact fin _ _
  | true =>
    have hr : ¬ 0 < rest := by simpa using ht
    simp -implicitDefEqProofs only [drawL, eqE_bl, bbeq_tf, bbeq_ft, beq_self_eq_true, frz, frzAll, srcI, srcVars, srcOk, Option.toList, Option.isSome_none, Option.isSome_some, eqE_int, eq_self, evSs, evS, evE, evEs, evO, evC, evI, bindB_nm, bindB_tp, bindBs_nil, bindBs_cons, bindE_nm, bindE_tp, bindEs_nil, bindEs_cons, wipeE, view, Bd.v, truE, cmpE, gtV, ltV, leV, geV, ltE, isV, isntV, neV, ninV, isNon, biE, intE, lenE, absE, minE, maxE, sumE, tupleE, listE, allE, anyE, itemsOf, binE, modE, fdivE, mulE, addE, subE, negE, powE, asH, asI, asHs, ixE, slE, ownL, putE, fr, asVar, isiE, Turned, List.set_cons_succ, List.set_cons_zero, List.map_cons, List.map_nil, List.getElem?_cons_succ, List.getElem?_cons_zero, Option.map_some, Option.join_some, bind, Option.bind_some, ok_bind, ok_some, ok_map, if_true, if_false, ite_true, ite_false, Bool.and_true, Bool.true_and, Bool.and_false, Bool.false_and, decide_true, decide_false, Bool.false_eq_true, not_true_eq_false, not_false_eq_true, Bool.not_true, Bool.not_false, Bool.or_true, Bool.true_or, Bool.or_false, Bool.false_or, List.length_nil, List.length_cons, Nat.zero_add, Int.zero_add, true_and, and_true, and_self, false_and, and_false, or_true, true_or, or_false, false_or, not_true, not_false_iff, decide_eq_true_eq, Bool.not_eq_true, ne_eq, reduceCtorEq, hr, hlen, hm1, hm2, hm3, hm4, c1, c2, c3, c5, c6]
    exact fin _ _
theorem draw_dig {cf : Nat → List Vl → Option Vl} {wf : Nat} {c n seed rest : Int} {v6 v7 : Option Bd} {ds : List Int} {i : Nat} {Q : Fl → Prop} (hl : ds.length = i) (hd : ∀ d ∈ ds, okDraw d) (hi : i ≤ 1000) (hr : 0 < rest) :
    Ok (evSs cf wf drawL [some (.im (.h (.int c))), some (.im (.h (.int n))), some (.im (.h (.int rest))), some (.im (.h (.bl true))), some (.im (.h (.int seed))), some (.ow (.l (ds.map .int))), some (.im (.h (.int i))), v7]) (Turned (DrawI c n true seed (i + 1)) Q) := by
  have hlen : (ds.map Dt.int).length < sizeLine := lt_line (by rw [List.length_map]; omega)
  have c1 : (0 : Int) < 5040 := by decide
  have c4 : (5040 : Int) < 1073741824 := by decide
  simp -implicitDefEqProofs only [drawL, eqE_bl, bbeq_tf, bbeq_ft, beq_self_eq_true, frz, frzAll, srcI, srcVars, srcOk, Option.toList, Option.isSome_none, Option.isSome_some, eqE_int, eq_self, evSs, evS, evE, evEs, evO, evC, evI, bindB_nm, bindB_tp, bindBs_nil, bindBs_cons, bindE_nm, bindE_tp, bindEs_nil, bindEs_cons, wipeE, view, Bd.v, truE, cmpE, gtV, ltV, leV, geV, ltE, isV, isntV, neV, ninV, isNon, biE, intE, lenE, absE, minE, maxE, sumE, tupleE, listE, allE, anyE, itemsOf, binE, modE, fdivE, mulE, addE, subE, negE, powE, asH, asI, asHs, ixE, slE, ownL, putE, fr, asVar, isiE, Turned, List.set_cons_succ, List.set_cons_zero, List.map_cons, List.map_nil, List.getElem?_cons_succ, List.getElem?_cons_zero, Option.map_some, Option.join_some, bind, Option.bind_some, ok_bind, ok_some, ok_map, if_true, if_false, ite_true, ite_false, Bool.and_true, Bool.true_and, Bool.and_false, Bool.false_and, decide_true, decide_false, Bool.false_eq_true, not_true_eq_false, not_false_eq_true, Bool.not_true, Bool.not_false, Bool.or_true, Bool.true_or, Bool.or_false, Bool.false_or, List.length_nil, List.length_cons, Nat.zero_add, Int.zero_add, true_and, and_true, and_self, false_and, and_false, or_true, true_or, or_false, false_or, not_true, not_false_iff, decide_eq_true_eq, Bool.not_eq_true, ne_eq, reduceCtorEq, hr, hlen, c1, c4]
  exact ⟨_, _, _, ds ++ [_], by rw [← snoc_map], by rw [List.length_append, hl]; rfl, all_snoc hd (okDraw_mod _)⟩
theorem run_draws {cf : Nat → List Vl → Option Vl} {wf : Nat} (c : Int) (n : Nat) (hn : n ≤ 1000) : ∃ ds : List Int, ds.length = n ∧ (∀ d ∈ ds, okDraw d) ∧ runB cf wf ⟨2, 8, drawsB⟩ [.h (.int c), .h (.int n)] = some (.l (ds.map .int)) := by
  suffices h : Ok (runB cf wf ⟨2, 8, drawsB⟩ [.h (.int c), .h (.int n)]) fun v => ∃ ds : List Int, ds.length = n ∧ (∀ d ∈ ds, okDraw d) ∧ v = .l (ds.map .int) by
    obtain ⟨v, h1, ds, h2, h3, rfl⟩ := h
    exact ⟨ds, h2, h3, h1⟩
  have e1 : ((0 : Int) ≤ 18 ∧ (18 : Int) ≤ 1000000 ∧ Int.natAbs 10 < 2 ^ 64) = True := eq_true (by decide)
  have e2 : small62 (n : Int) = true := small62_nat (by omega)
  have hs : startE 8 [.h (.int c), .h (.int n)] = [some (.im (.h (.int c))), some (.im (.h (.int n))), none, none, none, none, none, none] := rfl
  have e3 : (0 : Nat) ≤ sizeLine := Nat.zero_le _
  simp -implicitDefEqProofs only [runB, hs, drawsB, eqE_bl, bbeq_tf, bbeq_ft, beq_self_eq_true, frz, frzAll, srcI, srcVars, srcOk, Option.toList, Option.isSome_none, Option.isSome_some, eqE_int, eq_self, evSs, evS, evE, evEs, evO, evC, evI, bindB_nm, bindB_tp, bindBs_nil, bindBs_cons, bindE_nm, bindE_tp, bindEs_nil, bindEs_cons, wipeE, view, Bd.v, truE, cmpE, gtV, ltV, leV, geV, ltE, isV, isntV, neV, ninV, isNon, biE, intE, lenE, absE, minE, maxE, sumE, tupleE, listE, allE, anyE, itemsOf, binE, modE, fdivE, mulE, addE, subE, negE, powE, asH, asI, asHs, ixE, slE, ownL, putE, fr, asVar, isiE, Turned, List.set_cons_succ, List.set_cons_zero, List.map_cons, List.map_nil, List.getElem?_cons_succ, List.getElem?_cons_zero, Option.map_some, Option.join_some, bind, Option.bind_some, ok_bind, ok_some, ok_map, if_true, if_false, ite_true, ite_false, Bool.and_true, Bool.true_and, Bool.and_false, Bool.false_and, decide_true, decide_false, Bool.false_eq_true, not_true_eq_false, not_false_eq_true, Bool.not_true, Bool.not_false, Bool.or_true, Bool.true_or, Bool.or_false, Bool.false_or, List.length_nil, List.length_cons, Nat.zero_add, Int.zero_add, true_and, and_true, and_self, false_and, and_false, or_true, true_or, or_false, false_or, not_true, not_false_iff, decide_eq_true_eq, Bool.not_eq_true, ne_eq, reduceCtorEq, srcI, srcVars, frzAll, e1, e2, e3]
  generalize (if c < 0 then -c else c) = seed
  generalize decide (10 ^ Int.toNat 18 ≤ seed) = dg
  refine ok_loopR (a := 0) (b := n) (DrawI c n dg seed) ⟨seed, none, none, [], rfl, rfl, by simp⟩ (fun i β hi ⟨rest, v6, v7, ds, hb, hl, hd⟩ => ?_) fun β ⟨rest, v6, v7, ds, hb, hl, hd⟩ => ?_
  · subst hb
    simp -implicitDefEqProofs only [eqE_bl, bbeq_tf, bbeq_ft, beq_self_eq_true, frz, frzAll, srcI, srcVars, srcOk, Option.toList, Option.isSome_none, Option.isSome_some, eqE_int, eq_self, evSs, evS, evE, evEs, evO, evC, evI, bindB_nm, bindB_tp, bindBs_nil, bindBs_cons, bindE_nm, bindE_tp, bindEs_nil, bindEs_cons, wipeE, view, Bd.v, truE, cmpE, gtV, ltV, leV, geV, ltE, isV, isntV, neV, ninV, isNon, biE, intE, lenE, absE, minE, maxE, sumE, tupleE, listE, allE, anyE, itemsOf, binE, modE, fdivE, mulE, addE, subE, negE, powE, asH, asI, asHs, ixE, slE, ownL, putE, fr, asVar, isiE, Turned, List.set_cons_succ, List.set_cons_zero, List.map_cons, List.map_nil, List.getElem?_cons_succ, List.getElem?_cons_zero, Option.map_some, Option.join_some, bind, Option.bind_some, ok_bind, ok_some, ok_map, if_true, if_false, ite_true, ite_false, Bool.and_true, Bool.true_and, Bool.and_false, Bool.false_and, decide_true, decide_false, Bool.false_eq_true, not_true_eq_false, not_false_eq_true, Bool.not_true, Bool.not_false, Bool.or_true, Bool.true_or, Bool.or_false, Bool.false_or, List.length_nil, List.length_cons, Nat.zero_add, Int.zero_add, true_and, and_true, and_self, false_and, and_false, or_true, true_or, or_false, false_or, not_true, not_false_iff, decide_eq_true_eq, Bool.not_eq_true, ne_eq, reduceCtorEq]
    cases ht : dg && decide (0 < rest) with
    | false => exact draw_mix hl hd (by omega) ht
    | true =>
      rw [Bool.and_eq_true, decide_eq_true_eq] at ht
      obtain ⟨rfl, hr⟩ := ht
      exact draw_dig (v6 := none) hl hd (by omega) hr
  · subst hb
    simp -implicitDefEqProofs only [eqE_bl, bbeq_tf, bbeq_ft, beq_self_eq_true, frz, frzAll, srcI, srcVars, srcOk, Option.toList, Option.isSome_none, Option.isSome_some, eqE_int, eq_self, evSs, evS, evE, evEs, evO, evC, evI, bindB_nm, bindB_tp, bindBs_nil, bindBs_cons, bindE_nm, bindE_tp, bindEs_nil, bindEs_cons, wipeE, view, Bd.v, truE, cmpE, gtV, ltV, leV, geV, ltE, isV, isntV, neV, ninV, isNon, biE, intE, lenE, absE, minE, maxE, sumE, tupleE, listE, allE, anyE, itemsOf, binE, modE, fdivE, mulE, addE, subE, negE, powE, asH, asI, asHs, ixE, slE, ownL, putE, fr, asVar, isiE, Turned, List.set_cons_succ, List.set_cons_zero, List.map_cons, List.map_nil, List.getElem?_cons_succ, List.getElem?_cons_zero, Option.map_some, Option.join_some, bind, Option.bind_some, ok_bind, ok_some, ok_map, if_true, if_false, ite_true, ite_false, Bool.and_true, Bool.true_and, Bool.and_false, Bool.false_and, decide_true, decide_false, Bool.false_eq_true, not_true_eq_false, not_false_eq_true, Bool.not_true, Bool.not_false, Bool.or_true, Bool.true_or, Bool.or_false, Bool.false_or, List.length_nil, List.length_cons, Nat.zero_add, Int.zero_add, true_and, and_true, and_self, false_and, and_false, or_true, true_or, or_false, false_or, not_true, not_false_iff, decide_eq_true_eq, Bool.not_eq_true, ne_eq, reduceCtorEq]
    exact ⟨ds, by omega, hd, rfl⟩
end Ev
namespace Ev
open PySem L2
def isIntB : Ss := .cons (.ret (.and (.isi (.var 0) .int) (.not (.isi (.var 0) .bool))))
  .nil
def isElt (s : Nat) : E := .call s (.cons (.ix (.var 0) (.var 2)) (.cons (.ix (.var 1) (.var 2)) .nil))
def isB (n s : Nat) : Ss := .cons (.ife (.cmp .Is (.var 1) (.con .non)) (.cons (.ret (.cmp .Is (.var 0) (.con .non)))
  .nil) .nil)
  (.cons (.ife (.isi (.var 1) .bool) (.cons (.ret (.and (.isi (.var 0) .bool) (.cmp .Eq (.var 0) (.var 1))))
  .nil) .nil)
  (.cons (.ife (.isi (.var 1) .int) (.cons (.ret (.and (.call n (.cons (.var 0) .nil)) (.cmp .Eq (.var 0) (.var 1))))
  .nil) .nil)
  (.cons (.ife (.isi (.var 1) .str) (.cons (.ret (.and (.isi (.var 0) .str) (.cmp .Eq (.var 0) (.var 1))))
  .nil) .nil)
  (.cons (.ife (.or (.not (.isi (.var 0) .tuple)) (.cmp .NotEq (.bi .len (.cons (.var 0) .nil)) (.bi .len (.cons (.var 1) .nil)))) (.cons (.ret (.con (.bl false)))
  .nil) .nil)
  (.cons (.ret (.bi .all (.cons (.comp (isElt s) (.nm 2) (.rng1 (.bi .len (.cons (.var 1) .nil))) .no [2]) .nil)))
  .nil)))))
theorem run_isInt {cf : Nat → List Vl → Option Vl} {wf : Nat} (i : Int) : runB cf wf ⟨1, 1, isIntB⟩ [.h (.int i)] = some (.h (.bl true)) := by
  rfl
mutual
/-- fit for is(value, due): no text too wild, no tuple too long -/
def fitD : Dt → Bool
  | .non | .bl _ | .int _ => true
  | .str x => x.all (· < 0x110000)
  | .tup xs => decide (xs.length ≤ 1000000) && fitDs xs
def fitDs : List Dt → Bool
  | [] => true
  | x :: xs => fitD x && fitDs xs
end
theorem fitDs_mem : ∀ {xs : List Dt} {x : Dt}, fitDs xs = true → x ∈ xs → fitD x = true
  | y :: ys, x, h, hx => by
    simp -implicitDefEqProofs only [fitDs, Bool.and_eq_true] at h
    rcases List.mem_cons.mp hx with rfl | hx
    · exact h.1
    · exact fitDs_mem h.2 hx
theorem deps_mem : ∀ {xs : List Dt} {x : Dt}, x ∈ xs → dep x ≤ deps xs
  | y :: ys, x, hx => by
    simp -implicitDefEqProofs only [deps]
    rcases List.mem_cons.mp hx with rfl | hx
    · omega
    · have := deps_mem hx
      omega
theorem ok_one {α : Type} {a b : α} {o : Option α} (h : o = some a) (e : a = b) : o = some b := by rw [h, e]
theorem repl_eq {α : Type} (a : α) : ∀ n : Nat, (List.range n).map (fun _ => a) = List.replicate n a
  | 0 => rfl
  | n + 1 => by rw [List.range_succ, List.map_append, repl_eq a n, List.replicate_succ']; rfl
theorem asBools_repl (b : Bool) : ∀ n : Nat, asBools (List.replicate n (.bl b)) = some (List.replicate n b)
  | 0 => rfl
  | n + 1 => by simp [List.replicate_succ, asBools, asBools_repl b n]
theorem all_repl : ∀ n : Nat, (List.replicate n true).all id = true
  | 0 => rfl
  | n + 1 => by simp [List.replicate_succ]
section
variable {fns : List Fn} {wf n s : Nat}
theorem run_is (hn : fns[n]? = some ⟨1, 1, isIntB⟩) (hs : fns[s]? = some ⟨2, 3, isB n s⟩) : ∀ (m : Nat) (d : Dt) (k : Nat), dep d ≤ m → fitD d = true → dep d + 2 ≤ k → evF fns wf k s [.h d, .h d] = some (.h (.bl true)) := by
  intro m
  induction m with
  | zero =>
    intro d k h0 hf hk
    obtain ⟨k, rfl⟩ : ∃ k', k = k' + 1 + 1 := ⟨k - 2, by omega⟩
    rw [evF_at hs rfl]
    have hi : ∀ i : Int, evF fns wf (k + 1) n [.h (.int i)] = some (.h (.bl true)) := fun i => by rw [evF_at hn rfl]; exact run_isInt i
    have hst : ∀ d : Dt, startE 3 [.h d, .h d] = [some (.im (.h d)), some (.im (.h d)), none] := fun d => rfl
    rw [← ok_eq]
    cases d with
    | non => simp -implicitDefEqProofs only [runB, hst, isB, eqE_bl, bbeq_tf, bbeq_ft, beq_self_eq_true, frz, frzAll, srcI, srcVars, srcOk, Option.toList, Option.isSome_none, Option.isSome_some, eqE_int, eq_self, evSs, evS, evE, evEs, evO, evC, evI, bindB_nm, bindB_tp, bindBs_nil, bindBs_cons, bindE_nm, bindE_tp, bindEs_nil, bindEs_cons, wipeE, view, Bd.v, truE, cmpE, gtV, ltV, leV, geV, ltE, isV, isntV, neV, ninV, isNon, biE, intE, lenE, absE, minE, maxE, sumE, tupleE, listE, allE, anyE, itemsOf, binE, modE, fdivE, mulE, addE, subE, negE, powE, asH, asI, asHs, ixE, slE, ownL, putE, fr, asVar, isiE, Turned, List.set_cons_succ, List.set_cons_zero, List.map_cons, List.map_nil, List.getElem?_cons_succ, List.getElem?_cons_zero, Option.map_some, Option.join_some, bind, Option.bind_some, ok_bind, ok_some, ok_map, if_true, if_false, ite_true, ite_false, Bool.and_true, Bool.true_and, Bool.and_false, Bool.false_and, decide_true, decide_false, Bool.false_eq_true, not_true_eq_false, not_false_eq_true, Bool.not_true, Bool.not_false, Bool.or_true, Bool.true_or, Bool.or_false, Bool.false_or, List.length_nil, List.length_cons, Nat.zero_add, Int.zero_add, true_and, and_true, and_self, false_and, and_false, or_true, true_or, or_false, false_or, not_true, not_false_iff, decide_eq_true_eq, Bool.not_eq_true, ne_eq, reduceCtorEq]
    | bl b => simp -implicitDefEqProofs only [runB, hst, isB, eqE_bl, bbeq_tf, bbeq_ft, beq_self_eq_true, frz, frzAll, srcI, srcVars, srcOk, Option.toList, Option.isSome_none, Option.isSome_some, eqE_int, eq_self, evSs, evS, evE, evEs, evO, evC, evI, bindB_nm, bindB_tp, bindBs_nil, bindBs_cons, bindE_nm, bindE_tp, bindEs_nil, bindEs_cons, wipeE, view, Bd.v, truE, cmpE, gtV, ltV, leV, geV, ltE, isV, isntV, neV, ninV, isNon, biE, intE, lenE, absE, minE, maxE, sumE, tupleE, listE, allE, anyE, itemsOf, binE, modE, fdivE, mulE, addE, subE, negE, powE, asH, asI, asHs, ixE, slE, ownL, putE, fr, asVar, isiE, Turned, List.set_cons_succ, List.set_cons_zero, List.map_cons, List.map_nil, List.getElem?_cons_succ, List.getElem?_cons_zero, Option.map_some, Option.join_some, bind, Option.bind_some, ok_bind, ok_some, ok_map, if_true, if_false, ite_true, ite_false, Bool.and_true, Bool.true_and, Bool.and_false, Bool.false_and, decide_true, decide_false, Bool.false_eq_true, not_true_eq_false, not_false_eq_true, Bool.not_true, Bool.not_false, Bool.or_true, Bool.true_or, Bool.or_false, Bool.false_or, List.length_nil, List.length_cons, Nat.zero_add, Int.zero_add, true_and, and_true, and_self, false_and, and_false, or_true, true_or, or_false, false_or, not_true, not_false_iff, decide_eq_true_eq, Bool.not_eq_true, ne_eq, reduceCtorEq, eqE, shp, okD, dep, eqD, Nat.zero_le, beq_self_eq_true]
    | int i => simp -implicitDefEqProofs only [runB, hst, isB, eqE_bl, bbeq_tf, bbeq_ft, beq_self_eq_true, frz, frzAll, srcI, srcVars, srcOk, Option.toList, Option.isSome_none, Option.isSome_some, eqE_int, eq_self, evSs, evS, evE, evEs, evO, evC, evI, bindB_nm, bindB_tp, bindBs_nil, bindBs_cons, bindE_nm, bindE_tp, bindEs_nil, bindEs_cons, wipeE, view, Bd.v, truE, cmpE, gtV, ltV, leV, geV, ltE, isV, isntV, neV, ninV, isNon, biE, intE, lenE, absE, minE, maxE, sumE, tupleE, listE, allE, anyE, itemsOf, binE, modE, fdivE, mulE, addE, subE, negE, powE, asH, asI, asHs, ixE, slE, ownL, putE, fr, asVar, isiE, Turned, List.set_cons_succ, List.set_cons_zero, List.map_cons, List.map_nil, List.getElem?_cons_succ, List.getElem?_cons_zero, Option.map_some, Option.join_some, bind, Option.bind_some, ok_bind, ok_some, ok_map, if_true, if_false, ite_true, ite_false, Bool.and_true, Bool.true_and, Bool.and_false, Bool.false_and, decide_true, decide_false, Bool.false_eq_true, not_true_eq_false, not_false_eq_true, Bool.not_true, Bool.not_false, Bool.or_true, Bool.true_or, Bool.or_false, Bool.false_or, List.length_nil, List.length_cons, Nat.zero_add, Int.zero_add, true_and, and_true, and_self, false_and, and_false, or_true, true_or, or_false, false_or, not_true, not_false_iff, decide_eq_true_eq, Bool.not_eq_true, ne_eq, reduceCtorEq, hi, eqE, shp, okD, dep, eqD, Nat.zero_le]
    | str x =>
      simp -implicitDefEqProofs only [fitD] at hf
      simp -implicitDefEqProofs only [runB, hst, isB, eqE_bl, bbeq_tf, bbeq_ft, beq_self_eq_true, frz, frzAll, srcI, srcVars, srcOk, Option.toList, Option.isSome_none, Option.isSome_some, eqE_int, eq_self, evSs, evS, evE, evEs, evO, evC, evI, bindB_nm, bindB_tp, bindBs_nil, bindBs_cons, bindE_nm, bindE_tp, bindEs_nil, bindEs_cons, wipeE, view, Bd.v, truE, cmpE, gtV, ltV, leV, geV, ltE, isV, isntV, neV, ninV, isNon, biE, intE, lenE, absE, minE, maxE, sumE, tupleE, listE, allE, anyE, itemsOf, binE, modE, fdivE, mulE, addE, subE, negE, powE, asH, asI, asHs, ixE, slE, ownL, putE, fr, asVar, isiE, Turned, List.set_cons_succ, List.set_cons_zero, List.map_cons, List.map_nil, List.getElem?_cons_succ, List.getElem?_cons_zero, Option.map_some, Option.join_some, bind, Option.bind_some, ok_bind, ok_some, ok_map, if_true, if_false, ite_true, ite_false, Bool.and_true, Bool.true_and, Bool.and_false, Bool.false_and, decide_true, decide_false, Bool.false_eq_true, not_true_eq_false, not_false_eq_true, Bool.not_true, Bool.not_false, Bool.or_true, Bool.true_or, Bool.or_false, Bool.false_or, List.length_nil, List.length_cons, Nat.zero_add, Int.zero_add, true_and, and_true, and_self, false_and, and_false, or_true, true_or, or_false, false_or, not_true, not_false_iff, decide_eq_true_eq, Bool.not_eq_true, ne_eq, reduceCtorEq, eqE, shp, okD, dep, eqD, Nat.zero_le, hf]
    | tup xs => simp [dep] at h0
  | succ m ih =>
    intro d k h0 hf hk
    cases d with
    | tup xs =>
      obtain ⟨k, rfl⟩ : ∃ k', k = k' + 1 := ⟨k - 1, by omega⟩
      rw [evF_at hs rfl]
      have hst : startE 3 [.h (.tup xs), .h (.tup xs)] = [some (.im (.h (.tup xs))), some (.im (.h (.tup xs))), none] := rfl
      simp -implicitDefEqProofs only [fitD, Bool.and_eq_true, decide_eq_true_eq] at hf
      have hsm : small62 (xs.length : Int) = true := small62_nat (by omega)
      have hc : ∀ i : Nat, i < xs.length → evF fns wf k s [.h (xs[i]?.getD .non), .h (xs[i]?.getD .non)] = some (.h (.bl true)) := fun i hi => by
        have e : xs[i]?.getD .non = xs[i] := by rw [List.getElem?_eq_getElem hi]; rfl
        have hm : xs[i] ∈ xs := List.getElem_mem hi
        have hd := deps_mem hm
        simp -implicitDefEqProofs only [dep] at h0 hk
        rw [e]
        exact ih xs[i] k (by omega) (fitDs_mem hf.2 hm) (by omega)
      have h5 : ((xs.length : Int) - 0).toNat < sizeLine := lt_line (by omega)
      rw [← ok_eq]
      simp -implicitDefEqProofs only [isB, runB, hst, eqE_bl, bbeq_tf, bbeq_ft, beq_self_eq_true, frz, frzAll, srcI, srcVars, srcOk, Option.toList, Option.isSome_none, Option.isSome_some, eqE_int, eq_self, evSs, evS, evE, evEs, evO, evC, evI, bindB_nm, bindB_tp, bindBs_nil, bindBs_cons, bindE_nm, bindE_tp, bindEs_nil, bindEs_cons, wipeE, view, Bd.v, truE, cmpE, gtV, ltV, leV, geV, ltE, isV, isntV, neV, ninV, isNon, biE, intE, lenE, absE, minE, maxE, sumE, tupleE, listE, allE, anyE, itemsOf, binE, modE, fdivE, mulE, addE, subE, negE, powE, asH, asI, asHs, ixE, slE, ownL, putE, fr, asVar, isiE, Turned, List.set_cons_succ, List.set_cons_zero, List.map_cons, List.map_nil, List.getElem?_cons_succ, List.getElem?_cons_zero, Option.map_some, Option.join_some, bind, Option.bind_some, ok_bind, ok_some, ok_map, if_true, if_false, ite_true, ite_false, Bool.and_true, Bool.true_and, Bool.and_false, Bool.false_and, decide_true, decide_false, Bool.false_eq_true, not_true_eq_false, not_false_eq_true, Bool.not_true, Bool.not_false, Bool.or_true, Bool.true_or, Bool.or_false, Bool.false_or, List.length_nil, List.length_cons, Nat.zero_add, Int.zero_add, true_and, and_true, and_self, false_and, and_false, or_true, true_or, or_false, false_or, not_true, not_false_iff, decide_eq_true_eq, Bool.not_eq_true, ne_eq, reduceCtorEq, hsm]
      refine ok_of (compL_rng0 (fun _ => .bl true) xs.length fun i hi => ?_) ?_
      · have e := atI_nat' hi
        have h1 := hc i hi
        rw [List.getElem?_eq_getElem hi] at e h1
        simp -implicitDefEqProofs only [Option.getD_some] at h1
        rw [← ok_eq]
        simp -implicitDefEqProofs only [isElt, eqE_bl, bbeq_tf, bbeq_ft, beq_self_eq_true, frz, frzAll, srcI, srcVars, srcOk, Option.toList, Option.isSome_none, Option.isSome_some, eqE_int, eq_self, evSs, evS, evE, evEs, evO, evC, evI, bindB_nm, bindB_tp, bindBs_nil, bindBs_cons, bindE_nm, bindE_tp, bindEs_nil, bindEs_cons, wipeE, view, Bd.v, truE, cmpE, gtV, ltV, leV, geV, ltE, isV, isntV, neV, ninV, isNon, biE, intE, lenE, absE, minE, maxE, sumE, tupleE, listE, allE, anyE, itemsOf, binE, modE, fdivE, mulE, addE, subE, negE, powE, asH, asI, asHs, ixE, slE, ownL, putE, fr, asVar, isiE, Turned, List.set_cons_succ, List.set_cons_zero, List.map_cons, List.map_nil, List.getElem?_cons_succ, List.getElem?_cons_zero, Option.map_some, Option.join_some, bind, Option.bind_some, ok_bind, ok_some, ok_map, if_true, if_false, ite_true, ite_false, Bool.and_true, Bool.true_and, Bool.and_false, Bool.false_and, decide_true, decide_false, Bool.false_eq_true, not_true_eq_false, not_false_eq_true, Bool.not_true, Bool.not_false, Bool.or_true, Bool.true_or, Bool.or_false, Bool.false_or, List.length_nil, List.length_cons, Nat.zero_add, Int.zero_add, true_and, and_true, and_self, false_and, and_false, or_true, true_or, or_false, false_or, not_true, not_false_iff, decide_eq_true_eq, Bool.not_eq_true, ne_eq, reduceCtorEq, e, h1]
      · simp -implicitDefEqProofs only [eqE_bl, bbeq_tf, bbeq_ft, beq_self_eq_true, frz, frzAll, srcI, srcVars, srcOk, Option.toList, Option.isSome_none, Option.isSome_some, eqE_int, eq_self, evSs, evS, evE, evEs, evO, evC, evI, bindB_nm, bindB_tp, bindBs_nil, bindBs_cons, bindE_nm, bindE_tp, bindEs_nil, bindEs_cons, wipeE, view, Bd.v, truE, cmpE, gtV, ltV, leV, geV, ltE, isV, isntV, neV, ninV, isNon, biE, intE, lenE, absE, minE, maxE, sumE, tupleE, listE, allE, anyE, itemsOf, binE, modE, fdivE, mulE, addE, subE, negE, powE, asH, asI, asHs, ixE, slE, ownL, putE, fr, asVar, isiE, Turned, List.set_cons_succ, List.set_cons_zero, List.map_cons, List.map_nil, List.getElem?_cons_succ, List.getElem?_cons_zero, Option.map_some, Option.join_some, bind, Option.bind_some, ok_bind, ok_some, ok_map, if_true, if_false, ite_true, ite_false, Bool.and_true, Bool.true_and, Bool.and_false, Bool.false_and, decide_true, decide_false, Bool.false_eq_true, not_true_eq_false, not_false_eq_true, Bool.not_true, Bool.not_false, Bool.or_true, Bool.true_or, Bool.or_false, Bool.false_or, List.length_nil, List.length_cons, Nat.zero_add, Int.zero_add, true_and, and_true, and_self, false_and, and_false, or_true, true_or, or_false, false_or, not_true, not_false_iff, decide_eq_true_eq, Bool.not_eq_true, ne_eq, reduceCtorEq, rngD_len', h5, repl_eq, asBools_repl, all_repl]
    | _ => exact ih _ k (by simp [dep]) hf hk
end
end Ev
namespace Ev
open PySem L2
def tl (n : Nat) (f : Nat → Int) : List Dt := (List.range n).map fun i => .int (f i)
def tf (n : Nat) (f : Nat → Int) : Dt := .tup (tl n f)
def bl (h w : Nat) (F : Nat → Nat → Int) : List Dt := (List.range h).map fun i => tf w (F i)
def bf (h w : Nat) (F : Nat → Nat → Int) : Dt := .tup (bl h w F)
def sumR : Nat → (Nat → Int) → Int
  | 0, _ => 0
  | n + 1, f => sumR n f + f n
theorem tl_len (n : Nat) (f : Nat → Int) : (tl n f).length = n := by unfold tl; rw [List.length_map, List.length_range]
theorem bl_len (h w : Nat) (F : Nat → Nat → Int) : (bl h w F).length = h := by unfold bl; rw [List.length_map, List.length_range]
theorem atI_fn {α : Type} {n i : Nat} (g : Nat → α) (h : i < n) : atI ((List.range n).map g) (i : Nat) = some (g i) := by
  rw [atI_nat' (by simpa using h), List.getElem?_map, List.getElem?_range h]
  rfl
theorem atI_tl {n i : Nat} {f : Nat → Int} (h : i < n) : atI (tl n f) (i : Nat) = some (.int (f i)) := atI_fn _ h
theorem atI_bl {n w i : Nat} {F : Nat → Nat → Int} (h : i < n) : atI (bl n w F) (i : Nat) = some (tf w (F i)) := atI_fn _ h
theorem atI_tlI {n : Nat} {i : Int} {f : Nat → Int} (h0 : 0 ≤ i) (h : i < n) : atI (tl n f) i = some (.int (f i.toNat)) := by
  have := atI_tl (n := n) (i := i.toNat) (f := f) (by omega)
  rw [Int.toNat_of_nonneg h0] at this
  exact this
theorem atI_tl_last {n : Nat} {f : Nat → Int} : atI (tl (n + 1) f) (-1) = some (.int (f n)) := by
  unfold atI ixN
  rw [tl_len, if_neg (by omega), if_pos (by omega)]
  simp -implicitDefEqProofs only [Option.bind_some]
  rw [show ((-1 : Int) + ((n + 1 : Nat) : Int)).toNat = n by omega]
  unfold tl
  rw [List.getElem?_map, List.getElem?_range (by omega)]
  rfl
theorem asInts_tl (n : Nat) (f : Nat → Int) : asInts (tl n f) = some ((List.range n).map f) := by
  have : tl n f = ((List.range n).map f).map .int := by unfold tl; rw [List.map_map]; rfl
  rw [this, asInts_map]
theorem sum_range (f : Nat → Int) : ∀ n : Nat, ((List.range n).map f).sum = sumR n f
  | 0 => rfl
  | n + 1 => by
    rw [List.range_succ, List.map_append, List.sum_append, sum_range f n]
    simp [sumR]
theorem tl_succ (n : Nat) (f : Nat → Int) : tl (n + 1) f = tl n f ++ [.int (f n)] := by
  unfold tl
  rw [List.range_succ, List.map_append]
  rfl
theorem bl_succ (n w : Nat) (F : Nat → Nat → Int) : bl (n + 1) w F = bl n w F ++ [tf w (F n)] := by
  unfold bl
  rw [List.range_succ, List.map_append]
  rfl
theorem fn_congr {α : Type} {n : Nat} {f g : Nat → α} (h : ∀ i, i < n → f i = g i) : (List.range n).map f = (List.range n).map g :=
  List.map_congr_left fun i hi => h i (List.mem_range.mp hi)
theorem tf_congr {n : Nat} {f g : Nat → Int} (h : ∀ i, i < n → f i = g i) : tf n f = tf n g := by
  unfold tf tl
  rw [fn_congr fun i hi => by rw [h i hi]]
theorem bf_congr {h w : Nat} {F G : Nat → Nat → Int} (e : ∀ i j, i < h → j < w → F i j = G i j) : bf h w F = bf h w G := by
  unfold bf bl
  rw [fn_congr fun i hi => tf_congr fun j hj => e i j hi hj]
theorem sumR_congr {f g : Nat → Int} : ∀ {n : Nat}, (∀ i, i < n → f i = g i) → sumR n f = sumR n g
  | 0, _ => rfl
  | n + 1, h => by simp -implicitDefEqProofs only [sumR]; rw [sumR_congr fun i hi => h i (by omega), h n (by omega)]
theorem sumR_add (f g : Nat → Int) : ∀ n : Nat, sumR n (fun i => f i + g i) = sumR n f + sumR n g
  | 0 => rfl
  | n + 1 => by simp -implicitDefEqProofs only [sumR]; rw [sumR_add f g n]; omega
theorem sumR_zero : ∀ n : Nat, sumR n (fun _ => 0) = 0
  | 0 => rfl
  | n + 1 => by simp -implicitDefEqProofs only [sumR]; rw [sumR_zero n]; rfl
theorem sumR_mul (c : Int) (f : Nat → Int) : ∀ n : Nat, sumR n (fun i => c * f i) = c * sumR n f
  | 0 => by simp [sumR]
  | n + 1 => by simp -implicitDefEqProofs only [sumR]; rw [sumR_mul c f n, Int.mul_add]
/-- a slice of a told tuple -/
theorem cut_fn {α : Type} (g : Nat → α) (n lo hi : Nat) (h : hi ≤ n) : (((List.range n).map g).drop lo).take (hi - lo) = (List.range (hi - lo)).map fun i => g (lo + i) := by
  apply List.ext_getElem?
  intro i
  rw [List.getElem?_take, List.getElem?_map]
  by_cases hi2 : i < hi - lo
  · rw [if_pos hi2, List.getElem?_drop, List.getElem?_map, List.getElem?_range hi2, List.getElem?_range (by omega)]
    rfl
  · rw [if_neg hi2, List.getElem?_eq_none (by rw [List.length_range]; omega)]
    rfl
/-- == of told tuples -/
theorem eqDs_fn {f g : Nat → Dt} : ∀ (n a : Nat), eqDs ((List.range' a n).map f) ((List.range' a n).map g) = (List.range' a n).all fun i => eqD (f i) (g i)
  | 0, _ => rfl
  | n + 1, a => by
    rw [List.range'_succ, List.map_cons, List.map_cons, List.all_cons]
    simp -implicitDefEqProofs only [eqDs]
    rw [eqDs_fn n (a + 1)]
theorem eqD_tf {n : Nat} {f g : Nat → Int} : eqD (tf n f) (tf n g) = decide (∀ i, i < n → f i = g i) := by
  unfold tf tl
  simp -implicitDefEqProofs only [eqD]
  rw [List.range_eq_range', eqDs_fn]
  simp -implicitDefEqProofs only [eqD]
  rw [Bool.eq_iff_iff]
  simp
theorem eqD_bf {h w : Nat} {F G : Nat → Nat → Int} : eqD (bf h w F) (bf h w G) = decide (∀ i, i < h → ∀ j, j < w → F i j = G i j) := by
  unfold bf bl
  simp -implicitDefEqProofs only [eqD]
  rw [List.range_eq_range', eqDs_fn]
  simp -implicitDefEqProofs only [eqD_tf]
  rw [Bool.eq_iff_iff]
  simp
theorem okDs_fn {f : Nat → Dt} (h : ∀ i, okD (f i) = true) : ∀ l : List Nat, okDs (l.map f) = true
  | [] => rfl
  | i :: l => by simp -implicitDefEqProofs only [List.map_cons, okDs, h i, okDs_fn h l, Bool.and_self]
theorem deps_fn {f : Nat → Dt} {m : Nat} (h : ∀ i, dep (f i) ≤ m) : ∀ l : List Nat, deps (l.map f) ≤ m
  | [] => Nat.zero_le _
  | i :: l => by
    simp -implicitDefEqProofs only [List.map_cons, deps]
    have := h i
    have := deps_fn h l
    omega
theorem dep_tf {n : Nat} {f : Nat → Int} : dep (tf n f) ≤ 1 := by
  unfold tf tl
  simp -implicitDefEqProofs only [dep]
  have := deps_fn (f := fun i => Dt.int (f i)) (m := 0) (fun i => by simp [dep]) (List.range n)
  omega
theorem dep_bf {h w : Nat} {F : Nat → Nat → Int} : dep (bf h w F) ≤ 2 := by
  unfold bf bl
  simp -implicitDefEqProofs only [dep]
  have := deps_fn (f := fun i => tf w (F i)) (m := 1) (fun i => dep_tf) (List.range h)
  omega
theorem okD_tf {n : Nat} {f : Nat → Int} : okD (tf n f) = true := by
  unfold tf tl
  simp -implicitDefEqProofs only [okD]
  exact okDs_fn (fun i => by simp [okD]) _
theorem okD_bf {h w : Nat} {F : Nat → Nat → Int} : okD (bf h w F) = true := by
  unfold bf bl
  simp -implicitDefEqProofs only [okD]
  exact okDs_fn (fun i => okD_tf) _
theorem shp_tf {n : Nat} {f : Nat → Int} : shp (tf n f) = true := by
  have := dep_tf (n := n) (f := f)
  unfold shp
  rw [okD_tf]
  simp
  omega
theorem shp_bf {h w : Nat} {F : Nat → Nat → Int} : shp (bf h w F) = true := by
  have := dep_bf (h := h) (w := w) (F := F)
  unfold shp
  rw [okD_bf]
  simp
  omega
theorem eqE_tf {n : Nat} {f g : Nat → Int} : eqE (.h (tf n f)) (.h (tf n g)) = some (decide (∀ i, i < n → f i = g i)) := by
  simp -implicitDefEqProofs only [eqE, shp_tf, Bool.and_self, if_true, eqD_tf]
theorem eqE_bf {h w : Nat} {F G : Nat → Nat → Int} : eqE (.h (bf h w F)) (.h (bf h w G)) = some (decide (∀ i, i < h → ∀ j, j < w → F i j = G i j)) := by
  simp -implicitDefEqProofs only [eqE, shp_bf, Bool.and_self, if_true, eqD_bf]
theorem fitDs_fn {f : Nat → Dt} (h : ∀ i, fitD (f i) = true) : ∀ l : List Nat, fitDs (l.map f) = true
  | [] => rfl
  | i :: l => by simp -implicitDefEqProofs only [List.map_cons, fitDs, h i, fitDs_fn h l, Bool.and_self]
theorem fit_tf {n : Nat} {f : Nat → Int} (hn : n ≤ 1000000) : fitD (tf n f) = true := by
  unfold tf
  simp -implicitDefEqProofs only [fitD, Bool.and_eq_true, decide_eq_true_eq]
  exact ⟨by rw [tl_len]; exact hn, fitDs_fn (fun i => by simp [fitD]) _⟩
theorem fit_bf {h w : Nat} {F : Nat → Nat → Int} (hh : h ≤ 1000000) (hw : w ≤ 1000000) : fitD (bf h w F) = true := by
  unfold bf
  simp -implicitDefEqProofs only [fitD, Bool.and_eq_true, decide_eq_true_eq]
  exact ⟨by rw [bl_len]; exact hh, fitDs_fn (fun i => fit_tf hw) _⟩
/-- over a told tuple -/
theorem compL_fn {f : Dt → Option (Option Dt)} {n : Nat} {e : Nat → Dt} (g : Nat → Dt) (h : ∀ i, i < n → f (e i) = some (some (g i))) : compL f ((List.range n).map e) = some ((List.range n).map g) :=
  compL_mapf e g (List.range n) fun i hi => h i (List.mem_range.mp hi)
end Ev
namespace Lk85
open Ev
/-- 0: near_sums(items); slots 0:items 1:at -/
def b1_C0 : E := .bi .sum (.cons (.sl (.var 0) (.yes (.bi .max (.cons (.con (.int 0)) (.cons (.bin .Sub (.var 1) (.con (.int 1))) .nil)))) (.yes (.bin .Add (.var 1) (.con (.int 2))))) .nil)
def b1 : Ss := .cons (.ret (.bi .tuple (.cons (.comp b1_C0 (.nm 1) (.rng1 (.bi .len (.cons (.var 0) .nil))) .no [1]) .nil))) .nil
/-- 1: ghost_of(n); slots 0:n 1:at -/
def b2_I0 : Ss := .cons (.ret (.con .non)) .nil
def b2_C0 : E := .ix (.tup (.cons (.con (.int 1)) (.cons (.neg (.con (.int 1))) (.cons (.con (.int 0)) .nil)))) (.bin .Mod (.var 1) (.con (.int 3)))
def b2_T0 : Ss := .cons (.ret (.bi .tuple (.cons (.comp b2_C0 (.nm 1) (.rng1 (.var 0)) .no [1]) .nil))) .nil
def b2 : Ss := .cons (.ife (.cmp .NotEq (.bin .Mod (.var 0) (.con (.int 3))) (.con (.int 2))) b2_I0 .nil) b2_T0
/-- 2: imbalance_of(items); slots 0:items 1:ghost 2:item 3:sign -/
def b3_I0 : Ss := .cons (.ret (.con (.int 0))) .nil
def b3_C0 : E := .bin .Mult (.var 2) (.var 3)
def b3_T0 : Ss := .cons (.ret (.bi .sum (.cons (.comp b3_C0 (.tp [(.nm 2), (.nm 3)]) (.zip (.var 0) (.var 1)) .no [2, 3]) .nil))) .nil
def b3_T1 : Ss := .cons (.ife (.cmp .Is (.var 1) (.con .non)) b3_I0 .nil) b3_T0
def b3 : Ss := .cons (.set (.nm 1) (.call 1 (.cons (.bi .len (.cons (.var 0) .nil)) .nil))) b3_T1
/-- 3: items_behind(sums, first); slots 0:sums 1:first 2:items 3:at -/
def b4_L0 : Ss := .cons (.app 2 (.bin .Sub (.bin .Sub (.ix (.var 0) (.var 3)) (.ix (.var 2) (.var 3))) (.ix (.var 2) (.bin .Sub (.var 3) (.con (.int 1)))))) .nil
def b4_T0 : Ss := .cons (.ret (.var 2)) .nil
def b4_T1 : Ss := .cons (.loop (.nm 3) (.rng2 (.con (.int 1)) (.bi .len (.cons (.var 0) .nil))) b4_L0) b4_T0
def b4 : Ss := .cons (.set (.nm 2) (.lst (.cons (.var 1) (.cons (.bin .Sub (.ix (.var 0) (.con (.int 0))) (.var 1)) .nil)))) b4_T1
/-- 4: told_from_sums(sums); slots 0:sums 1:first 2:left -/
def b5_I0 : Ss := .cons (.ret (.con .non)) .nil
def b5_I1 : Ss := .cons (.set (.nm 1) (.bin .Mult (.var 2) (.bin .Sub (.ix (.call 3 (.cons (.var 0) (.cons (.con (.int 0)) .nil))) (.neg (.con (.int 1)))) (.ix (.call 3 (.cons (.var 0) (.cons (.con (.int 1)) .nil))) (.neg (.con (.int 1))))))) .nil
def b5_T0 : Ss := .cons (.ret (.bi .tuple (.cons (.sl (.call 3 (.cons (.var 0) (.cons (.var 1) .nil))) .no (.yes (.neg (.con (.int 1))))) .nil))) .nil
def b5_T1 : Ss := .cons (.ife (.cmp .NotEq (.var 2) (.con (.int 0))) b5_I1 .nil) b5_T0
def b5_T2 : Ss := .cons (.set (.nm 2) (.ix (.call 3 (.cons (.var 0) (.cons (.con (.int 0)) .nil))) (.neg (.con (.int 1))))) b5_T1
def b5_T3 : Ss := .cons (.set (.nm 1) (.con (.int 0))) b5_T2
def b5 : Ss := .cons (.ife (.cmp .NotEq (.call 2 (.cons (.var 0) .nil)) (.con (.int 0))) b5_I0 .nil) b5_T3
/-- 5: sideways(board); slots 0:board 1:j 2:line -/
def b6_C0 : E := .ix (.var 2) (.var 1)
def b6_C1 : E := .bi .tuple (.cons (.comp b6_C0 (.nm 2) (.seq (.var 0)) .no [2]) .nil)
def b6 : Ss := .cons (.ret (.bi .tuple (.cons (.comp b6_C1 (.nm 1) (.rng1 (.bi .len (.cons (.ix (.var 0) (.con (.int 0))) .nil))) .no [1]) .nil))) .nil
/-- 6: board_near_sums(board); slots 0:board 1:wide 2:line -/
def b7_C0 : E := .call 0 (.cons (.var 2) .nil)
def b7_C1 : E := .call 0 (.cons (.var 2) .nil)
def b7_T0 : Ss := .cons (.ret (.call 5 (.cons (.bi .tuple (.cons (.comp b7_C1 (.nm 2) (.seq (.call 5 (.cons (.var 1) .nil))) .no [2]) .nil)) .nil))) .nil
def b7 : Ss := .cons (.set (.nm 1) (.bi .tuple (.cons (.comp b7_C0 (.nm 2) (.seq (.var 0)) .no [2]) .nil))) b7_T0
/-- 7: told_tilt(board); slots 0:board 1:side 2:lines 3:place 4:line -/
def b8_I0 : Ss := .cons (.ret (.tup (.cons (.var 1) (.cons (.var 3) .nil)))) .nil
def b8_L0 : Ss := .cons (.ife (.cmp .NotEq (.call 2 (.cons (.var 4) .nil)) (.con (.int 0))) b8_I0 .nil) .nil
def b8_L1 : Ss := .cons (.loop (.tp [(.nm 3), (.nm 4)]) (.enum (.var 2)) b8_L0) .nil
def b8_T0 : Ss := .cons (.ret (.con .non)) .nil
def b8 : Ss := .cons (.loop (.tp [(.nm 1), (.nm 2)]) (.enum (.tup (.cons (.var 0) (.cons (.call 5 (.cons (.var 0) .nil)) .nil)))) b8_L1) b8_T0
/-- 8: told_board(board); slots 0:board 1:wide 2:line -/
def b9_I0 : Ss := .cons (.ret (.con .non)) .nil
def b9_C0 : E := .call 4 (.cons (.var 2) .nil)
def b9_C1 : E := .call 4 (.cons (.var 2) .nil)
def b9_T0 : Ss := .cons (.ret (.call 5 (.cons (.bi .tuple (.cons (.comp b9_C1 (.nm 2) (.seq (.call 5 (.cons (.var 1) .nil))) .no [2]) .nil)) .nil))) .nil
def b9_T1 : Ss := .cons (.set (.nm 1) (.bi .tuple (.cons (.comp b9_C0 (.nm 2) (.seq (.var 0)) .no [2]) .nil))) b9_T0
def b9 : Ss := .cons (.ife (.cmp .IsNot (.call 7 (.cons (.var 0) .nil)) (.con .non)) b9_I0 .nil) b9_T1
/-- 9: _law_cell(script, k); slots 0:script 1:k -/
def b11_I0 : Ss := .cons (.ret (.ix (.var 0) (.var 1))) .nil
def b11_T0 : Ss := .cons (.ret (.bin .Add (.bin .Mult (.con (.int 5)) (.var 1)) (.con (.int 3)))) .nil
def b11 : Ss := .cons (.ife (.cmp .Lt (.var 1) (.bi .len (.cons (.var 0) .nil))) b11_I0 .nil) b11_T0
/-- 10: _law_draws(cell, count); slots 0:cell 1:count 2:rest 3:digits 4:seed 5:draws 6:k 7:mixed -/
def b12_T0 : Ss := .cons (.set (.nm 2) (.bin .FloorDiv (.var 2) (.con (.int 5040)))) .nil
def b12_I0 : Ss := .cons (.app 5 (.bin .Mod (.bi .int (.cons (.var 2) .nil)) (.con (.int 5040)))) b12_T0
def b12_T1 : Ss := .cons (.app 5 (.bin .Mod (.bi .int (.cons (.bin .FloorDiv (.var 7) (.con (.int 64))) .nil)) (.con (.int 5040)))) .nil
def b12_T2 : Ss := .cons (.set (.nm 7) (.bin .Mod (.bi .int (.cons (.bin .Add (.bin .Mult (.var 7) (.var 7)) (.bin .Mult (.con (.int 40692)) (.bin .Add (.var 6) (.con (.int 3))))) .nil)) (.con (.int 2147483399)))) b12_T1
def b12_I1 : Ss := .cons (.set (.nm 7) (.bin .Mod (.bi .int (.cons (.bin .Add (.bin .Add (.bin .Mult (.var 4) (.con (.int 48271))) (.bin .Mult (.bin .Add (.var 6) (.con (.int 1))) (.con (.int 69621)))) (.con (.int 11))) .nil)) (.con (.int 2147483647)))) b12_T2
def b12_L0 : Ss := .cons (.ife (.and (.var 3) (.cmp .Gt (.var 2) (.con (.int 0)))) b12_I0 b12_I1) .nil
def b12_T3 : Ss := .cons (.ret (.var 5)) .nil
def b12_T4 : Ss := .cons (.loop (.nm 6) (.rng1 (.var 1)) b12_L0) b12_T3
def b12_T5 : Ss := .cons (.set (.nm 5) (.lst .nil)) b12_T4
def b12_T6 : Ss := .cons (.set (.nm 4) (.var 2)) b12_T5
def b12_T7 : Ss := .cons (.set (.nm 3) (.cmp .GtE (.var 2) (.bin .Pow (.con (.int 10)) (.con (.int 18))))) b12_T6
def b12 : Ss := .cons (.set (.nm 2) (.bi .abs (.cons (.bi .int (.cons (.var 0) .nil)) .nil))) b12_T7
/-- 11: _law_is_integer(value); slots 0:value -/
def b13 : Ss := .cons (.ret (.and (.isi (.var 0) .int) (.not (.isi (.var 0) .bool)))) .nil
/-- 12: _law_is(value, due); slots 0:value 1:due 2:at -/
def b14_I0 : Ss := .cons (.ret (.cmp .Is (.var 0) (.con .non))) .nil
def b14_I1 : Ss := .cons (.ret (.and (.isi (.var 0) .bool) (.cmp .Eq (.var 0) (.var 1)))) .nil
def b14_I2 : Ss := .cons (.ret (.and (.call 11 (.cons (.var 0) .nil)) (.cmp .Eq (.var 0) (.var 1)))) .nil
def b14_I3 : Ss := .cons (.ret (.and (.isi (.var 0) .str) (.cmp .Eq (.var 0) (.var 1)))) .nil
def b14_I4 : Ss := .cons (.ret (.con (.bl false))) .nil
def b14_C0 : E := .call 12 (.cons (.ix (.var 0) (.var 2)) (.cons (.ix (.var 1) (.var 2)) .nil))
def b14_T0 : Ss := .cons (.ret (.bi .all (.cons (.comp b14_C0 (.nm 2) (.rng1 (.bi .len (.cons (.var 1) .nil))) .no [2]) .nil))) .nil
def b14_T1 : Ss := .cons (.ife (.or (.not (.isi (.var 0) .tuple)) (.cmp .NotEq (.bi .len (.cons (.var 0) .nil)) (.bi .len (.cons (.var 1) .nil)))) b14_I4 .nil) b14_T0
def b14_T2 : Ss := .cons (.ife (.isi (.var 1) .str) b14_I3 .nil) b14_T1
def b14_T3 : Ss := .cons (.ife (.isi (.var 1) .int) b14_I2 .nil) b14_T2
def b14_T4 : Ss := .cons (.ife (.isi (.var 1) .bool) b14_I1 .nil) b14_T3
def b14 : Ss := .cons (.ife (.cmp .Is (.var 1) (.con .non)) b14_I0 .nil) b14_T4
/-- 13: _law_is_integers(value); slots 0:value 1:number -/
def b15_C0 : E := .call 11 (.cons (.var 1) .nil)
def b15 : Ss := .cons (.ret (.and (.isi (.var 0) .tuple) (.bi .all (.cons (.comp b15_C0 (.nm 1) (.seq (.var 0)) .no [1]) .nil)))) .nil
/-- 14: _law_near(items); slots 0:items 1:sums 2:at 3:total -/
def b16_I0 : Ss := .cons (.set (.nm 3) (.bin .Add (.var 3) (.ix (.var 0) (.bin .Sub (.var 2) (.con (.int 1)))))) .nil
def b16_I1 : Ss := .cons (.set (.nm 3) (.bin .Add (.var 3) (.ix (.var 0) (.bin .Add (.var 2) (.con (.int 1)))))) .nil
def b16_T0 : Ss := .cons (.app 1 (.var 3)) .nil
def b16_T1 : Ss := .cons (.ife (.cmp .Lt (.bin .Add (.var 2) (.con (.int 1))) (.bi .len (.cons (.var 0) .nil))) b16_I1 .nil) b16_T0
def b16_T2 : Ss := .cons (.ife (.cmp .Gt (.var 2) (.con (.int 0))) b16_I0 .nil) b16_T1
def b16_L0 : Ss := .cons (.set (.nm 3) (.ix (.var 0) (.var 2))) b16_T2
def b16_T3 : Ss := .cons (.ret (.bi .tuple (.cons (.var 1) .nil))) .nil
def b16_T4 : Ss := .cons (.loop (.nm 2) (.rng1 (.bi .len (.cons (.var 0) .nil))) b16_L0) b16_T3
def b16 : Ss := .cons (.set (.nm 1) (.lst .nil)) b16_T4
/-- 15: _law_ghost(n); slots 0:n 1:ghost 2:turn -/
def b17_L0 : Ss := .cons (.set (.nm 1) (.bin .Add (.var 1) (.tup (.cons (.ix (.tup (.cons (.con (.int 1)) (.cons (.bin .Sub (.con (.int 0)) (.con (.int 1))) (.cons (.con (.int 0)) .nil)))) (.bin .Mod (.bi .int (.cons (.var 2) .nil)) (.con (.int 3)))) .nil)))) .nil
def b17_T0 : Ss := .cons (.ret (.ife (.cmp .Eq (.bin .Mod (.bi .int (.cons (.var 0) .nil)) (.con (.int 3))) (.con (.int 2))) (.var 1) (.con .non))) .nil
def b17_T1 : Ss := .cons (.loop (.nm 2) (.rng1 (.var 0)) b17_L0) b17_T0
def b17 : Ss := .cons (.set (.nm 1) (.tup .nil)) b17_T1
/-- 16: _law_off(items); slots 0:items 1:ghost 2:at -/
def b18_I0 : Ss := .cons (.ret (.con (.int 0))) .nil
def b18_C0 : E := .bin .Mult (.ix (.var 1) (.var 2)) (.ix (.var 0) (.var 2))
def b18_T0 : Ss := .cons (.ret (.bi .sum (.cons (.comp b18_C0 (.nm 2) (.rng1 (.bi .len (.cons (.var 0) .nil))) .no [2]) .nil))) .nil
def b18_T1 : Ss := .cons (.ife (.cmp .Is (.var 1) (.con .non)) b18_I0 .nil) b18_T0
def b18 : Ss := .cons (.set (.nm 1) (.call 15 (.cons (.bi .len (.cons (.var 0) .nil)) .nil))) b18_T1
/-- 17: _law_wide(board); slots 0:board 1:sums 2:i 3:stripe 4:j 5:total 6:k -/
def b19_L0 : Ss := .cons (.set (.nm 5) (.bin .Add (.var 5) (.bi .sum (.cons (.sl (.ix (.var 0) (.var 6)) (.yes (.bi .max (.cons (.con (.int 0)) (.cons (.bin .Sub (.var 4) (.con (.int 1))) .nil)))) (.yes (.bin .Add (.var 4) (.con (.int 2))))) .nil)))) .nil
def b19_T0 : Ss := .cons (.app 3 (.var 5)) .nil
def b19_T1 : Ss := .cons (.loop (.nm 6) (.rng2 (.bi .max (.cons (.con (.int 0)) (.cons (.bin .Sub (.var 2) (.con (.int 1))) .nil))) (.bi .min (.cons (.bi .len (.cons (.var 0) .nil)) (.cons (.bin .Add (.var 2) (.con (.int 2))) .nil)))) b19_L0) b19_T0
def b19_L1 : Ss := .cons (.set (.nm 5) (.con (.int 0))) b19_T1
def b19_T2 : Ss := .cons (.app 1 (.bi .tuple (.cons (.var 3) .nil))) .nil
def b19_T3 : Ss := .cons (.loop (.nm 4) (.rng1 (.bi .len (.cons (.ix (.var 0) (.con (.int 0))) .nil))) b19_L1) b19_T2
def b19_L2 : Ss := .cons (.set (.nm 3) (.lst .nil)) b19_T3
def b19_T4 : Ss := .cons (.ret (.bi .tuple (.cons (.var 1) .nil))) .nil
def b19_T5 : Ss := .cons (.loop (.nm 2) (.rng1 (.bi .len (.cons (.var 0) .nil))) b19_L2) b19_T4
def b19 : Ss := .cons (.set (.nm 1) (.lst .nil)) b19_T5
/-- 18: _law_tuple(items); slots 0:items 1:n 2:ghost 3:due 4:told 5:at -/
def b20_C0 : E := .bin .Sub (.ix (.var 0) (.var 5)) (.bin .Mult (.ix (.var 0) (.con (.int 0))) (.ix (.var 2) (.var 5)))
def b20_I0 : Ss := .cons (.set (.nm 4) (.bi .tuple (.cons (.comp b20_C0 (.nm 5) (.rng1 (.var 1)) .no [5]) .nil))) .nil
def b20_I1 : Ss := .cons (.ret (.con (.bl false))) .nil
def b20_I2 : Ss := .cons (.ret (.con (.bl false))) .nil
def b20_T0 : Ss := .cons (.ret (.and (.call 12 (.cons (.call 2 (.cons (.var 3) .nil)) (.cons (.con (.int 0)) .nil))) (.or (.cmp .Is (.var 2) (.con .non)) (.cmp .Eq (.call 14 (.cons (.var 2) .nil)) (.bin .Mult (.tup (.cons (.con (.int 0)) .nil)) (.var 1)))))) .nil
def b20_T1 : Ss := .cons (.ife (.or (.not (.call 12 (.cons (.call 1 (.cons (.var 1) .nil)) (.cons (.var 2) .nil)))) (.not (.call 12 (.cons (.call 2 (.cons (.var 0) .nil)) (.cons (.call 16 (.cons (.var 0) .nil)) .nil))))) b20_I2 .nil) b20_T0
def b20_T2 : Ss := .cons (.ife (.or (.not (.call 12 (.cons (.call 0 (.cons (.var 0) .nil)) (.cons (.var 3) .nil)))) (.not (.call 12 (.cons (.call 4 (.cons (.var 3) .nil)) (.cons (.var 4) .nil))))) b20_I1 .nil) b20_T1
def b20_T3 : Ss := .cons (.ife (.cmp .IsNot (.var 2) (.con .non)) b20_I0 .nil) b20_T2
def b20_T4 : Ss := .cons (.set (.nm 4) (.var 0)) b20_T3
def b20_T5 : Ss := .cons (.set (.nm 3) (.call 14 (.cons (.var 0) .nil))) b20_T4
def b20_T6 : Ss := .cons (.set (.nm 2) (.call 15 (.cons (.var 1) .nil))) b20_T5
def b20 : Ss := .cons (.set (.nm 1) (.bi .len (.cons (.var 0) .nil))) b20_T6
/-- 19: _law_sums(sums); slots 0:sums 1:told -/
def b21_I0 : Ss := .cons (.ret (.cmp .Is (.var 1) (.con .non))) .nil
def b21_I1 : Ss := .cons (.ret (.con (.bl false))) .nil
def b21_T0 : Ss := .cons (.ret (.or (.cmp .NotEq (.bin .Mod (.bi .int (.cons (.bi .len (.cons (.var 0) .nil)) .nil)) (.con (.int 3))) (.con (.int 2))) (.cmp .Eq (.ix (.var 1) (.con (.int 0))) (.con (.int 0))))) .nil
def b21_T1 : Ss := .cons (.ife (.or (.not (.call 13 (.cons (.var 1) .nil))) (.or (.cmp .NotEq (.bi .len (.cons (.var 1) .nil)) (.bi .len (.cons (.var 0) .nil))) (.cmp .NotEq (.call 14 (.cons (.var 1) .nil)) (.var 0)))) b21_I1 .nil) b21_T0
def b21_T2 : Ss := .cons (.ife (.cmp .NotEq (.call 16 (.cons (.var 0) .nil)) (.con (.int 0))) b21_I0 .nil) b21_T1
def b21 : Ss := .cons (.set (.nm 1) (.call 4 (.cons (.var 0) .nil))) b21_T2
/-- 20: _law_board(sums); slots 0:sums 1:tilts 2:j 3:told 4:stripe 5:i -/
def b22_C0 : E := .tup (.cons (.con (.int 0)) (.cons (.var 5) .nil))
def b22_D0 : Oe := .yes (.cmp .NotEq (.call 16 (.cons (.ix (.var 0) (.var 5)) .nil)) (.con (.int 0)))
def b22_C1 : E := .ix (.var 4) (.var 2)
def b22_I0 : Ss := .cons (.app 1 (.tup (.cons (.con (.int 1)) (.cons (.var 2) .nil)))) .nil
def b22_L0 : Ss := .cons (.ife (.cmp .NotEq (.call 16 (.cons (.comp b22_C1 (.nm 4) (.seq (.var 0)) .no [4]) .nil)) (.con (.int 0))) b22_I0 .nil) .nil
def b22_I1 : Ss := .cons (.ret (.con (.bl false))) .nil
def b22_I2 : Ss := .cons (.ret (.con (.bl true))) .nil
def b22_I3 : Ss := .cons (.ret (.con (.bl false))) .nil
def b22_I4 : Ss := .cons (.ret (.con (.bl false))) .nil
def b22_L1 : Ss := .cons (.ife (.or (.not (.call 13 (.cons (.var 4) .nil))) (.cmp .NotEq (.bi .len (.cons (.var 4) .nil)) (.bi .len (.cons (.ix (.var 0) (.con (.int 0))) .nil)))) b22_I4 .nil) .nil
def b22_I5 : Ss := .cons (.ret (.con (.bl false))) .nil
def b22_C2 : E := .var 4
def b22_D1 : Oe := .yes (.cmp .NotEq (.ix (.var 4) (.con (.int 0))) (.con (.int 0)))
def b22_T0 : Ss := .cons (.ret (.or (.cmp .NotEq (.bin .Mod (.bi .int (.cons (.bi .len (.cons (.ix (.var 0) (.con (.int 0))) .nil)) .nil)) (.con (.int 3))) (.con (.int 2))) (.cmp .Eq (.bi .len (.cons (.comp b22_C2 (.nm 4) (.seq (.var 3)) b22_D1 [4]) .nil)) (.con (.int 0))))) .nil
def b22_T1 : Ss := .cons (.ife (.or (.cmp .NotEq (.call 17 (.cons (.var 3) .nil)) (.var 0)) (.and (.cmp .Eq (.bin .Mod (.bi .int (.cons (.bi .len (.cons (.var 0) .nil)) .nil)) (.con (.int 3))) (.con (.int 2))) (.cmp .NotEq (.ix (.var 3) (.con (.int 0))) (.bin .Mult (.tup (.cons (.con (.int 0)) .nil)) (.bi .len (.cons (.ix (.var 0) (.con (.int 0))) .nil)))))) b22_I5 .nil) b22_T0
def b22_T2 : Ss := .cons (.loop (.nm 4) (.seq (.var 3)) b22_L1) b22_T1
def b22_T3 : Ss := .cons (.ife (.or (.not (.isi (.var 3) .tuple)) (.cmp .NotEq (.bi .len (.cons (.var 3) .nil)) (.bi .len (.cons (.var 0) .nil)))) b22_I3 .nil) b22_T2
def b22_T4 : Ss := .cons (.ife (.cmp .Is (.var 3) (.con .non)) b22_I2 .nil) b22_T3
def b22_T5 : Ss := .cons (.ife (.or (.not (.call 12 (.cons (.call 7 (.cons (.var 0) .nil)) (.cons (.ife (.cmp .Gt (.bi .len (.cons (.var 1) .nil)) (.con (.int 0))) (.ix (.var 1) (.con (.int 0))) (.con .non)) .nil)))) (.cmp .NotEq (.cmp .Is (.var 3) (.con .non)) (.cmp .Gt (.bi .len (.cons (.var 1) .nil)) (.con (.int 0))))) b22_I1 .nil) b22_T4
def b22_T6 : Ss := .cons (.set (.nm 3) (.call 8 (.cons (.var 0) .nil))) b22_T5
def b22_T7 : Ss := .cons (.loop (.nm 2) (.rng1 (.bi .len (.cons (.ix (.var 0) (.con (.int 0))) .nil))) b22_L0) b22_T6
def b22 : Ss := .cons (.set (.nm 1) (.comp b22_C0 (.nm 5) (.rng1 (.bi .len (.cons (.var 0) .nil))) b22_D0 [5])) b22_T7
/-- 21: law(script); slots 0:script 1:k 2:part 3:n 4:scale 5:items 6:due 7:at 8:bent 9:high 10:wide 11:board 12:i 13:sums 14:j 15:other 16:lone 17:asked -/
def b23_C0 : E := .bin .Mult (.bin .Sub (.bin .Mod (.bi .int (.cons (.ix (.var 2) (.bin .Add (.con (.int 2)) (.var 7))) .nil)) (.con (.int 61))) (.con (.int 30))) (.var 4)
def b23_I0 : Ss := .cons (.ret (.con (.bl false))) .nil
def b23_I1 : Ss := .cons (.ret (.con (.bl false))) .nil
def b23_C1 : E := .bin .Sub (.bin .Mod (.bi .int (.cons (.ix (.var 2) (.bin .Add (.bin .Add (.con (.int 18)) (.bin .Mult (.con (.int 5)) (.var 12))) (.var 14))) .nil)) (.con (.int 19))) (.con (.int 9))
def b23_L0 : Ss := .cons (.app 11 (.bi .tuple (.cons (.comp b23_C1 (.nm 14) (.rng1 (.var 10)) .no [14]) .nil))) .nil
def b23_I2 : Ss := .cons (.ret (.con (.bl false))) .nil
def b23_I3 : Ss := .cons (.ret (.con (.bl false))) .nil
def b23_L1 : Ss := .cons (.ife (.not (.call 20 (.cons (.var 17) .nil))) b23_I3 .nil) .nil
def b23_T0 : Ss := .cons (.loop (.nm 17) (.seq (.tup (.cons (.var 13) (.cons (.var 15) (.cons (.var 11) (.cons (.var 16) .nil)))))) b23_L1) .nil
def b23_T1 : Ss := .cons (.set (.nm 16) (.bin .Add (.bin .Add (.bin .Mult (.tup (.cons (.bin .Mult (.tup (.cons (.con (.int 0)) .nil)) (.var 10)) .nil)) (.var 12)) (.tup (.cons (.bin .Add (.bin .Add (.bin .Mult (.tup (.cons (.con (.int 0)) .nil)) (.var 14)) (.tup (.cons (.con (.int 1)) .nil))) (.bin .Mult (.tup (.cons (.con (.int 0)) .nil)) (.bin .Sub (.bin .Sub (.var 10) (.con (.int 1))) (.var 14)))) .nil))) (.bin .Mult (.tup (.cons (.bin .Mult (.tup (.cons (.con (.int 0)) .nil)) (.var 10)) .nil)) (.bin .Sub (.bin .Sub (.var 9) (.con (.int 1))) (.var 12))))) b23_T0
def b23_T2 : Ss := .cons (.set (.nm 15) (.bin .Add (.bin .Add (.sl (.var 13) .no (.yes (.var 12))) (.tup (.cons (.bin .Add (.bin .Add (.sl (.ix (.var 13) (.var 12)) .no (.yes (.var 14))) (.tup (.cons (.bin .Add (.bin .Add (.ix (.ix (.var 13) (.var 12)) (.var 14)) (.con (.int 1))) (.bin .Mod (.bi .int (.cons (.ix (.var 2) (.con (.int 45))) .nil)) (.con (.int 5)))) .nil))) (.sl (.ix (.var 13) (.var 12)) (.yes (.bin .Add (.var 14) (.con (.int 1)))) .no)) .nil))) (.sl (.var 13) (.yes (.bin .Add (.var 12) (.con (.int 1)))) .no))) b23_T1
def b23_T3 : Ss := .cons (.set (.nm 14) (.bin .Mod (.bi .int (.cons (.ix (.var 2) (.con (.int 44))) .nil)) (.var 10))) b23_T2
def b23_T4 : Ss := .cons (.set (.nm 12) (.bin .Mod (.bi .int (.cons (.ix (.var 2) (.con (.int 43))) .nil)) (.var 9))) b23_T3
def b23_T5 : Ss := .cons (.ife (.not (.call 12 (.cons (.call 6 (.cons (.var 11) .nil)) (.cons (.var 13) .nil)))) b23_I2 .nil) b23_T4
def b23_T6 : Ss := .cons (.set (.nm 13) (.call 17 (.cons (.var 11) .nil))) b23_T5
def b23_T7 : Ss := .cons (.set (.nm 11) (.bi .tuple (.cons (.var 11) .nil))) b23_T6
def b23_T8 : Ss := .cons (.loop (.nm 12) (.rng1 (.var 9)) b23_L0) b23_T7
def b23_T9 : Ss := .cons (.set (.nm 11) (.lst .nil)) b23_T8
def b23_T10 : Ss := .cons (.set (.nm 10) (.bin .Add (.con (.int 1)) (.bin .Mod (.bi .int (.cons (.ix (.var 2) (.con (.int 17))) .nil)) (.con (.int 5))))) b23_T9
def b23_T11 : Ss := .cons (.set (.nm 9) (.bin .Add (.con (.int 1)) (.bin .Mod (.bi .int (.cons (.ix (.var 2) (.con (.int 16))) .nil)) (.con (.int 5))))) b23_T10
def b23_T12 : Ss := .cons (.ife (.or (.not (.call 19 (.cons (.var 8) .nil))) (.or (.not (.call 19 (.cons (.var 5) .nil))) (.not (.call 19 (.cons (.tup (.cons (.con (.int 1)) (.cons (.bin .Sub (.con (.int 0)) (.con (.int 5))) .nil))) .nil))))) b23_I1 .nil) b23_T11
def b23_T13 : Ss := .cons (.set (.nm 8) (.bin .Add (.bin .Add (.sl (.var 6) .no (.yes (.var 7))) (.tup (.cons (.bin .Add (.bin .Add (.ix (.var 6) (.var 7)) (.con (.int 1))) (.bin .Mod (.bi .int (.cons (.ix (.var 2) (.con (.int 15))) .nil)) (.con (.int 9)))) .nil))) (.sl (.var 6) (.yes (.bin .Add (.var 7) (.con (.int 1)))) .no))) b23_T12
def b23_T14 : Ss := .cons (.set (.nm 7) (.bin .Mod (.bi .int (.cons (.ix (.var 2) (.con (.int 14))) .nil)) (.var 3))) b23_T13
def b23_T15 : Ss := .cons (.set (.nm 6) (.call 14 (.cons (.var 5) .nil))) b23_T14
def b23_T16 : Ss := .cons (.ife (.not (.call 18 (.cons (.var 5) .nil))) b23_I0 .nil) b23_T15
def b23_T17 : Ss := .cons (.set (.nm 5) (.bi .tuple (.cons (.comp b23_C0 (.nm 7) (.rng1 (.var 3)) .no [7]) .nil))) b23_T16
def b23_T18 : Ss := .cons (.set (.nm 4) (.ix (.tup (.cons (.con (.int 1)) (.cons (.con (.int 300)) .nil))) (.bin .Mod (.bi .int (.cons (.ix (.var 2) (.con (.int 1))) .nil)) (.con (.int 2))))) b23_T17
def b23_T19 : Ss := .cons (.set (.nm 3) (.bin .Add (.con (.int 1)) (.bin .Mod (.bi .int (.cons (.ix (.var 2) (.con (.int 0))) .nil)) (.con (.int 12))))) b23_T18
def b23_L2 : Ss := .cons (.set (.nm 2) (.call 10 (.cons (.call 9 (.cons (.var 0) (.cons (.var 1) .nil))) (.cons (.con (.int 50)) .nil)))) b23_T19
def b23_T20 : Ss := .cons (.ret (.con (.bl true))) .nil
def b23 : Ss := .cons (.loop (.nm 1) (.rng1 (.con (.int 3))) b23_L2) b23_T20
def fns : List Fn := [⟨1, 2, b1⟩, ⟨1, 2, b2⟩, ⟨1, 4, b3⟩, ⟨2, 4, b4⟩, ⟨1, 3, b5⟩, ⟨1, 3, b6⟩, ⟨1, 3, b7⟩, ⟨1, 5, b8⟩, ⟨1, 3, b9⟩, ⟨2, 2, b11⟩, ⟨2, 8, b12⟩, ⟨1, 1, b13⟩, ⟨2, 3, b14⟩, ⟨1, 2, b15⟩, ⟨1, 4, b16⟩, ⟨1, 3, b17⟩, ⟨1, 3, b18⟩, ⟨1, 7, b19⟩, ⟨1, 6, b20⟩, ⟨1, 2, b21⟩, ⟨1, 6, b22⟩, ⟨1, 18, b23⟩]
end Lk85
namespace Lk85
open Ev PySem L2
section
variable {cf : Nat → List Vl → Option Vl} {wf : Nat}
def near (n : Nat) (f : Nat → Int) : Nat → Int := fun i => (if i = 0 then 0 else f (i - 1)) + f i + (if i + 1 < n then f (i + 1) else 0)
def gh (i : Nat) : Int := if i % 3 = 0 then 1 else if i % 3 = 1 then -1 else 0
theorem win_sum (n i : Nat) (f : Nat → Int) (h : i < n) : cutD (tl n f) (some (if (i : Int) - 1 > 0 then (i : Int) - 1 else 0)) (some ((i : Int) + 2)) = tl (min (i + 2) n - (i - 1)) fun j => f (i - 1 + j) := by
  have e1 : (if (i : Int) - 1 > 0 then (i : Int) - 1 else 0) = ((i - 1 : Nat) : Int) := by split <;> omega
  have e2 : ((i : Int) + 2) = ((i + 2 : Nat) : Int) := by omega
  rw [e1, e2]
  unfold cutD
  rw [tl_len, HT.sIx_nat, HT.sIx_nat]
  rw [show min (i - 1) n = i - 1 by omega]
  exact cut_fn _ n (i - 1) (min (i + 2) n) (by omega)
theorem sum_win (n i : Nat) (f : Nat → Int) (h : i < n) : sumR (min (i + 2) n - (i - 1)) (fun j => f (i - 1 + j)) = near n f i := by
  unfold near
  by_cases h0 : i = 0
  · subst h0
    by_cases h1 : 1 < n
    · rw [show min (0 + 2) n - (0 - 1) = 2 by omega]
      simp [sumR, h1]
    · rw [show min (0 + 2) n - (0 - 1) = 1 by omega]
      simp [sumR, h1]
  · obtain ⟨k, rfl⟩ : ∃ k, i = k + 1 := ⟨i - 1, by omega⟩
    by_cases h1 : k + 1 + 1 < n
    · rw [show min (k + 1 + 2) n - (k + 1 - 1) = 3 by omega]
      simp [sumR, h1]
    · rw [show min (k + 1 + 2) n - (k + 1 - 1) = 2 by omega]
      simp [sumR, h1]
theorem run_near (n : Nat) (f : Nat → Int) (hn : n ≤ 1000) : runB cf wf ⟨1, 2, b1⟩ [.h (tf n f)] = some (.h (tf n (near n f))) := by
  have hs : startE 2 [.h (.tup (tl n f))] = [some (.im (.h (.tup (tl n f)))), none] := rfl
  have hsm : small62 (n : Int) = true := small62_nat (by omega)
  have hl : ((n : Int) - 0).toNat < sizeLine := lt_line (by omega)
  rw [← ok_eq]
  simp -implicitDefEqProofs only [tf, runB, b1, hs, eqE_bl, bbeq_tf, bbeq_ft, beq_self_eq_true, frz, frzAll, srcI, srcVars, srcOk, Option.toList, Option.isSome_none, Option.isSome_some, eqE_int, eq_self, evSs, evS, evE, evEs, evO, evC, evI, bindB_nm, bindB_tp, bindBs_nil, bindBs_cons, bindE_nm, bindE_tp, bindEs_nil, bindEs_cons, wipeE, view, Bd.v, truE, cmpE, gtV, ltV, leV, geV, ltE, isV, isntV, neV, ninV, isNon, biE, intE, lenE, absE, minE, maxE, sumE, tupleE, listE, allE, anyE, itemsOf, binE, modE, fdivE, mulE, addE, subE, negE, powE, asH, asI, asHs, ixE, slE, ownL, putE, fr, asVar, isiE, Turned, List.set_cons_succ, List.set_cons_zero, List.map_cons, List.map_nil, List.getElem?_cons_succ, List.getElem?_cons_zero, Option.map_some, Option.join_some, bind, Option.bind_some, ok_bind, ok_some, ok_map, if_true, if_false, ite_true, ite_false, Bool.and_true, Bool.true_and, Bool.and_false, Bool.false_and, decide_true, decide_false, Bool.false_eq_true, not_true_eq_false, not_false_eq_true, Bool.not_true, Bool.not_false, Bool.or_true, Bool.true_or, Bool.or_false, Bool.false_or, List.length_nil, List.length_cons, Nat.zero_add, Int.zero_add, true_and, and_true, and_self, false_and, and_false, or_true, true_or, or_false, false_or, not_true, not_false_iff, decide_eq_true_eq, Bool.not_eq_true, ne_eq, reduceCtorEq, tl_len, hsm]
  refine ok_of (compL_rng0 (fun i => .int (near n f i)) n fun i hi => ?_) ?_
  · rw [← ok_eq]
    simp -implicitDefEqProofs only [b1_C0, eqE_bl, bbeq_tf, bbeq_ft, beq_self_eq_true, frz, frzAll, srcI, srcVars, srcOk, Option.toList, Option.isSome_none, Option.isSome_some, eqE_int, eq_self, evSs, evS, evE, evEs, evO, evC, evI, bindB_nm, bindB_tp, bindBs_nil, bindBs_cons, bindE_nm, bindE_tp, bindEs_nil, bindEs_cons, wipeE, view, Bd.v, truE, cmpE, gtV, ltV, leV, geV, ltE, isV, isntV, neV, ninV, isNon, biE, intE, lenE, absE, minE, maxE, sumE, tupleE, listE, allE, anyE, itemsOf, binE, modE, fdivE, mulE, addE, subE, negE, powE, asH, asI, asHs, ixE, slE, ownL, putE, fr, asVar, isiE, Turned, List.set_cons_succ, List.set_cons_zero, List.map_cons, List.map_nil, List.getElem?_cons_succ, List.getElem?_cons_zero, Option.map_some, Option.join_some, bind, Option.bind_some, ok_bind, ok_some, ok_map, if_true, if_false, ite_true, ite_false, Bool.and_true, Bool.true_and, Bool.and_false, Bool.false_and, decide_true, decide_false, Bool.false_eq_true, not_true_eq_false, not_false_eq_true, Bool.not_true, Bool.not_false, Bool.or_true, Bool.true_or, Bool.or_false, Bool.false_or, List.length_nil, List.length_cons, Nat.zero_add, Int.zero_add, true_and, and_true, and_self, false_and, and_false, or_true, true_or, or_false, false_or, not_true, not_false_iff, decide_eq_true_eq, Bool.not_eq_true, ne_eq, reduceCtorEq, win_sum n i f hi, asInts_tl, sum_range, sum_win n i f hi]
  · simp -implicitDefEqProofs only [eqE_bl, bbeq_tf, bbeq_ft, beq_self_eq_true, frz, frzAll, srcI, srcVars, srcOk, Option.toList, Option.isSome_none, Option.isSome_some, eqE_int, eq_self, evSs, evS, evE, evEs, evO, evC, evI, bindB_nm, bindB_tp, bindBs_nil, bindBs_cons, bindE_nm, bindE_tp, bindEs_nil, bindEs_cons, wipeE, view, Bd.v, truE, cmpE, gtV, ltV, leV, geV, ltE, isV, isntV, neV, ninV, isNon, biE, intE, lenE, absE, minE, maxE, sumE, tupleE, listE, allE, anyE, itemsOf, binE, modE, fdivE, mulE, addE, subE, negE, powE, asH, asI, asHs, ixE, slE, ownL, putE, fr, asVar, isiE, Turned, List.set_cons_succ, List.set_cons_zero, List.map_cons, List.map_nil, List.getElem?_cons_succ, List.getElem?_cons_zero, Option.map_some, Option.join_some, bind, Option.bind_some, ok_bind, ok_some, ok_map, if_true, if_false, ite_true, ite_false, Bool.and_true, Bool.true_and, Bool.and_false, Bool.false_and, decide_true, decide_false, Bool.false_eq_true, not_true_eq_false, not_false_eq_true, Bool.not_true, Bool.not_false, Bool.or_true, Bool.true_or, Bool.or_false, Bool.false_or, List.length_nil, List.length_cons, Nat.zero_add, Int.zero_add, true_and, and_true, and_self, false_and, and_false, or_true, true_or, or_false, false_or, not_true, not_false_iff, decide_eq_true_eq, Bool.not_eq_true, ne_eq, reduceCtorEq, rngD_len', hl]
    rfl
/-- the ghost -/
theorem run_ghost (n : Nat) (hn : n ≤ 1000) : runB cf wf ⟨1, 2, b2⟩ [.h (.int n)] = some (.h (if n % 3 = 2 then tf n gh else .non)) := by
  have hs : startE 2 [.h (.int n)] = [some (.im (.h (.int n))), none] := rfl
  have hsm : small62 (n : Int) = true := small62_nat (by omega)
  have hl : ((n : Int) - 0).toNat < sizeLine := lt_line (by omega)
  have c3 : (0 : Int) < 3 := by decide
  rw [← ok_eq]
  by_cases h : n % 3 = 2
  · have h2 : (n : Int) % 3 = 2 := by omega
    simp -implicitDefEqProofs only [runB, b2_I0, b2_T0, b2, hs, eqE_bl, bbeq_tf, bbeq_ft, beq_self_eq_true, frz, frzAll, srcI, srcVars, srcOk, Option.toList, Option.isSome_none, Option.isSome_some, eqE_int, eq_self, evSs, evS, evE, evEs, evO, evC, evI, bindB_nm, bindB_tp, bindBs_nil, bindBs_cons, bindE_nm, bindE_tp, bindEs_nil, bindEs_cons, wipeE, view, Bd.v, truE, cmpE, gtV, ltV, leV, geV, ltE, isV, isntV, neV, ninV, isNon, biE, intE, lenE, absE, minE, maxE, sumE, tupleE, listE, allE, anyE, itemsOf, binE, modE, fdivE, mulE, addE, subE, negE, powE, asH, asI, asHs, ixE, slE, ownL, putE, fr, asVar, isiE, Turned, List.set_cons_succ, List.set_cons_zero, List.map_cons, List.map_nil, List.getElem?_cons_succ, List.getElem?_cons_zero, Option.map_some, Option.join_some, bind, Option.bind_some, ok_bind, ok_some, ok_map, if_true, if_false, ite_true, ite_false, Bool.and_true, Bool.true_and, Bool.and_false, Bool.false_and, decide_true, decide_false, Bool.false_eq_true, not_true_eq_false, not_false_eq_true, Bool.not_true, Bool.not_false, Bool.or_true, Bool.true_or, Bool.or_false, Bool.false_or, List.length_nil, List.length_cons, Nat.zero_add, Int.zero_add, true_and, and_true, and_self, false_and, and_false, or_true, true_or, or_false, false_or, not_true, not_false_iff, decide_eq_true_eq, Bool.not_eq_true, ne_eq, reduceCtorEq, hsm, c3, h2, h]
    refine ok_of (compL_rng0 (fun i => .int (gh i)) n fun i hi => ?_) ?_
    · rw [← ok_eq]
      have e : ∃ m : Nat, (i : Int) % 3 = (m : Int) ∧ m = i % 3 := ⟨i % 3, by omega, rfl⟩
      obtain ⟨m, e1, e2⟩ := e
      have hm : m < 3 := by omega
      have l3 : 3 ≤ sizeLine := le_line (by omega)
      simp -implicitDefEqProofs only [b2_C0, eqE_bl, bbeq_tf, bbeq_ft, beq_self_eq_true, frz, frzAll, srcI, srcVars, srcOk, Option.toList, Option.isSome_none, Option.isSome_some, eqE_int, eq_self, evSs, evS, evE, evEs, evO, evC, evI, bindB_nm, bindB_tp, bindBs_nil, bindBs_cons, bindE_nm, bindE_tp, bindEs_nil, bindEs_cons, wipeE, view, Bd.v, truE, cmpE, gtV, ltV, leV, geV, ltE, isV, isntV, neV, ninV, isNon, biE, intE, lenE, absE, minE, maxE, sumE, tupleE, listE, allE, anyE, itemsOf, binE, modE, fdivE, mulE, addE, subE, negE, powE, asH, asI, asHs, ixE, slE, ownL, putE, fr, asVar, isiE, Turned, List.set_cons_succ, List.set_cons_zero, List.map_cons, List.map_nil, List.getElem?_cons_succ, List.getElem?_cons_zero, Option.map_some, Option.join_some, bind, Option.bind_some, ok_bind, ok_some, ok_map, if_true, if_false, ite_true, ite_false, Bool.and_true, Bool.true_and, Bool.and_false, Bool.false_and, decide_true, decide_false, Bool.false_eq_true, not_true_eq_false, not_false_eq_true, Bool.not_true, Bool.not_false, Bool.or_true, Bool.true_or, Bool.or_false, Bool.false_or, List.length_nil, List.length_cons, Nat.zero_add, Int.zero_add, true_and, and_true, and_self, false_and, and_false, or_true, true_or, or_false, false_or, not_true, not_false_iff, decide_eq_true_eq, Bool.not_eq_true, ne_eq, reduceCtorEq, c3, l3, e1]
      unfold gh
      rw [← e2]
      have : m = 0 ∨ m = 1 ∨ m = 2 := by omega
      rcases this with rfl | rfl | rfl <;> exact ⟨_, rfl, rfl⟩
    · simp -implicitDefEqProofs only [eqE_bl, bbeq_tf, bbeq_ft, beq_self_eq_true, frz, frzAll, srcI, srcVars, srcOk, Option.toList, Option.isSome_none, Option.isSome_some, eqE_int, eq_self, evSs, evS, evE, evEs, evO, evC, evI, bindB_nm, bindB_tp, bindBs_nil, bindBs_cons, bindE_nm, bindE_tp, bindEs_nil, bindEs_cons, wipeE, view, Bd.v, truE, cmpE, gtV, ltV, leV, geV, ltE, isV, isntV, neV, ninV, isNon, biE, intE, lenE, absE, minE, maxE, sumE, tupleE, listE, allE, anyE, itemsOf, binE, modE, fdivE, mulE, addE, subE, negE, powE, asH, asI, asHs, ixE, slE, ownL, putE, fr, asVar, isiE, Turned, List.set_cons_succ, List.set_cons_zero, List.map_cons, List.map_nil, List.getElem?_cons_succ, List.getElem?_cons_zero, Option.map_some, Option.join_some, bind, Option.bind_some, ok_bind, ok_some, ok_map, if_true, if_false, ite_true, ite_false, Bool.and_true, Bool.true_and, Bool.and_false, Bool.false_and, decide_true, decide_false, Bool.false_eq_true, not_true_eq_false, not_false_eq_true, Bool.not_true, Bool.not_false, Bool.or_true, Bool.true_or, Bool.or_false, Bool.false_or, List.length_nil, List.length_cons, Nat.zero_add, Int.zero_add, true_and, and_true, and_self, false_and, and_false, or_true, true_or, or_false, false_or, not_true, not_false_iff, decide_eq_true_eq, Bool.not_eq_true, ne_eq, reduceCtorEq, rngD_len', hl]
      rfl
  · have h2 : ¬ (n : Int) % 3 = 2 := by omega
    simp -implicitDefEqProofs only [runB, b2_I0, b2_T0, b2, hs, eqE_bl, bbeq_tf, bbeq_ft, beq_self_eq_true, frz, frzAll, srcI, srcVars, srcOk, Option.toList, Option.isSome_none, Option.isSome_some, eqE_int, eq_self, evSs, evS, evE, evEs, evO, evC, evI, bindB_nm, bindB_tp, bindBs_nil, bindBs_cons, bindE_nm, bindE_tp, bindEs_nil, bindEs_cons, wipeE, view, Bd.v, truE, cmpE, gtV, ltV, leV, geV, ltE, isV, isntV, neV, ninV, isNon, biE, intE, lenE, absE, minE, maxE, sumE, tupleE, listE, allE, anyE, itemsOf, binE, modE, fdivE, mulE, addE, subE, negE, powE, asH, asI, asHs, ixE, slE, ownL, putE, fr, asVar, isiE, Turned, List.set_cons_succ, List.set_cons_zero, List.map_cons, List.map_nil, List.getElem?_cons_succ, List.getElem?_cons_zero, Option.map_some, Option.join_some, bind, Option.bind_some, ok_bind, ok_some, ok_map, if_true, if_false, ite_true, ite_false, Bool.and_true, Bool.true_and, Bool.and_false, Bool.false_and, decide_true, decide_false, Bool.false_eq_true, not_true_eq_false, not_false_eq_true, Bool.not_true, Bool.not_false, Bool.or_true, Bool.true_or, Bool.or_false, Bool.false_or, List.length_nil, List.length_cons, Nat.zero_add, Int.zero_add, true_and, and_true, and_self, false_and, and_false, or_true, true_or, or_false, false_or, not_true, not_false_iff, decide_eq_true_eq, Bool.not_eq_true, ne_eq, reduceCtorEq, hsm, c3, h2, h]
theorem gh_small (i : Nat) : (gh i).natAbs < 4611686018427387904 := by
  unfold gh
  split
  · decide
  · split <;> decide
theorem zip_tl (n : Nat) (f g : Nat → Int) : zipD (tl n f) (tl n g) = (List.range n).map fun i => .tup [.int (f i), .int (g i)] := by
  unfold zipD tl
  rw [List.zip_map', List.map_map]
  rfl
theorem asInts_fn (n : Nat) (f : Nat → Int) : asInts ((List.range n).map fun i => .int (f i)) = some ((List.range n).map f) := asInts_tl n f
def imb (n : Nat) (f : Nat → Int) : Int := if n % 3 = 2 then sumR n (fun i => f i * gh i) else 0
theorem run_imb (n : Nat) (f : Nat → Int) (hn : n ≤ 1000) (h1 : cf 1 [.h (.int n)] = some (.h (if n % 3 = 2 then tf n gh else .non))) : runB cf wf ⟨1, 4, b3⟩ [.h (tf n f)] = some (.h (.int (imb n f))) := by
  have hs : startE 4 [.h (.tup (tl n f))] = [some (.im (.h (.tup (tl n f)))), none, none, none] := rfl
  rw [← ok_eq]
  by_cases h : n % 3 = 2
  · rw [if_pos h] at h1
    simp -implicitDefEqProofs only [runB, b3_I0, b3_T0, b3_T1, b3, hs, eqE_bl, bbeq_tf, bbeq_ft, beq_self_eq_true, frz, frzAll, srcI, srcVars, srcOk, Option.toList, Option.isSome_none, Option.isSome_some, eqE_int, eq_self, evSs, evS, evE, evEs, evO, evC, evI, bindB_nm, bindB_tp, bindBs_nil, bindBs_cons, bindE_nm, bindE_tp, bindEs_nil, bindEs_cons, wipeE, view, Bd.v, truE, cmpE, gtV, ltV, leV, geV, ltE, isV, isntV, neV, ninV, isNon, biE, intE, lenE, absE, minE, maxE, sumE, tupleE, listE, allE, anyE, itemsOf, binE, modE, fdivE, mulE, addE, subE, negE, powE, asH, asI, asHs, ixE, slE, ownL, putE, fr, asVar, isiE, Turned, List.set_cons_succ, List.set_cons_zero, List.map_cons, List.map_nil, List.getElem?_cons_succ, List.getElem?_cons_zero, Option.map_some, Option.join_some, bind, Option.bind_some, ok_bind, ok_some, ok_map, if_true, if_false, ite_true, ite_false, Bool.and_true, Bool.true_and, Bool.and_false, Bool.false_and, decide_true, decide_false, Bool.false_eq_true, not_true_eq_false, not_false_eq_true, Bool.not_true, Bool.not_false, Bool.or_true, Bool.true_or, Bool.or_false, Bool.false_or, List.length_nil, List.length_cons, Nat.zero_add, Int.zero_add, true_and, and_true, and_self, false_and, and_false, or_true, true_or, or_false, false_or, not_true, not_false_iff, decide_eq_true_eq, Bool.not_eq_true, ne_eq, reduceCtorEq, tl_len, h1, tf, zip_tl]
    refine ok_of (compL_fn (fun i => .int (f i * gh i)) fun i hi => ?_) ?_
    · rw [← ok_eq]
      have hm : mulOk (f i) (gh i) = true := mulOk_r (gh_small i)
      simp -implicitDefEqProofs only [b3_C0, eqE_bl, bbeq_tf, bbeq_ft, beq_self_eq_true, frz, frzAll, srcI, srcVars, srcOk, Option.toList, Option.isSome_none, Option.isSome_some, eqE_int, eq_self, evSs, evS, evE, evEs, evO, evC, evI, bindB_nm, bindB_tp, bindBs_nil, bindBs_cons, bindE_nm, bindE_tp, bindEs_nil, bindEs_cons, wipeE, view, Bd.v, truE, cmpE, gtV, ltV, leV, geV, ltE, isV, isntV, neV, ninV, isNon, biE, intE, lenE, absE, minE, maxE, sumE, tupleE, listE, allE, anyE, itemsOf, binE, modE, fdivE, mulE, addE, subE, negE, powE, asH, asI, asHs, ixE, slE, ownL, putE, fr, asVar, isiE, Turned, List.set_cons_succ, List.set_cons_zero, List.map_cons, List.map_nil, List.getElem?_cons_succ, List.getElem?_cons_zero, Option.map_some, Option.join_some, bind, Option.bind_some, ok_bind, ok_some, ok_map, if_true, if_false, ite_true, ite_false, Bool.and_true, Bool.true_and, Bool.and_false, Bool.false_and, decide_true, decide_false, Bool.false_eq_true, not_true_eq_false, not_false_eq_true, Bool.not_true, Bool.not_false, Bool.or_true, Bool.true_or, Bool.or_false, Bool.false_or, List.length_nil, List.length_cons, Nat.zero_add, Int.zero_add, true_and, and_true, and_self, false_and, and_false, or_true, true_or, or_false, false_or, not_true, not_false_iff, decide_eq_true_eq, Bool.not_eq_true, ne_eq, reduceCtorEq, hm]
    · have hl : ((List.range n).map fun i => Dt.tup [.int (f i), .int (gh i)]).length < sizeLine := lt_line (by simp; omega)
      simp -implicitDefEqProofs only [eqE_bl, bbeq_tf, bbeq_ft, beq_self_eq_true, frz, frzAll, srcI, srcVars, srcOk, Option.toList, Option.isSome_none, Option.isSome_some, eqE_int, eq_self, evSs, evS, evE, evEs, evO, evC, evI, bindB_nm, bindB_tp, bindBs_nil, bindBs_cons, bindE_nm, bindE_tp, bindEs_nil, bindEs_cons, wipeE, view, Bd.v, truE, cmpE, gtV, ltV, leV, geV, ltE, isV, isntV, neV, ninV, isNon, biE, intE, lenE, absE, minE, maxE, sumE, tupleE, listE, allE, anyE, itemsOf, binE, modE, fdivE, mulE, addE, subE, negE, powE, asH, asI, asHs, ixE, slE, ownL, putE, fr, asVar, isiE, Turned, List.set_cons_succ, List.set_cons_zero, List.map_cons, List.map_nil, List.getElem?_cons_succ, List.getElem?_cons_zero, Option.map_some, Option.join_some, bind, Option.bind_some, ok_bind, ok_some, ok_map, if_true, if_false, ite_true, ite_false, Bool.and_true, Bool.true_and, Bool.and_false, Bool.false_and, decide_true, decide_false, Bool.false_eq_true, not_true_eq_false, not_false_eq_true, Bool.not_true, Bool.not_false, Bool.or_true, Bool.true_or, Bool.or_false, Bool.false_or, List.length_nil, List.length_cons, Nat.zero_add, Int.zero_add, true_and, and_true, and_self, false_and, and_false, or_true, true_or, or_false, false_or, not_true, not_false_iff, decide_eq_true_eq, Bool.not_eq_true, ne_eq, reduceCtorEq, hl, asInts_fn, sum_range, imb, h]
  · rw [if_neg h] at h1
    simp -implicitDefEqProofs only [tf, runB, b3_I0, b3_T0, b3_T1, b3, hs, eqE_bl, bbeq_tf, bbeq_ft, beq_self_eq_true, frz, frzAll, srcI, srcVars, srcOk, Option.toList, Option.isSome_none, Option.isSome_some, eqE_int, eq_self, evSs, evS, evE, evEs, evO, evC, evI, bindB_nm, bindB_tp, bindBs_nil, bindBs_cons, bindE_nm, bindE_tp, bindEs_nil, bindEs_cons, wipeE, view, Bd.v, truE, cmpE, gtV, ltV, leV, geV, ltE, isV, isntV, neV, ninV, isNon, biE, intE, lenE, absE, minE, maxE, sumE, tupleE, listE, allE, anyE, itemsOf, binE, modE, fdivE, mulE, addE, subE, negE, powE, asH, asI, asHs, ixE, slE, ownL, putE, fr, asVar, isiE, Turned, List.set_cons_succ, List.set_cons_zero, List.map_cons, List.map_nil, List.getElem?_cons_succ, List.getElem?_cons_zero, Option.map_some, Option.join_some, bind, Option.bind_some, ok_bind, ok_some, ok_map, if_true, if_false, ite_true, ite_false, Bool.and_true, Bool.true_and, Bool.and_false, Bool.false_and, decide_true, decide_false, Bool.false_eq_true, not_true_eq_false, not_false_eq_true, Bool.not_true, Bool.not_false, Bool.or_true, Bool.true_or, Bool.or_false, Bool.false_or, List.length_nil, List.length_cons, Nat.zero_add, Int.zero_add, true_and, and_true, and_self, false_and, and_false, or_true, true_or, or_false, false_or, not_true, not_false_iff, decide_eq_true_eq, Bool.not_eq_true, ne_eq, reduceCtorEq, tl_len, h1, imb, h]
/-- the law's own near sums -/
theorem run_lnear (n : Nat) (f : Nat → Int) (hn : n ≤ 1000) : runB cf wf ⟨1, 4, b16⟩ [.h (tf n f)] = some (.h (tf n (near n f))) := by
  have hs : startE 4 [.h (.tup (tl n f))] = [some (.im (.h (.tup (tl n f)))), none, none, none] := rfl
  have hsm : small62 (n : Int) = true := small62_nat (by omega)
  have e0 : (0 : Nat) ≤ sizeLine := Nat.zero_le _
  rw [← ok_eq]
  simp -implicitDefEqProofs only [tf, runB, b16_I0, b16_I1, b16_T0, b16_T1, b16_T2, b16_T3, b16_T4, b16, hs, eqE_bl, bbeq_tf, bbeq_ft, beq_self_eq_true, frz, frzAll, srcI, srcVars, srcOk, Option.toList, Option.isSome_none, Option.isSome_some, eqE_int, eq_self, evSs, evS, evE, evEs, evO, evC, evI, bindB_nm, bindB_tp, bindBs_nil, bindBs_cons, bindE_nm, bindE_tp, bindEs_nil, bindEs_cons, wipeE, view, Bd.v, truE, cmpE, gtV, ltV, leV, geV, ltE, isV, isntV, neV, ninV, isNon, biE, intE, lenE, absE, minE, maxE, sumE, tupleE, listE, allE, anyE, itemsOf, binE, modE, fdivE, mulE, addE, subE, negE, powE, asH, asI, asHs, ixE, slE, ownL, putE, fr, asVar, isiE, Turned, List.set_cons_succ, List.set_cons_zero, List.map_cons, List.map_nil, List.getElem?_cons_succ, List.getElem?_cons_zero, Option.map_some, Option.join_some, bind, Option.bind_some, ok_bind, ok_some, ok_map, if_true, if_false, ite_true, ite_false, Bool.and_true, Bool.true_and, Bool.and_false, Bool.false_and, decide_true, decide_false, Bool.false_eq_true, not_true_eq_false, not_false_eq_true, Bool.not_true, Bool.not_false, Bool.or_true, Bool.true_or, Bool.or_false, Bool.false_or, List.length_nil, List.length_cons, Nat.zero_add, Int.zero_add, true_and, and_true, and_self, false_and, and_false, or_true, true_or, or_false, false_or, not_true, not_false_iff, decide_eq_true_eq, Bool.not_eq_true, ne_eq, reduceCtorEq, tl_len, hsm, e0]
  refine ok_loopR (a := 0) (b := n) (fun i β => ∃ v2 v3, β = [some (.im (.h (.tup (tl n f)))), some (.ow (.l (tl i (near n f)))), v2, v3]) ⟨none, none, rfl⟩ (fun i β hi ⟨v2, v3, hb⟩ => ?_) fun β ⟨v2, v3, hb⟩ => ?_
  · subst hb
    have hi' : i < n := by omega
    have hl : i < sizeLine := lt_line (by omega)
    have h1 := atI_tl (f := f) hi'
    have key : ∀ x : Int, x = near n f i → ∃ v2' v3', [some (Bd.im (.h (.tup (tl n f)))), some (.ow (.l (tl i (near n f) ++ [.int x]))), some (.im (.h (.int i))), some (.im (.h (.int x)))] = [some (.im (.h (.tup (tl n f)))), some (.ow (.l (tl (i + 1) (near n f)))), v2', v3'] := fun x hx => ⟨some (.im (.h (.int i))), some (.im (.h (.int x))), by rw [tl_succ, ← hx]⟩
    by_cases h0 : 0 < i
    · have h0' : (0 : Int) < i := by omega
      have h2 := atI_tl (n := n) (i := i - 1) (f := f) (by omega)
      rw [show ((i - 1 : Nat) : Int) = (i : Int) - 1 by omega] at h2
      by_cases h3 : i + 1 < n
      · have h3' : (i : Int) + 1 < n := by omega
        have h4 := atI_tl (f := f) h3
        rw [show ((i + 1 : Nat) : Int) = (i : Int) + 1 by omega] at h4
        simp -implicitDefEqProofs only [b16_L0, b16_I0, b16_I1, b16_T0, b16_T1, b16_T2, b16_T3, b16_T4, b16, eqE_bl, bbeq_tf, bbeq_ft, beq_self_eq_true, frz, frzAll, srcI, srcVars, srcOk, Option.toList, Option.isSome_none, Option.isSome_some, eqE_int, eq_self, evSs, evS, evE, evEs, evO, evC, evI, bindB_nm, bindB_tp, bindBs_nil, bindBs_cons, bindE_nm, bindE_tp, bindEs_nil, bindEs_cons, wipeE, view, Bd.v, truE, cmpE, gtV, ltV, leV, geV, ltE, isV, isntV, neV, ninV, isNon, biE, intE, lenE, absE, minE, maxE, sumE, tupleE, listE, allE, anyE, itemsOf, binE, modE, fdivE, mulE, addE, subE, negE, powE, asH, asI, asHs, ixE, slE, ownL, putE, fr, asVar, isiE, Turned, List.set_cons_succ, List.set_cons_zero, List.map_cons, List.map_nil, List.getElem?_cons_succ, List.getElem?_cons_zero, Option.map_some, Option.join_some, bind, Option.bind_some, ok_bind, ok_some, ok_map, if_true, if_false, ite_true, ite_false, Bool.and_true, Bool.true_and, Bool.and_false, Bool.false_and, decide_true, decide_false, Bool.false_eq_true, not_true_eq_false, not_false_eq_true, Bool.not_true, Bool.not_false, Bool.or_true, Bool.true_or, Bool.or_false, Bool.false_or, List.length_nil, List.length_cons, Nat.zero_add, Int.zero_add, true_and, and_true, and_self, false_and, and_false, or_true, true_or, or_false, false_or, not_true, not_false_iff, decide_eq_true_eq, Bool.not_eq_true, ne_eq, reduceCtorEq, h1, h2, h4, h0', h3', tl_len, hl]
        refine key _ ?_
        unfold near
        rw [if_neg (by omega), if_pos h3]
        omega
      · have h3' : ¬ (i : Int) + 1 < n := by omega
        simp -implicitDefEqProofs only [b16_L0, b16_I0, b16_I1, b16_T0, b16_T1, b16_T2, b16_T3, b16_T4, b16, eqE_bl, bbeq_tf, bbeq_ft, beq_self_eq_true, frz, frzAll, srcI, srcVars, srcOk, Option.toList, Option.isSome_none, Option.isSome_some, eqE_int, eq_self, evSs, evS, evE, evEs, evO, evC, evI, bindB_nm, bindB_tp, bindBs_nil, bindBs_cons, bindE_nm, bindE_tp, bindEs_nil, bindEs_cons, wipeE, view, Bd.v, truE, cmpE, gtV, ltV, leV, geV, ltE, isV, isntV, neV, ninV, isNon, biE, intE, lenE, absE, minE, maxE, sumE, tupleE, listE, allE, anyE, itemsOf, binE, modE, fdivE, mulE, addE, subE, negE, powE, asH, asI, asHs, ixE, slE, ownL, putE, fr, asVar, isiE, Turned, List.set_cons_succ, List.set_cons_zero, List.map_cons, List.map_nil, List.getElem?_cons_succ, List.getElem?_cons_zero, Option.map_some, Option.join_some, bind, Option.bind_some, ok_bind, ok_some, ok_map, if_true, if_false, ite_true, ite_false, Bool.and_true, Bool.true_and, Bool.and_false, Bool.false_and, decide_true, decide_false, Bool.false_eq_true, not_true_eq_false, not_false_eq_true, Bool.not_true, Bool.not_false, Bool.or_true, Bool.true_or, Bool.or_false, Bool.false_or, List.length_nil, List.length_cons, Nat.zero_add, Int.zero_add, true_and, and_true, and_self, false_and, and_false, or_true, true_or, or_false, false_or, not_true, not_false_iff, decide_eq_true_eq, Bool.not_eq_true, ne_eq, reduceCtorEq, h1, h2, h0', h3', tl_len, hl]
        refine key _ ?_
        unfold near
        rw [if_neg (by omega), if_neg h3]
        omega
    · have h0' : ¬ (0 : Int) < i := by omega
      by_cases h3 : i + 1 < n
      · have h3' : (i : Int) + 1 < n := by omega
        have h4 := atI_tl (f := f) h3
        rw [show ((i + 1 : Nat) : Int) = (i : Int) + 1 by omega] at h4
        simp -implicitDefEqProofs only [b16_L0, b16_I0, b16_I1, b16_T0, b16_T1, b16_T2, b16_T3, b16_T4, b16, eqE_bl, bbeq_tf, bbeq_ft, beq_self_eq_true, frz, frzAll, srcI, srcVars, srcOk, Option.toList, Option.isSome_none, Option.isSome_some, eqE_int, eq_self, evSs, evS, evE, evEs, evO, evC, evI, bindB_nm, bindB_tp, bindBs_nil, bindBs_cons, bindE_nm, bindE_tp, bindEs_nil, bindEs_cons, wipeE, view, Bd.v, truE, cmpE, gtV, ltV, leV, geV, ltE, isV, isntV, neV, ninV, isNon, biE, intE, lenE, absE, minE, maxE, sumE, tupleE, listE, allE, anyE, itemsOf, binE, modE, fdivE, mulE, addE, subE, negE, powE, asH, asI, asHs, ixE, slE, ownL, putE, fr, asVar, isiE, Turned, List.set_cons_succ, List.set_cons_zero, List.map_cons, List.map_nil, List.getElem?_cons_succ, List.getElem?_cons_zero, Option.map_some, Option.join_some, bind, Option.bind_some, ok_bind, ok_some, ok_map, if_true, if_false, ite_true, ite_false, Bool.and_true, Bool.true_and, Bool.and_false, Bool.false_and, decide_true, decide_false, Bool.false_eq_true, not_true_eq_false, not_false_eq_true, Bool.not_true, Bool.not_false, Bool.or_true, Bool.true_or, Bool.or_false, Bool.false_or, List.length_nil, List.length_cons, Nat.zero_add, Int.zero_add, true_and, and_true, and_self, false_and, and_false, or_true, true_or, or_false, false_or, not_true, not_false_iff, decide_eq_true_eq, Bool.not_eq_true, ne_eq, reduceCtorEq, h1, h4, h0', h3', tl_len, hl]
        refine key _ ?_
        unfold near
        rw [if_pos (by omega), if_pos h3]
        omega
      · have h3' : ¬ (i : Int) + 1 < n := by omega
        simp -implicitDefEqProofs only [b16_L0, b16_I0, b16_I1, b16_T0, b16_T1, b16_T2, b16_T3, b16_T4, b16, eqE_bl, bbeq_tf, bbeq_ft, beq_self_eq_true, frz, frzAll, srcI, srcVars, srcOk, Option.toList, Option.isSome_none, Option.isSome_some, eqE_int, eq_self, evSs, evS, evE, evEs, evO, evC, evI, bindB_nm, bindB_tp, bindBs_nil, bindBs_cons, bindE_nm, bindE_tp, bindEs_nil, bindEs_cons, wipeE, view, Bd.v, truE, cmpE, gtV, ltV, leV, geV, ltE, isV, isntV, neV, ninV, isNon, biE, intE, lenE, absE, minE, maxE, sumE, tupleE, listE, allE, anyE, itemsOf, binE, modE, fdivE, mulE, addE, subE, negE, powE, asH, asI, asHs, ixE, slE, ownL, putE, fr, asVar, isiE, Turned, List.set_cons_succ, List.set_cons_zero, List.map_cons, List.map_nil, List.getElem?_cons_succ, List.getElem?_cons_zero, Option.map_some, Option.join_some, bind, Option.bind_some, ok_bind, ok_some, ok_map, if_true, if_false, ite_true, ite_false, Bool.and_true, Bool.true_and, Bool.and_false, Bool.false_and, decide_true, decide_false, Bool.false_eq_true, not_true_eq_false, not_false_eq_true, Bool.not_true, Bool.not_false, Bool.or_true, Bool.true_or, Bool.or_false, Bool.false_or, List.length_nil, List.length_cons, Nat.zero_add, Int.zero_add, true_and, and_true, and_self, false_and, and_false, or_true, true_or, or_false, false_or, not_true, not_false_iff, decide_eq_true_eq, Bool.not_eq_true, ne_eq, reduceCtorEq, h1, h0', h3', tl_len, hl]
        refine key _ ?_
        unfold near
        rw [if_pos (by omega), if_neg h3]
        omega
  · subst hb
    rw [show ((n : Int) - 0).toNat = n by omega]
    simp -implicitDefEqProofs only [b16_I0, b16_I1, b16_T0, b16_T1, b16_T2, b16_T3, b16_T4, b16, tf, eqE_bl, bbeq_tf, bbeq_ft, beq_self_eq_true, frz, frzAll, srcI, srcVars, srcOk, Option.toList, Option.isSome_none, Option.isSome_some, eqE_int, eq_self, evSs, evS, evE, evEs, evO, evC, evI, bindB_nm, bindB_tp, bindBs_nil, bindBs_cons, bindE_nm, bindE_tp, bindEs_nil, bindEs_cons, wipeE, view, Bd.v, truE, cmpE, gtV, ltV, leV, geV, ltE, isV, isntV, neV, ninV, isNon, biE, intE, lenE, absE, minE, maxE, sumE, tupleE, listE, allE, anyE, itemsOf, binE, modE, fdivE, mulE, addE, subE, negE, powE, asH, asI, asHs, ixE, slE, ownL, putE, fr, asVar, isiE, Turned, List.set_cons_succ, List.set_cons_zero, List.map_cons, List.map_nil, List.getElem?_cons_succ, List.getElem?_cons_zero, Option.map_some, Option.join_some, bind, Option.bind_some, ok_bind, ok_some, ok_map, if_true, if_false, ite_true, ite_false, Bool.and_true, Bool.true_and, Bool.and_false, Bool.false_and, decide_true, decide_false, Bool.false_eq_true, not_true_eq_false, not_false_eq_true, Bool.not_true, Bool.not_false, Bool.or_true, Bool.true_or, Bool.or_false, Bool.false_or, List.length_nil, List.length_cons, Nat.zero_add, Int.zero_add, true_and, and_true, and_self, false_and, and_false, or_true, true_or, or_false, false_or, not_true, not_false_iff, decide_eq_true_eq, Bool.not_eq_true, ne_eq, reduceCtorEq]
/-- the law's own ghost -/
theorem run_lghost (n : Nat) (hn : n ≤ 1000) : runB cf wf ⟨1, 3, b17⟩ [.h (.int n)] = some (.h (if n % 3 = 2 then tf n gh else .non)) := by
  have hs : startE 3 [.h (.int n)] = [some (.im (.h (.int n))), none, none] := rfl
  have hsm : small62 (n : Int) = true := small62_nat (by omega)
  have e0 : (0 : Nat) ≤ sizeLine := Nat.zero_le _
  have e1 : (1 : Nat) ≤ sizeLine := le_line (by omega)
  have l3 : 3 ≤ sizeLine := le_line (by omega)
  have c3 : (0 : Int) < 3 := by decide
  rw [← ok_eq]
  simp -implicitDefEqProofs only [tf, runB, b17_T0, b17_T1, b17, hs, eqE_bl, bbeq_tf, bbeq_ft, beq_self_eq_true, frz, frzAll, srcI, srcVars, srcOk, Option.toList, Option.isSome_none, Option.isSome_some, eqE_int, eq_self, evSs, evS, evE, evEs, evO, evC, evI, bindB_nm, bindB_tp, bindBs_nil, bindBs_cons, bindE_nm, bindE_tp, bindEs_nil, bindEs_cons, wipeE, view, Bd.v, truE, cmpE, gtV, ltV, leV, geV, ltE, isV, isntV, neV, ninV, isNon, biE, intE, lenE, absE, minE, maxE, sumE, tupleE, listE, allE, anyE, itemsOf, binE, modE, fdivE, mulE, addE, subE, negE, powE, asH, asI, asHs, ixE, slE, ownL, putE, fr, asVar, isiE, Turned, List.set_cons_succ, List.set_cons_zero, List.map_cons, List.map_nil, List.getElem?_cons_succ, List.getElem?_cons_zero, Option.map_some, Option.join_some, bind, Option.bind_some, ok_bind, ok_some, ok_map, if_true, if_false, ite_true, ite_false, Bool.and_true, Bool.true_and, Bool.and_false, Bool.false_and, decide_true, decide_false, Bool.false_eq_true, not_true_eq_false, not_false_eq_true, Bool.not_true, Bool.not_false, Bool.or_true, Bool.true_or, Bool.or_false, Bool.false_or, List.length_nil, List.length_cons, Nat.zero_add, Int.zero_add, true_and, and_true, and_self, false_and, and_false, or_true, true_or, or_false, false_or, not_true, not_false_iff, decide_eq_true_eq, Bool.not_eq_true, ne_eq, reduceCtorEq, hsm, e0]
  refine ok_loopR (a := 0) (b := n) (fun i β => ∃ v2, β = [some (.im (.h (.int n))), some (.im (.h (.tup (tl i gh)))), v2]) ⟨none, rfl⟩ (fun i β hi ⟨v2, hb⟩ => ?_) fun β ⟨v2, hb⟩ => ?_
  · subst hb
    have hl : i + 1 ≤ sizeLine := le_line (by omega)
    have e : atI [Dt.int 1, .int (0 - 1), .int 0] ((i : Int) % 3) = some (.int (gh i)) := by
      obtain ⟨m, e1, e2⟩ : ∃ m : Nat, (i : Int) % 3 = (m : Int) ∧ m = i % 3 := ⟨i % 3, by omega, rfl⟩
      rw [e1]
      unfold gh
      rw [← e2]
      have : m = 0 ∨ m = 1 ∨ m = 2 := by omega
      rcases this with rfl | rfl | rfl <;> rfl
    simp -implicitDefEqProofs only [b17_L0, b17_T0, b17_T1, b17, eqE_bl, bbeq_tf, bbeq_ft, beq_self_eq_true, frz, frzAll, srcI, srcVars, srcOk, Option.toList, Option.isSome_none, Option.isSome_some, eqE_int, eq_self, evSs, evS, evE, evEs, evO, evC, evI, bindB_nm, bindB_tp, bindBs_nil, bindBs_cons, bindE_nm, bindE_tp, bindEs_nil, bindEs_cons, wipeE, view, Bd.v, truE, cmpE, gtV, ltV, leV, geV, ltE, isV, isntV, neV, ninV, isNon, biE, intE, lenE, absE, minE, maxE, sumE, tupleE, listE, allE, anyE, itemsOf, binE, modE, fdivE, mulE, addE, subE, negE, powE, asH, asI, asHs, ixE, slE, ownL, putE, fr, asVar, isiE, Turned, List.set_cons_succ, List.set_cons_zero, List.map_cons, List.map_nil, List.getElem?_cons_succ, List.getElem?_cons_zero, Option.map_some, Option.join_some, bind, Option.bind_some, ok_bind, ok_some, ok_map, if_true, if_false, ite_true, ite_false, Bool.and_true, Bool.true_and, Bool.and_false, Bool.false_and, decide_true, decide_false, Bool.false_eq_true, not_true_eq_false, not_false_eq_true, Bool.not_true, Bool.not_false, Bool.or_true, Bool.true_or, Bool.or_false, Bool.false_or, List.length_nil, List.length_cons, Nat.zero_add, Int.zero_add, true_and, and_true, and_self, false_and, and_false, or_true, true_or, or_false, false_or, not_true, not_false_iff, decide_eq_true_eq, Bool.not_eq_true, ne_eq, reduceCtorEq, c3, l3, e, e1, tl_len, hl, ← tl_succ]
    exact ⟨_, rfl⟩
  · subst hb
    rw [show ((n : Int) - 0).toNat = n by omega]
    by_cases h : n % 3 = 2
    · have h2 : (n : Int) % 3 = 2 := by omega
      simp -implicitDefEqProofs only [b17_T0, b17_T1, b17, tf, eqE_bl, bbeq_tf, bbeq_ft, beq_self_eq_true, frz, frzAll, srcI, srcVars, srcOk, Option.toList, Option.isSome_none, Option.isSome_some, eqE_int, eq_self, evSs, evS, evE, evEs, evO, evC, evI, bindB_nm, bindB_tp, bindBs_nil, bindBs_cons, bindE_nm, bindE_tp, bindEs_nil, bindEs_cons, wipeE, view, Bd.v, truE, cmpE, gtV, ltV, leV, geV, ltE, isV, isntV, neV, ninV, isNon, biE, intE, lenE, absE, minE, maxE, sumE, tupleE, listE, allE, anyE, itemsOf, binE, modE, fdivE, mulE, addE, subE, negE, powE, asH, asI, asHs, ixE, slE, ownL, putE, fr, asVar, isiE, Turned, List.set_cons_succ, List.set_cons_zero, List.map_cons, List.map_nil, List.getElem?_cons_succ, List.getElem?_cons_zero, Option.map_some, Option.join_some, bind, Option.bind_some, ok_bind, ok_some, ok_map, if_true, if_false, ite_true, ite_false, Bool.and_true, Bool.true_and, Bool.and_false, Bool.false_and, decide_true, decide_false, Bool.false_eq_true, not_true_eq_false, not_false_eq_true, Bool.not_true, Bool.not_false, Bool.or_true, Bool.true_or, Bool.or_false, Bool.false_or, List.length_nil, List.length_cons, Nat.zero_add, Int.zero_add, true_and, and_true, and_self, false_and, and_false, or_true, true_or, or_false, false_or, not_true, not_false_iff, decide_eq_true_eq, Bool.not_eq_true, ne_eq, reduceCtorEq, c3, h2, h]
    · have h2 : ¬ (n : Int) % 3 = 2 := by omega
      simp -implicitDefEqProofs only [b17_T0, b17_T1, b17, eqE_bl, bbeq_tf, bbeq_ft, beq_self_eq_true, frz, frzAll, srcI, srcVars, srcOk, Option.toList, Option.isSome_none, Option.isSome_some, eqE_int, eq_self, evSs, evS, evE, evEs, evO, evC, evI, bindB_nm, bindB_tp, bindBs_nil, bindBs_cons, bindE_nm, bindE_tp, bindEs_nil, bindEs_cons, wipeE, view, Bd.v, truE, cmpE, gtV, ltV, leV, geV, ltE, isV, isntV, neV, ninV, isNon, biE, intE, lenE, absE, minE, maxE, sumE, tupleE, listE, allE, anyE, itemsOf, binE, modE, fdivE, mulE, addE, subE, negE, powE, asH, asI, asHs, ixE, slE, ownL, putE, fr, asVar, isiE, Turned, List.set_cons_succ, List.set_cons_zero, List.map_cons, List.map_nil, List.getElem?_cons_succ, List.getElem?_cons_zero, Option.map_some, Option.join_some, bind, Option.bind_some, ok_bind, ok_some, ok_map, if_true, if_false, ite_true, ite_false, Bool.and_true, Bool.true_and, Bool.and_false, Bool.false_and, decide_true, decide_false, Bool.false_eq_true, not_true_eq_false, not_false_eq_true, Bool.not_true, Bool.not_false, Bool.or_true, Bool.true_or, Bool.or_false, Bool.false_or, List.length_nil, List.length_cons, Nat.zero_add, Int.zero_add, true_and, and_true, and_self, false_and, and_false, or_true, true_or, or_false, false_or, not_true, not_false_iff, decide_eq_true_eq, Bool.not_eq_true, ne_eq, reduceCtorEq, c3, h2, h]
theorem run_off (n : Nat) (f : Nat → Int) (hn : n ≤ 1000) (h1 : cf 15 [.h (.int n)] = some (.h (if n % 3 = 2 then tf n gh else .non))) : runB cf wf ⟨1, 3, b18⟩ [.h (tf n f)] = some (.h (.int (imb n f))) := by
  have hs : startE 3 [.h (.tup (tl n f))] = [some (.im (.h (.tup (tl n f)))), none, none] := rfl
  have hsm : small62 (n : Int) = true := small62_nat (by omega)
  have hl : ((n : Int) - 0).toNat < sizeLine := lt_line (by omega)
  rw [← ok_eq]
  by_cases h : n % 3 = 2
  · rw [if_pos h] at h1
    simp -implicitDefEqProofs only [runB, b18_I0, b18_T0, b18_T1, b18, hs, eqE_bl, bbeq_tf, bbeq_ft, beq_self_eq_true, frz, frzAll, srcI, srcVars, srcOk, Option.toList, Option.isSome_none, Option.isSome_some, eqE_int, eq_self, evSs, evS, evE, evEs, evO, evC, evI, bindB_nm, bindB_tp, bindBs_nil, bindBs_cons, bindE_nm, bindE_tp, bindEs_nil, bindEs_cons, wipeE, view, Bd.v, truE, cmpE, gtV, ltV, leV, geV, ltE, isV, isntV, neV, ninV, isNon, biE, intE, lenE, absE, minE, maxE, sumE, tupleE, listE, allE, anyE, itemsOf, binE, modE, fdivE, mulE, addE, subE, negE, powE, asH, asI, asHs, ixE, slE, ownL, putE, fr, asVar, isiE, Turned, List.set_cons_succ, List.set_cons_zero, List.map_cons, List.map_nil, List.getElem?_cons_succ, List.getElem?_cons_zero, Option.map_some, Option.join_some, bind, Option.bind_some, ok_bind, ok_some, ok_map, if_true, if_false, ite_true, ite_false, Bool.and_true, Bool.true_and, Bool.and_false, Bool.false_and, decide_true, decide_false, Bool.false_eq_true, not_true_eq_false, not_false_eq_true, Bool.not_true, Bool.not_false, Bool.or_true, Bool.true_or, Bool.or_false, Bool.false_or, List.length_nil, List.length_cons, Nat.zero_add, Int.zero_add, true_and, and_true, and_self, false_and, and_false, or_true, true_or, or_false, false_or, not_true, not_false_iff, decide_eq_true_eq, Bool.not_eq_true, ne_eq, reduceCtorEq, tl_len, h1, tf, hsm]
    refine ok_of (compL_rng0 (fun i => .int (f i * gh i)) n fun i hi => ?_) ?_
    · rw [← ok_eq]
      have hm : mulOk (gh i) (f i) = true := mulOk_l (gh_small i)
      have a1 := atI_tl (f := f) hi
      have a2 := atI_tl (f := gh) hi
      simp -implicitDefEqProofs only [b18_C0, eqE_bl, bbeq_tf, bbeq_ft, beq_self_eq_true, frz, frzAll, srcI, srcVars, srcOk, Option.toList, Option.isSome_none, Option.isSome_some, eqE_int, eq_self, evSs, evS, evE, evEs, evO, evC, evI, bindB_nm, bindB_tp, bindBs_nil, bindBs_cons, bindE_nm, bindE_tp, bindEs_nil, bindEs_cons, wipeE, view, Bd.v, truE, cmpE, gtV, ltV, leV, geV, ltE, isV, isntV, neV, ninV, isNon, biE, intE, lenE, absE, minE, maxE, sumE, tupleE, listE, allE, anyE, itemsOf, binE, modE, fdivE, mulE, addE, subE, negE, powE, asH, asI, asHs, ixE, slE, ownL, putE, fr, asVar, isiE, Turned, List.set_cons_succ, List.set_cons_zero, List.map_cons, List.map_nil, List.getElem?_cons_succ, List.getElem?_cons_zero, Option.map_some, Option.join_some, bind, Option.bind_some, ok_bind, ok_some, ok_map, if_true, if_false, ite_true, ite_false, Bool.and_true, Bool.true_and, Bool.and_false, Bool.false_and, decide_true, decide_false, Bool.false_eq_true, not_true_eq_false, not_false_eq_true, Bool.not_true, Bool.not_false, Bool.or_true, Bool.true_or, Bool.or_false, Bool.false_or, List.length_nil, List.length_cons, Nat.zero_add, Int.zero_add, true_and, and_true, and_self, false_and, and_false, or_true, true_or, or_false, false_or, not_true, not_false_iff, decide_eq_true_eq, Bool.not_eq_true, ne_eq, reduceCtorEq, hm, a1, a2, Int.mul_comm]
    · simp -implicitDefEqProofs only [eqE_bl, bbeq_tf, bbeq_ft, beq_self_eq_true, frz, frzAll, srcI, srcVars, srcOk, Option.toList, Option.isSome_none, Option.isSome_some, eqE_int, eq_self, evSs, evS, evE, evEs, evO, evC, evI, bindB_nm, bindB_tp, bindBs_nil, bindBs_cons, bindE_nm, bindE_tp, bindEs_nil, bindEs_cons, wipeE, view, Bd.v, truE, cmpE, gtV, ltV, leV, geV, ltE, isV, isntV, neV, ninV, isNon, biE, intE, lenE, absE, minE, maxE, sumE, tupleE, listE, allE, anyE, itemsOf, binE, modE, fdivE, mulE, addE, subE, negE, powE, asH, asI, asHs, ixE, slE, ownL, putE, fr, asVar, isiE, Turned, List.set_cons_succ, List.set_cons_zero, List.map_cons, List.map_nil, List.getElem?_cons_succ, List.getElem?_cons_zero, Option.map_some, Option.join_some, bind, Option.bind_some, ok_bind, ok_some, ok_map, if_true, if_false, ite_true, ite_false, Bool.and_true, Bool.true_and, Bool.and_false, Bool.false_and, decide_true, decide_false, Bool.false_eq_true, not_true_eq_false, not_false_eq_true, Bool.not_true, Bool.not_false, Bool.or_true, Bool.true_or, Bool.or_false, Bool.false_or, List.length_nil, List.length_cons, Nat.zero_add, Int.zero_add, true_and, and_true, and_self, false_and, and_false, or_true, true_or, or_false, false_or, not_true, not_false_iff, decide_eq_true_eq, Bool.not_eq_true, ne_eq, reduceCtorEq, rngD_len', hl, asInts_fn, sum_range, imb, h]
  · rw [if_neg h] at h1
    simp -implicitDefEqProofs only [tf, runB, b18_I0, b18_T0, b18_T1, b18, hs, eqE_bl, bbeq_tf, bbeq_ft, beq_self_eq_true, frz, frzAll, srcI, srcVars, srcOk, Option.toList, Option.isSome_none, Option.isSome_some, eqE_int, eq_self, evSs, evS, evE, evEs, evO, evC, evI, bindB_nm, bindB_tp, bindBs_nil, bindBs_cons, bindE_nm, bindE_tp, bindEs_nil, bindEs_cons, wipeE, view, Bd.v, truE, cmpE, gtV, ltV, leV, geV, ltE, isV, isntV, neV, ninV, isNon, biE, intE, lenE, absE, minE, maxE, sumE, tupleE, listE, allE, anyE, itemsOf, binE, modE, fdivE, mulE, addE, subE, negE, powE, asH, asI, asHs, ixE, slE, ownL, putE, fr, asVar, isiE, Turned, List.set_cons_succ, List.set_cons_zero, List.map_cons, List.map_nil, List.getElem?_cons_succ, List.getElem?_cons_zero, Option.map_some, Option.join_some, bind, Option.bind_some, ok_bind, ok_some, ok_map, if_true, if_false, ite_true, ite_false, Bool.and_true, Bool.true_and, Bool.and_false, Bool.false_and, decide_true, decide_false, Bool.false_eq_true, not_true_eq_false, not_false_eq_true, Bool.not_true, Bool.not_false, Bool.or_true, Bool.true_or, Bool.or_false, Bool.false_or, List.length_nil, List.length_cons, Nat.zero_add, Int.zero_add, true_and, and_true, and_self, false_and, and_false, or_true, true_or, or_false, false_or, not_true, not_false_iff, decide_eq_true_eq, Bool.not_eq_true, ne_eq, reduceCtorEq, tl_len, h1, imb, h]
/-- what lies behind sums and a first item -/
def beh (s : Nat → Int) (a : Int) : Nat → Int
  | 0 => a
  | 1 => s 0 - a
  | i + 2 => s (i + 1) - beh s a (i + 1) - beh s a i
theorem run_beh (n : Nat) (s : Nat → Int) (a : Int) (hn : n ≤ 1000) (h0 : 0 < n) : runB cf wf ⟨2, 4, b4⟩ [.h (tf n s), .h (.int a)] = some (.l (tl (n + 1) (beh s a))) := by
  have hs : startE 4 [.h (.tup (tl n s)), .h (.int a)] = [some (.im (.h (.tup (tl n s)))), some (.im (.h (.int a))), none, none] := rfl
  have hsm : small62 (n : Int) = true := small62_nat (by omega)
  have hs1 : small62 (1 : Int) = true := by decide
  have e2 : (2 : Nat) ≤ sizeLine := le_line (by omega)
  have h1 : atI (tl n s) 0 = some (.int (s 0)) := atI_tl (i := 0) h0
  rw [← ok_eq]
  simp -implicitDefEqProofs only [tf, runB, b4_T0, b4_T1, b4, hs, eqE_bl, bbeq_tf, bbeq_ft, beq_self_eq_true, frz, frzAll, srcI, srcVars, srcOk, Option.toList, Option.isSome_none, Option.isSome_some, eqE_int, eq_self, evSs, evS, evE, evEs, evO, evC, evI, bindB_nm, bindB_tp, bindBs_nil, bindBs_cons, bindE_nm, bindE_tp, bindEs_nil, bindEs_cons, wipeE, view, Bd.v, truE, cmpE, gtV, ltV, leV, geV, ltE, isV, isntV, neV, ninV, isNon, biE, intE, lenE, absE, minE, maxE, sumE, tupleE, listE, allE, anyE, itemsOf, binE, modE, fdivE, mulE, addE, subE, negE, powE, asH, asI, asHs, ixE, slE, ownL, putE, fr, asVar, isiE, Turned, List.set_cons_succ, List.set_cons_zero, List.map_cons, List.map_nil, List.getElem?_cons_succ, List.getElem?_cons_zero, Option.map_some, Option.join_some, bind, Option.bind_some, ok_bind, ok_some, ok_map, if_true, if_false, ite_true, ite_false, Bool.and_true, Bool.true_and, Bool.and_false, Bool.false_and, decide_true, decide_false, Bool.false_eq_true, not_true_eq_false, not_false_eq_true, Bool.not_true, Bool.not_false, Bool.or_true, Bool.true_or, Bool.or_false, Bool.false_or, List.length_nil, List.length_cons, Nat.zero_add, Int.zero_add, true_and, and_true, and_self, false_and, and_false, or_true, true_or, or_false, false_or, not_true, not_false_iff, decide_eq_true_eq, Bool.not_eq_true, ne_eq, reduceCtorEq, tl_len, hsm, hs1, h1, e2]
  refine ok_loopR (a := 1) (b := n) (fun i β => ∃ v3, β = [some (.im (.h (.tup (tl n s)))), some (.im (.h (.int a))), some (.ow (.l (tl (i + 2) (beh s a)))), v3]) ⟨none, rfl⟩ (fun i β hi ⟨v3, hb⟩ => ?_) fun β ⟨v3, hb⟩ => ?_
  · subst hb
    have hl : i + 2 < sizeLine := lt_line (by omega)
    have a1 := atI_tl (n := n) (i := i + 1) (f := s) (by omega)
    have a2 := atI_tl (n := i + 2) (i := i + 1) (f := beh s a) (by omega)
    have a3 := atI_tl (n := i + 2) (i := i) (f := beh s a) (by omega)
    rw [show ((i + 1 : Nat) : Int) = 1 + (i : Int) by omega] at a1 a2
    have e3 : (1 + (i : Int) - 1) = (i : Int) := by omega
    simp -implicitDefEqProofs only [b4_L0, eqE_bl, bbeq_tf, bbeq_ft, beq_self_eq_true, frz, frzAll, srcI, srcVars, srcOk, Option.toList, Option.isSome_none, Option.isSome_some, eqE_int, eq_self, evSs, evS, evE, evEs, evO, evC, evI, bindB_nm, bindB_tp, bindBs_nil, bindBs_cons, bindE_nm, bindE_tp, bindEs_nil, bindEs_cons, wipeE, view, Bd.v, truE, cmpE, gtV, ltV, leV, geV, ltE, isV, isntV, neV, ninV, isNon, biE, intE, lenE, absE, minE, maxE, sumE, tupleE, listE, allE, anyE, itemsOf, binE, modE, fdivE, mulE, addE, subE, negE, powE, asH, asI, asHs, ixE, slE, ownL, putE, fr, asVar, isiE, Turned, List.set_cons_succ, List.set_cons_zero, List.map_cons, List.map_nil, List.getElem?_cons_succ, List.getElem?_cons_zero, Option.map_some, Option.join_some, bind, Option.bind_some, ok_bind, ok_some, ok_map, if_true, if_false, ite_true, ite_false, Bool.and_true, Bool.true_and, Bool.and_false, Bool.false_and, decide_true, decide_false, Bool.false_eq_true, not_true_eq_false, not_false_eq_true, Bool.not_true, Bool.not_false, Bool.or_true, Bool.true_or, Bool.or_false, Bool.false_or, List.length_nil, List.length_cons, Nat.zero_add, Int.zero_add, true_and, and_true, and_self, false_and, and_false, or_true, true_or, or_false, false_or, not_true, not_false_iff, decide_eq_true_eq, Bool.not_eq_true, ne_eq, reduceCtorEq, a1, a2, e3, a3, tl_len, hl]
    exact ⟨some (.im (.h (.int (1 + i)))), by rw [tl_succ (i + 2)]; rfl⟩
  · subst hb
    simp -implicitDefEqProofs only [b4_T0, b4_T1, b4, eqE_bl, bbeq_tf, bbeq_ft, beq_self_eq_true, frz, frzAll, srcI, srcVars, srcOk, Option.toList, Option.isSome_none, Option.isSome_some, eqE_int, eq_self, evSs, evS, evE, evEs, evO, evC, evI, bindB_nm, bindB_tp, bindBs_nil, bindBs_cons, bindE_nm, bindE_tp, bindEs_nil, bindEs_cons, wipeE, view, Bd.v, truE, cmpE, gtV, ltV, leV, geV, ltE, isV, isntV, neV, ninV, isNon, biE, intE, lenE, absE, minE, maxE, sumE, tupleE, listE, allE, anyE, itemsOf, binE, modE, fdivE, mulE, addE, subE, negE, powE, asH, asI, asHs, ixE, slE, ownL, putE, fr, asVar, isiE, Turned, List.set_cons_succ, List.set_cons_zero, List.map_cons, List.map_nil, List.getElem?_cons_succ, List.getElem?_cons_zero, Option.map_some, Option.join_some, bind, Option.bind_some, ok_bind, ok_some, ok_map, if_true, if_false, ite_true, ite_false, Bool.and_true, Bool.true_and, Bool.and_false, Bool.false_and, decide_true, decide_false, Bool.false_eq_true, not_true_eq_false, not_false_eq_true, Bool.not_true, Bool.not_false, Bool.or_true, Bool.true_or, Bool.or_false, Bool.false_or, List.length_nil, List.length_cons, Nat.zero_add, Int.zero_add, true_and, and_true, and_self, false_and, and_false, or_true, true_or, or_false, false_or, not_true, not_false_iff, decide_eq_true_eq, Bool.not_eq_true, ne_eq, reduceCtorEq]
    rw [show ((n : Int) - 1).toNat + 2 = n + 1 by omega]
/-- the items told from sums -/
def fst (n : Nat) (s : Nat → Int) : Int := if beh s 0 n = 0 then 0 else beh s 0 n * (beh s 0 n - beh s 1 n)
def told (n : Nat) (s : Nat → Int) : Nat → Int := beh s (fst n s)
end
theorem run_told {cf : Nat → List Vl → Option Vl} {wf : Nat} (n : Nat) (s : Nat → Int) (hn : n ≤ 1000) (h0 : 0 < n) (h2 : cf 2 [.h (tf n s)] = some (.h (.int (imb n s)))) (h3 : ∀ a, cf 3 [.h (tf n s), .h (.int a)] = some (.l (tl (n + 1) (beh s a))))
    (hm : mulOk (beh s 0 n) (beh s 0 n - beh s 1 n) = true) : runB cf wf ⟨1, 3, b5⟩ [.h (tf n s)] = some (.h (if imb n s = 0 then tf n (told n s) else .non)) := by
  have hs : startE 3 [.h (tf n s)] = [some (.im (.h (tf n s))), none, none] := rfl
  have hc : ∀ f : Nat → Int, cutD (tl (n + 1) f) none (some (-1)) = tl n f := fun f => by
    unfold cutD
    have e : HT.sIx (tl (n + 1) f).length (tl (n + 1) f).length (some (-1)) = n := by
      rw [tl_len]
      show (if (-1 : Int) < 0 then (-1 + ((n + 1 : Nat) : Int)).toNat else min (-1 : Int).toNat (n + 1)) = n
      rw [if_pos (by decide)]
      omega
    rw [e, HT.sIx_none]
    exact (cut_fn _ (n + 1) 0 n (by omega)).trans (by unfold tl; simp)
  rw [← ok_eq]
  by_cases h : imb n s = 0
  · by_cases hb : beh s 0 n = 0
    · simp -implicitDefEqProofs only [runB, b5_I0, b5_I1, b5_T0, b5_T1, b5_T2, b5_T3, b5, hs, eqE_bl, bbeq_tf, bbeq_ft, beq_self_eq_true, frz, frzAll, srcI, srcVars, srcOk, Option.toList, Option.isSome_none, Option.isSome_some, eqE_int, eq_self, evSs, evS, evE, evEs, evO, evC, evI, bindB_nm, bindB_tp, bindBs_nil, bindBs_cons, bindE_nm, bindE_tp, bindEs_nil, bindEs_cons, wipeE, view, Bd.v, truE, cmpE, gtV, ltV, leV, geV, ltE, isV, isntV, neV, ninV, isNon, biE, intE, lenE, absE, minE, maxE, sumE, tupleE, listE, allE, anyE, itemsOf, binE, modE, fdivE, mulE, addE, subE, negE, powE, asH, asI, asHs, ixE, slE, ownL, putE, fr, asVar, isiE, Turned, List.set_cons_succ, List.set_cons_zero, List.map_cons, List.map_nil, List.getElem?_cons_succ, List.getElem?_cons_zero, Option.map_some, Option.join_some, bind, Option.bind_some, ok_bind, ok_some, ok_map, if_true, if_false, ite_true, ite_false, Bool.and_true, Bool.true_and, Bool.and_false, Bool.false_and, decide_true, decide_false, Bool.false_eq_true, not_true_eq_false, not_false_eq_true, Bool.not_true, Bool.not_false, Bool.or_true, Bool.true_or, Bool.or_false, Bool.false_or, List.length_nil, List.length_cons, Nat.zero_add, Int.zero_add, true_and, and_true, and_self, false_and, and_false, or_true, true_or, or_false, false_or, not_true, not_false_iff, decide_eq_true_eq, Bool.not_eq_true, ne_eq, reduceCtorEq, h2, h3, h, atI_tl_last, hb, hc]
      unfold told fst tf
      rw [if_pos hb]
    · simp -implicitDefEqProofs only [runB, b5_I0, b5_I1, b5_T0, b5_T1, b5_T2, b5_T3, b5, hs, eqE_bl, bbeq_tf, bbeq_ft, beq_self_eq_true, frz, frzAll, srcI, srcVars, srcOk, Option.toList, Option.isSome_none, Option.isSome_some, eqE_int, eq_self, evSs, evS, evE, evEs, evO, evC, evI, bindB_nm, bindB_tp, bindBs_nil, bindBs_cons, bindE_nm, bindE_tp, bindEs_nil, bindEs_cons, wipeE, view, Bd.v, truE, cmpE, gtV, ltV, leV, geV, ltE, isV, isntV, neV, ninV, isNon, biE, intE, lenE, absE, minE, maxE, sumE, tupleE, listE, allE, anyE, itemsOf, binE, modE, fdivE, mulE, addE, subE, negE, powE, asH, asI, asHs, ixE, slE, ownL, putE, fr, asVar, isiE, Turned, List.set_cons_succ, List.set_cons_zero, List.map_cons, List.map_nil, List.getElem?_cons_succ, List.getElem?_cons_zero, Option.map_some, Option.join_some, bind, Option.bind_some, ok_bind, ok_some, ok_map, if_true, if_false, ite_true, ite_false, Bool.and_true, Bool.true_and, Bool.and_false, Bool.false_and, decide_true, decide_false, Bool.false_eq_true, not_true_eq_false, not_false_eq_true, Bool.not_true, Bool.not_false, Bool.or_true, Bool.true_or, Bool.or_false, Bool.false_or, List.length_nil, List.length_cons, Nat.zero_add, Int.zero_add, true_and, and_true, and_self, false_and, and_false, or_true, true_or, or_false, false_or, not_true, not_false_iff, decide_eq_true_eq, Bool.not_eq_true, ne_eq, reduceCtorEq, h2, h3, h, atI_tl_last, hb, hm, hc]
      unfold told fst tf
      rw [if_neg hb]
  · simp -implicitDefEqProofs only [runB, b5_I0, b5_I1, b5_T0, b5_T1, b5_T2, b5_T3, b5, hs, eqE_bl, bbeq_tf, bbeq_ft, beq_self_eq_true, frz, frzAll, srcI, srcVars, srcOk, Option.toList, Option.isSome_none, Option.isSome_some, eqE_int, eq_self, evSs, evS, evE, evEs, evO, evC, evI, bindB_nm, bindB_tp, bindBs_nil, bindBs_cons, bindE_nm, bindE_tp, bindEs_nil, bindEs_cons, wipeE, view, Bd.v, truE, cmpE, gtV, ltV, leV, geV, ltE, isV, isntV, neV, ninV, isNon, biE, intE, lenE, absE, minE, maxE, sumE, tupleE, listE, allE, anyE, itemsOf, binE, modE, fdivE, mulE, addE, subE, negE, powE, asH, asI, asHs, ixE, slE, ownL, putE, fr, asVar, isiE, Turned, List.set_cons_succ, List.set_cons_zero, List.map_cons, List.map_nil, List.getElem?_cons_succ, List.getElem?_cons_zero, Option.map_some, Option.join_some, bind, Option.bind_some, ok_bind, ok_some, ok_map, if_true, if_false, ite_true, ite_false, Bool.and_true, Bool.true_and, Bool.and_false, Bool.false_and, decide_true, decide_false, Bool.false_eq_true, not_true_eq_false, not_false_eq_true, Bool.not_true, Bool.not_false, Bool.or_true, Bool.true_or, Bool.or_false, Bool.false_or, List.length_nil, List.length_cons, Nat.zero_add, Int.zero_add, true_and, and_true, and_self, false_and, and_false, or_true, true_or, or_false, false_or, not_true, not_false_iff, decide_eq_true_eq, Bool.not_eq_true, ne_eq, reduceCtorEq, h2, h]
section
variable {cf : Nat → List Vl → Option Vl} {wf : Nat}
theorem run_side (h w : Nat) (F : Nat → Nat → Int) (hh : h ≤ 1000) (hw : w ≤ 1000) (h0 : 0 < h) : runB cf wf ⟨1, 3, b6⟩ [.h (bf h w F)] = some (.h (bf w h fun j i => F i j)) := by
  have hs : startE 3 [.h (.tup (bl h w F))] = [some (.im (.h (.tup (bl h w F)))), none, none] := rfl
  have hsm : small62 (w : Int) = true := small62_nat (by omega)
  have h1 : atI (bl h w F) 0 = some (tf w (F 0)) := atI_bl (i := 0) h0
  have hl : ((w : Int) - 0).toNat < sizeLine := lt_line (by omega)
  have hl2 : h < sizeLine := lt_line (by omega)
  rw [← ok_eq]
  simp -implicitDefEqProofs only [bf, runB, b6, hs, eqE_bl, bbeq_tf, bbeq_ft, beq_self_eq_true, frz, frzAll, srcI, srcVars, srcOk, Option.toList, Option.isSome_none, Option.isSome_some, eqE_int, eq_self, evSs, evS, evE, evEs, evO, evC, evI, bindB_nm, bindB_tp, bindBs_nil, bindBs_cons, bindE_nm, bindE_tp, bindEs_nil, bindEs_cons, wipeE, view, Bd.v, truE, cmpE, gtV, ltV, leV, geV, ltE, isV, isntV, neV, ninV, isNon, biE, intE, lenE, absE, minE, maxE, sumE, tupleE, listE, allE, anyE, itemsOf, binE, modE, fdivE, mulE, addE, subE, negE, powE, asH, asI, asHs, ixE, slE, ownL, putE, fr, asVar, isiE, Turned, List.set_cons_succ, List.set_cons_zero, List.map_cons, List.map_nil, List.getElem?_cons_succ, List.getElem?_cons_zero, Option.map_some, Option.join_some, bind, Option.bind_some, ok_bind, ok_some, ok_map, if_true, if_false, ite_true, ite_false, Bool.and_true, Bool.true_and, Bool.and_false, Bool.false_and, decide_true, decide_false, Bool.false_eq_true, not_true_eq_false, not_false_eq_true, Bool.not_true, Bool.not_false, Bool.or_true, Bool.true_or, Bool.or_false, Bool.false_or, List.length_nil, List.length_cons, Nat.zero_add, Int.zero_add, true_and, and_true, and_self, false_and, and_false, or_true, true_or, or_false, false_or, not_true, not_false_iff, decide_eq_true_eq, Bool.not_eq_true, ne_eq, reduceCtorEq, h1, tf, tl_len, hsm]
  refine ok_of (compL_rng0 (fun j => tf h fun i => F i j) w fun j hj => ?_) ?_
  · rw [← ok_eq]
    simp -implicitDefEqProofs only [b6_C1, eqE_bl, bbeq_tf, bbeq_ft, beq_self_eq_true, frz, frzAll, srcI, srcVars, srcOk, Option.toList, Option.isSome_none, Option.isSome_some, eqE_int, eq_self, evSs, evS, evE, evEs, evO, evC, evI, bindB_nm, bindB_tp, bindBs_nil, bindBs_cons, bindE_nm, bindE_tp, bindEs_nil, bindEs_cons, wipeE, view, Bd.v, truE, cmpE, gtV, ltV, leV, geV, ltE, isV, isntV, neV, ninV, isNon, biE, intE, lenE, absE, minE, maxE, sumE, tupleE, listE, allE, anyE, itemsOf, binE, modE, fdivE, mulE, addE, subE, negE, powE, asH, asI, asHs, ixE, slE, ownL, putE, fr, asVar, isiE, Turned, List.set_cons_succ, List.set_cons_zero, List.map_cons, List.map_nil, List.getElem?_cons_succ, List.getElem?_cons_zero, Option.map_some, Option.join_some, bind, Option.bind_some, ok_bind, ok_some, ok_map, if_true, if_false, ite_true, ite_false, Bool.and_true, Bool.true_and, Bool.and_false, Bool.false_and, decide_true, decide_false, Bool.false_eq_true, not_true_eq_false, not_false_eq_true, Bool.not_true, Bool.not_false, Bool.or_true, Bool.true_or, Bool.or_false, Bool.false_or, List.length_nil, List.length_cons, Nat.zero_add, Int.zero_add, true_and, and_true, and_self, false_and, and_false, or_true, true_or, or_false, false_or, not_true, not_false_iff, decide_eq_true_eq, Bool.not_eq_true, ne_eq, reduceCtorEq, bl]
    refine ok_of (compL_fn (fun i => .int (F i j)) fun i hi => ?_) ?_
    · rw [← ok_eq]
      have a1 := atI_tl (f := F i) hj
      simp -implicitDefEqProofs only [b6_C0, eqE_bl, bbeq_tf, bbeq_ft, beq_self_eq_true, frz, frzAll, srcI, srcVars, srcOk, Option.toList, Option.isSome_none, Option.isSome_some, eqE_int, eq_self, evSs, evS, evE, evEs, evO, evC, evI, bindB_nm, bindB_tp, bindBs_nil, bindBs_cons, bindE_nm, bindE_tp, bindEs_nil, bindEs_cons, wipeE, view, Bd.v, truE, cmpE, gtV, ltV, leV, geV, ltE, isV, isntV, neV, ninV, isNon, biE, intE, lenE, absE, minE, maxE, sumE, tupleE, listE, allE, anyE, itemsOf, binE, modE, fdivE, mulE, addE, subE, negE, powE, asH, asI, asHs, ixE, slE, ownL, putE, fr, asVar, isiE, Turned, List.set_cons_succ, List.set_cons_zero, List.map_cons, List.map_nil, List.getElem?_cons_succ, List.getElem?_cons_zero, Option.map_some, Option.join_some, bind, Option.bind_some, ok_bind, ok_some, ok_map, if_true, if_false, ite_true, ite_false, Bool.and_true, Bool.true_and, Bool.and_false, Bool.false_and, decide_true, decide_false, Bool.false_eq_true, not_true_eq_false, not_false_eq_true, Bool.not_true, Bool.not_false, Bool.or_true, Bool.true_or, Bool.or_false, Bool.false_or, List.length_nil, List.length_cons, Nat.zero_add, Int.zero_add, true_and, and_true, and_self, false_and, and_false, or_true, true_or, or_false, false_or, not_true, not_false_iff, decide_eq_true_eq, Bool.not_eq_true, ne_eq, reduceCtorEq, tf, a1]
    · simp -implicitDefEqProofs only [eqE_bl, bbeq_tf, bbeq_ft, beq_self_eq_true, frz, frzAll, srcI, srcVars, srcOk, Option.toList, Option.isSome_none, Option.isSome_some, eqE_int, eq_self, evSs, evS, evE, evEs, evO, evC, evI, bindB_nm, bindB_tp, bindBs_nil, bindBs_cons, bindE_nm, bindE_tp, bindEs_nil, bindEs_cons, wipeE, view, Bd.v, truE, cmpE, gtV, ltV, leV, geV, ltE, isV, isntV, neV, ninV, isNon, biE, intE, lenE, absE, minE, maxE, sumE, tupleE, listE, allE, anyE, itemsOf, binE, modE, fdivE, mulE, addE, subE, negE, powE, asH, asI, asHs, ixE, slE, ownL, putE, fr, asVar, isiE, Turned, List.set_cons_succ, List.set_cons_zero, List.map_cons, List.map_nil, List.getElem?_cons_succ, List.getElem?_cons_zero, Option.map_some, Option.join_some, bind, Option.bind_some, ok_bind, ok_some, ok_map, if_true, if_false, ite_true, ite_false, Bool.and_true, Bool.true_and, Bool.and_false, Bool.false_and, decide_true, decide_false, Bool.false_eq_true, not_true_eq_false, not_false_eq_true, Bool.not_true, Bool.not_false, Bool.or_true, Bool.true_or, Bool.or_false, Bool.false_or, List.length_nil, List.length_cons, Nat.zero_add, Int.zero_add, true_and, and_true, and_self, false_and, and_false, or_true, true_or, or_false, false_or, not_true, not_false_iff, decide_eq_true_eq, Bool.not_eq_true, ne_eq, reduceCtorEq, List.length_map, List.length_range, hl2]
      rfl
  · simp -implicitDefEqProofs only [eqE_bl, bbeq_tf, bbeq_ft, beq_self_eq_true, frz, frzAll, srcI, srcVars, srcOk, Option.toList, Option.isSome_none, Option.isSome_some, eqE_int, eq_self, evSs, evS, evE, evEs, evO, evC, evI, bindB_nm, bindB_tp, bindBs_nil, bindBs_cons, bindE_nm, bindE_tp, bindEs_nil, bindEs_cons, wipeE, view, Bd.v, truE, cmpE, gtV, ltV, leV, geV, ltE, isV, isntV, neV, ninV, isNon, biE, intE, lenE, absE, minE, maxE, sumE, tupleE, listE, allE, anyE, itemsOf, binE, modE, fdivE, mulE, addE, subE, negE, powE, asH, asI, asHs, ixE, slE, ownL, putE, fr, asVar, isiE, Turned, List.set_cons_succ, List.set_cons_zero, List.map_cons, List.map_nil, List.getElem?_cons_succ, List.getElem?_cons_zero, Option.map_some, Option.join_some, bind, Option.bind_some, ok_bind, ok_some, ok_map, if_true, if_false, ite_true, ite_false, Bool.and_true, Bool.true_and, Bool.and_false, Bool.false_and, decide_true, decide_false, Bool.false_eq_true, not_true_eq_false, not_false_eq_true, Bool.not_true, Bool.not_false, Bool.or_true, Bool.true_or, Bool.or_false, Bool.false_or, List.length_nil, List.length_cons, Nat.zero_add, Int.zero_add, true_and, and_true, and_self, false_and, and_false, or_true, true_or, or_false, false_or, not_true, not_false_iff, decide_eq_true_eq, Bool.not_eq_true, ne_eq, reduceCtorEq, rngD_len', hl]
    rfl
theorem run_bnear (h w : Nat) (F : Nat → Nat → Int) (hh : h ≤ 1000) (hw : w ≤ 1000) (h0 : 0 < h) (w0 : 0 < w) (c0 : ∀ n f, n ≤ 1000 → cf 0 [.h (tf n f)] = some (.h (tf n (near n f)))) (c5 : ∀ h w F, h ≤ 1000 → w ≤ 1000 → 0 < h → cf 5 [.h (bf h w F)] = some (.h (bf w h fun j i => F i j))) :
    runB cf wf ⟨1, 3, b7⟩ [.h (bf h w F)] = some (.h (bf h w fun i j => near h (fun k => near w (F k) j) i)) := by
  have hs : startE 3 [.h (.tup (bl h w F))] = [some (.im (.h (.tup (bl h w F)))), none, none] := rfl
  have hl : h < sizeLine := lt_line (by omega)
  have hl2 : w < sizeLine := lt_line (by omega)
  rw [← ok_eq]
  simp -implicitDefEqProofs only [bf, runB, b7_T0, b7, hs, eqE_bl, bbeq_tf, bbeq_ft, beq_self_eq_true, frz, frzAll, srcI, srcVars, srcOk, Option.toList, Option.isSome_none, Option.isSome_some, eqE_int, eq_self, evSs, evS, evE, evEs, evO, evC, evI, bindB_nm, bindB_tp, bindBs_nil, bindBs_cons, bindE_nm, bindE_tp, bindEs_nil, bindEs_cons, wipeE, view, Bd.v, truE, cmpE, gtV, ltV, leV, geV, ltE, isV, isntV, neV, ninV, isNon, biE, intE, lenE, absE, minE, maxE, sumE, tupleE, listE, allE, anyE, itemsOf, binE, modE, fdivE, mulE, addE, subE, negE, powE, asH, asI, asHs, ixE, slE, ownL, putE, fr, asVar, isiE, Turned, List.set_cons_succ, List.set_cons_zero, List.map_cons, List.map_nil, List.getElem?_cons_succ, List.getElem?_cons_zero, Option.map_some, Option.join_some, bind, Option.bind_some, ok_bind, ok_some, ok_map, if_true, if_false, ite_true, ite_false, Bool.and_true, Bool.true_and, Bool.and_false, Bool.false_and, decide_true, decide_false, Bool.false_eq_true, not_true_eq_false, not_false_eq_true, Bool.not_true, Bool.not_false, Bool.or_true, Bool.true_or, Bool.or_false, Bool.false_or, List.length_nil, List.length_cons, Nat.zero_add, Int.zero_add, true_and, and_true, and_self, false_and, and_false, or_true, true_or, or_false, false_or, not_true, not_false_iff, decide_eq_true_eq, Bool.not_eq_true, ne_eq, reduceCtorEq]
  refine ok_of (compL_fn (n := h) (e := fun i => tf w (F i)) (fun i => tf w (near w (F i))) fun i hi => ?_) ?_
  · rw [← ok_eq]
    simp -implicitDefEqProofs only [b7_C0, eqE_bl, bbeq_tf, bbeq_ft, beq_self_eq_true, frz, frzAll, srcI, srcVars, srcOk, Option.toList, Option.isSome_none, Option.isSome_some, eqE_int, eq_self, evSs, evS, evE, evEs, evO, evC, evI, bindB_nm, bindB_tp, bindBs_nil, bindBs_cons, bindE_nm, bindE_tp, bindEs_nil, bindEs_cons, wipeE, view, Bd.v, truE, cmpE, gtV, ltV, leV, geV, ltE, isV, isntV, neV, ninV, isNon, biE, intE, lenE, absE, minE, maxE, sumE, tupleE, listE, allE, anyE, itemsOf, binE, modE, fdivE, mulE, addE, subE, negE, powE, asH, asI, asHs, ixE, slE, ownL, putE, fr, asVar, isiE, Turned, List.set_cons_succ, List.set_cons_zero, List.map_cons, List.map_nil, List.getElem?_cons_succ, List.getElem?_cons_zero, Option.map_some, Option.join_some, bind, Option.bind_some, ok_bind, ok_some, ok_map, if_true, if_false, ite_true, ite_false, Bool.and_true, Bool.true_and, Bool.and_false, Bool.false_and, decide_true, decide_false, Bool.false_eq_true, not_true_eq_false, not_false_eq_true, Bool.not_true, Bool.not_false, Bool.or_true, Bool.true_or, Bool.or_false, Bool.false_or, List.length_nil, List.length_cons, Nat.zero_add, Int.zero_add, true_and, and_true, and_self, false_and, and_false, or_true, true_or, or_false, false_or, not_true, not_false_iff, decide_eq_true_eq, Bool.not_eq_true, ne_eq, reduceCtorEq, c0 _ _ hw]
  · simp -implicitDefEqProofs only [b7_T0, b7, eqE_bl, bbeq_tf, bbeq_ft, beq_self_eq_true, frz, frzAll, srcI, srcVars, srcOk, Option.toList, Option.isSome_none, Option.isSome_some, eqE_int, eq_self, evSs, evS, evE, evEs, evO, evC, evI, bindB_nm, bindB_tp, bindBs_nil, bindBs_cons, bindE_nm, bindE_tp, bindEs_nil, bindEs_cons, wipeE, view, Bd.v, truE, cmpE, gtV, ltV, leV, geV, ltE, isV, isntV, neV, ninV, isNon, biE, intE, lenE, absE, minE, maxE, sumE, tupleE, listE, allE, anyE, itemsOf, binE, modE, fdivE, mulE, addE, subE, negE, powE, asH, asI, asHs, ixE, slE, ownL, putE, fr, asVar, isiE, Turned, List.set_cons_succ, List.set_cons_zero, List.map_cons, List.map_nil, List.getElem?_cons_succ, List.getElem?_cons_zero, Option.map_some, Option.join_some, bind, Option.bind_some, ok_bind, ok_some, ok_map, if_true, if_false, ite_true, ite_false, Bool.and_true, Bool.true_and, Bool.and_false, Bool.false_and, decide_true, decide_false, Bool.false_eq_true, not_true_eq_false, not_false_eq_true, Bool.not_true, Bool.not_false, Bool.or_true, Bool.true_or, Bool.or_false, Bool.false_or, List.length_nil, List.length_cons, Nat.zero_add, Int.zero_add, true_and, and_true, and_self, false_and, and_false, or_true, true_or, or_false, false_or, not_true, not_false_iff, decide_eq_true_eq, Bool.not_eq_true, ne_eq, reduceCtorEq, bl_len, hl]
    have e := c5 h w (fun i => near w (F i)) hh hw h0
    unfold bf bl at e
    simp -implicitDefEqProofs only [eqE_bl, bbeq_tf, bbeq_ft, beq_self_eq_true, frz, frzAll, srcI, srcVars, srcOk, Option.toList, Option.isSome_none, Option.isSome_some, eqE_int, eq_self, evSs, evS, evE, evEs, evO, evC, evI, bindB_nm, bindB_tp, bindBs_nil, bindBs_cons, bindE_nm, bindE_tp, bindEs_nil, bindEs_cons, wipeE, view, Bd.v, truE, cmpE, gtV, ltV, leV, geV, ltE, isV, isntV, neV, ninV, isNon, biE, intE, lenE, absE, minE, maxE, sumE, tupleE, listE, allE, anyE, itemsOf, binE, modE, fdivE, mulE, addE, subE, negE, powE, asH, asI, asHs, ixE, slE, ownL, putE, fr, asVar, isiE, Turned, List.set_cons_succ, List.set_cons_zero, List.map_cons, List.map_nil, List.getElem?_cons_succ, List.getElem?_cons_zero, Option.map_some, Option.join_some, bind, Option.bind_some, ok_bind, ok_some, ok_map, if_true, if_false, ite_true, ite_false, Bool.and_true, Bool.true_and, Bool.and_false, Bool.false_and, decide_true, decide_false, Bool.false_eq_true, not_true_eq_false, not_false_eq_true, Bool.not_true, Bool.not_false, Bool.or_true, Bool.true_or, Bool.or_false, Bool.false_or, List.length_nil, List.length_cons, Nat.zero_add, Int.zero_add, true_and, and_true, and_self, false_and, and_false, or_true, true_or, or_false, false_or, not_true, not_false_iff, decide_eq_true_eq, Bool.not_eq_true, ne_eq, reduceCtorEq, e]
    refine ok_of (compL_fn (fun j => tf h (near h fun i => near w (F i) j)) fun j hj => ?_) ?_
    · rw [← ok_eq]
      simp -implicitDefEqProofs only [b7_C1, eqE_bl, bbeq_tf, bbeq_ft, beq_self_eq_true, frz, frzAll, srcI, srcVars, srcOk, Option.toList, Option.isSome_none, Option.isSome_some, eqE_int, eq_self, evSs, evS, evE, evEs, evO, evC, evI, bindB_nm, bindB_tp, bindBs_nil, bindBs_cons, bindE_nm, bindE_tp, bindEs_nil, bindEs_cons, wipeE, view, Bd.v, truE, cmpE, gtV, ltV, leV, geV, ltE, isV, isntV, neV, ninV, isNon, biE, intE, lenE, absE, minE, maxE, sumE, tupleE, listE, allE, anyE, itemsOf, binE, modE, fdivE, mulE, addE, subE, negE, powE, asH, asI, asHs, ixE, slE, ownL, putE, fr, asVar, isiE, Turned, List.set_cons_succ, List.set_cons_zero, List.map_cons, List.map_nil, List.getElem?_cons_succ, List.getElem?_cons_zero, Option.map_some, Option.join_some, bind, Option.bind_some, ok_bind, ok_some, ok_map, if_true, if_false, ite_true, ite_false, Bool.and_true, Bool.true_and, Bool.and_false, Bool.false_and, decide_true, decide_false, Bool.false_eq_true, not_true_eq_false, not_false_eq_true, Bool.not_true, Bool.not_false, Bool.or_true, Bool.true_or, Bool.or_false, Bool.false_or, List.length_nil, List.length_cons, Nat.zero_add, Int.zero_add, true_and, and_true, and_self, false_and, and_false, or_true, true_or, or_false, false_or, not_true, not_false_iff, decide_eq_true_eq, Bool.not_eq_true, ne_eq, reduceCtorEq, c0 _ _ hh]
    · have e := c5 w h (fun j => near h fun i => near w (F i) j) hw hh w0
      unfold bf bl at e
      simp -implicitDefEqProofs only [eqE_bl, bbeq_tf, bbeq_ft, beq_self_eq_true, frz, frzAll, srcI, srcVars, srcOk, Option.toList, Option.isSome_none, Option.isSome_some, eqE_int, eq_self, evSs, evS, evE, evEs, evO, evC, evI, bindB_nm, bindB_tp, bindBs_nil, bindBs_cons, bindE_nm, bindE_tp, bindEs_nil, bindEs_cons, wipeE, view, Bd.v, truE, cmpE, gtV, ltV, leV, geV, ltE, isV, isntV, neV, ninV, isNon, biE, intE, lenE, absE, minE, maxE, sumE, tupleE, listE, allE, anyE, itemsOf, binE, modE, fdivE, mulE, addE, subE, negE, powE, asH, asI, asHs, ixE, slE, ownL, putE, fr, asVar, isiE, Turned, List.set_cons_succ, List.set_cons_zero, List.map_cons, List.map_nil, List.getElem?_cons_succ, List.getElem?_cons_zero, Option.map_some, Option.join_some, bind, Option.bind_some, ok_bind, ok_some, ok_map, if_true, if_false, ite_true, ite_false, Bool.and_true, Bool.true_and, Bool.and_false, Bool.false_and, decide_true, decide_false, Bool.false_eq_true, not_true_eq_false, not_false_eq_true, Bool.not_true, Bool.not_false, Bool.or_true, Bool.true_or, Bool.or_false, Bool.false_or, List.length_nil, List.length_cons, Nat.zero_add, Int.zero_add, true_and, and_true, and_self, false_and, and_false, or_true, true_or, or_false, false_or, not_true, not_false_iff, decide_eq_true_eq, Bool.not_eq_true, ne_eq, reduceCtorEq, List.length_map, List.length_range, hl2, e]
      rfl
/-- the first tilt -/
def rowTilt (w : Nat) (F : Nat → Nat → Int) : Nat → Nat → Option Nat
  | _, 0 => none
  | a, n + 1 => if imb w (F a) = 0 then rowTilt w F (a + 1) n else some a
def tiltD (h w : Nat) (F : Nat → Nat → Int) : Dt :=
  match rowTilt w F 0 h with
  | some i => .tup [.int 0, .int i]
  | none => match rowTilt h (fun j i => F i j) 0 w with
    | some j => .tup [.int 1, .int j]
    | none => .non
theorem enum_fn (f : Nat → Dt) : ∀ (n a : Nat), ((List.range' a n).map f).zipIdx a = (List.range' a n).map fun i => (f i, i)
  | 0, _ => rfl
  | n + 1, a => by
    rw [List.range'_succ, List.map_cons, List.zipIdx_cons, enum_fn f n (a + 1), List.map_cons]
theorem enumD_bl (h w : Nat) (F : Nat → Nat → Int) : enumD (bl h w F) = (List.range' 0 h).map fun (i : Nat) => Dt.tup [.int (i : Nat), tf w (F i)] := by
  unfold enumD bl
  rw [List.range_eq_range', enum_fn, List.map_map]
  rfl
/-- a board, or one less its tilt -/
theorem tilt_rows (w : Nat) (F : Nat → Nat → Int) (hw : w ≤ 1000) (c2 : ∀ n f, n ≤ 1000 → cf 2 [.h (tf n f)] = some (.h (.int (imb n f)))) (B L : Option Bd) (sd : Int) : ∀ (n a : Nat) (v3 v4 : Option Bd),
    Ok (loopE (fun x β => (bindB (.tp [.nm 3, .nm 4]) x β).bind fun β' => evSs cf wf b8_L0 β') ((List.range' a n).map fun (i : Nat) => Dt.tup [.int (i : Nat), tf w (F i)]) [B, some (.im (.h (.int sd))), L, v3, v4])
      fun r => match rowTilt w F a n with
        | none => ∃ v3 v4, r = .nx [B, some (.im (.h (.int sd))), L, v3, v4]
        | some i => r = .rt (.h (.tup [.int sd, .int i]))
  | 0, a, v3, v4 => ⟨_, rfl, v3, v4, rfl⟩
  | n + 1, a, v3, v4 => by
    have l2 : 2 ≤ sizeLine := le_line (by omega)
    rw [List.range'_succ, List.map_cons]
    by_cases h : imb w (F a) = 0
    · have ih := tilt_rows w F hw c2 B L sd n (a + 1) (some (.im (.h (.int a)))) (some (.im (.h (tf w (F a)))))
      have hc := c2 w (F a) hw
      simp -implicitDefEqProofs only [loopE, b8_L0, eqE_bl, bbeq_tf, bbeq_ft, beq_self_eq_true, frz, frzAll, srcI, srcVars, srcOk, Option.toList, Option.isSome_none, Option.isSome_some, eqE_int, eq_self, evSs, evS, evE, evEs, evO, evC, evI, bindB_nm, bindB_tp, bindBs_nil, bindBs_cons, bindE_nm, bindE_tp, bindEs_nil, bindEs_cons, wipeE, view, Bd.v, truE, cmpE, gtV, ltV, leV, geV, ltE, isV, isntV, neV, ninV, isNon, biE, intE, lenE, absE, minE, maxE, sumE, tupleE, listE, allE, anyE, itemsOf, binE, modE, fdivE, mulE, addE, subE, negE, powE, asH, asI, asHs, ixE, slE, ownL, putE, fr, asVar, isiE, Turned, List.set_cons_succ, List.set_cons_zero, List.map_cons, List.map_nil, List.getElem?_cons_succ, List.getElem?_cons_zero, Option.map_some, Option.join_some, bind, Option.bind_some, ok_bind, ok_some, ok_map, if_true, if_false, ite_true, ite_false, Bool.and_true, Bool.true_and, Bool.and_false, Bool.false_and, decide_true, decide_false, Bool.false_eq_true, not_true_eq_false, not_false_eq_true, Bool.not_true, Bool.not_false, Bool.or_true, Bool.true_or, Bool.or_false, Bool.false_or, List.length_nil, List.length_cons, Nat.zero_add, Int.zero_add, true_and, and_true, and_self, false_and, and_false, or_true, true_or, or_false, false_or, not_true, not_false_iff, decide_eq_true_eq, Bool.not_eq_true, ne_eq, reduceCtorEq, hc, h]
      unfold rowTilt
      rw [if_pos h]
      exact ih
    · have hc := c2 w (F a) hw
      simp -implicitDefEqProofs only [loopE, b8_L0, b8_I0, b8_T0, b8, eqE_bl, bbeq_tf, bbeq_ft, beq_self_eq_true, frz, frzAll, srcI, srcVars, srcOk, Option.toList, Option.isSome_none, Option.isSome_some, eqE_int, eq_self, evSs, evS, evE, evEs, evO, evC, evI, bindB_nm, bindB_tp, bindBs_nil, bindBs_cons, bindE_nm, bindE_tp, bindEs_nil, bindEs_cons, wipeE, view, Bd.v, truE, cmpE, gtV, ltV, leV, geV, ltE, isV, isntV, neV, ninV, isNon, biE, intE, lenE, absE, minE, maxE, sumE, tupleE, listE, allE, anyE, itemsOf, binE, modE, fdivE, mulE, addE, subE, negE, powE, asH, asI, asHs, ixE, slE, ownL, putE, fr, asVar, isiE, Turned, List.set_cons_succ, List.set_cons_zero, List.map_cons, List.map_nil, List.getElem?_cons_succ, List.getElem?_cons_zero, Option.map_some, Option.join_some, bind, Option.bind_some, ok_bind, ok_some, ok_map, if_true, if_false, ite_true, ite_false, Bool.and_true, Bool.true_and, Bool.and_false, Bool.false_and, decide_true, decide_false, Bool.false_eq_true, not_true_eq_false, not_false_eq_true, Bool.not_true, Bool.not_false, Bool.or_true, Bool.true_or, Bool.or_false, Bool.false_or, List.length_nil, List.length_cons, Nat.zero_add, Int.zero_add, true_and, and_true, and_self, false_and, and_false, or_true, true_or, or_false, false_or, not_true, not_false_iff, decide_eq_true_eq, Bool.not_eq_true, ne_eq, reduceCtorEq, hc, h, l2]
      unfold rowTilt
      rw [if_neg h]
theorem run_tilt (h w : Nat) (F : Nat → Nat → Int) (hh : h ≤ 1000) (hw : w ≤ 1000) (h0 : 0 < h) (c2 : ∀ n f, n ≤ 1000 → cf 2 [.h (tf n f)] = some (.h (.int (imb n f)))) (c5 : ∀ h w F, h ≤ 1000 → w ≤ 1000 → 0 < h → cf 5 [.h (bf h w F)] = some (.h (bf w h fun j i => F i j))) :
    runB cf wf ⟨1, 5, b8⟩ [.h (bf h w F)] = some (.h (tiltD h w F)) := by
  have hs : startE 5 [.h (bf h w F)] = [some (.im (.h (bf h w F))), none, none, none, none] := rfl
  have l2 : 2 ≤ sizeLine := le_line (by omega)
  have he : ∀ x y : Dt, enumD [x, y] = [.tup [.int 0, x], .tup [.int 1, y]] := fun x y => rfl
  have ho : srcOk (.tup (.cons (.var 0) (.cons (.call 5 (.cons (.var 0) .nil)) .nil))) = true := rfl
  have hb : ∀ h w F, bf h w F = .tup (bl h w F) := fun _ _ _ => rfl
  rw [← ok_eq]
  simp -implicitDefEqProofs only [runB, b8_I0, b8_T0, b8, hs, eqE_bl, bbeq_tf, bbeq_ft, beq_self_eq_true, frz, frzAll, srcI, srcVars, srcOk, Option.toList, Option.isSome_none, Option.isSome_some, eqE_int, eq_self, evSs, evS, evE, evEs, evO, evC, evI, bindB_nm, bindB_tp, bindBs_nil, bindBs_cons, bindE_nm, bindE_tp, bindEs_nil, bindEs_cons, wipeE, view, Bd.v, truE, cmpE, gtV, ltV, leV, geV, ltE, isV, isntV, neV, ninV, isNon, biE, intE, lenE, absE, minE, maxE, sumE, tupleE, listE, allE, anyE, itemsOf, binE, modE, fdivE, mulE, addE, subE, negE, powE, asH, asI, asHs, ixE, slE, ownL, putE, fr, asVar, isiE, Turned, List.set_cons_succ, List.set_cons_zero, List.map_cons, List.map_nil, List.getElem?_cons_succ, List.getElem?_cons_zero, Option.map_some, Option.join_some, bind, Option.bind_some, ok_bind, ok_some, ok_map, if_true, if_false, ite_true, ite_false, Bool.and_true, Bool.true_and, Bool.and_false, Bool.false_and, decide_true, decide_false, Bool.false_eq_true, not_true_eq_false, not_false_eq_true, Bool.not_true, Bool.not_false, Bool.or_true, Bool.true_or, Bool.or_false, Bool.false_or, List.length_nil, List.length_cons, Nat.zero_add, Int.zero_add, true_and, and_true, and_self, false_and, and_false, or_true, true_or, or_false, false_or, not_true, not_false_iff, decide_eq_true_eq, Bool.not_eq_true, ne_eq, reduceCtorEq, c5 h w F hh hw h0, l2, he]
  have t1 := tilt_rows (wf := wf) w F hw c2 (some (.im (.h (bf h w F)))) (some (.im (.h (bf h w F)))) 0 h 0 none none
  simp -implicitDefEqProofs only [loopE, b8_L1, b8_I0, b8_T0, b8, eqE_bl, bbeq_tf, bbeq_ft, beq_self_eq_true, frz, frzAll, srcI, srcVars, srcOk, Option.toList, Option.isSome_none, Option.isSome_some, eqE_int, eq_self, evSs, evS, evE, evEs, evO, evC, evI, bindB_nm, bindB_tp, bindBs_nil, bindBs_cons, bindE_nm, bindE_tp, bindEs_nil, bindEs_cons, wipeE, view, Bd.v, truE, cmpE, gtV, ltV, leV, geV, ltE, isV, isntV, neV, ninV, isNon, biE, intE, lenE, absE, minE, maxE, sumE, tupleE, listE, allE, anyE, itemsOf, binE, modE, fdivE, mulE, addE, subE, negE, powE, asH, asI, asHs, ixE, slE, ownL, putE, fr, asVar, isiE, Turned, List.set_cons_succ, List.set_cons_zero, List.map_cons, List.map_nil, List.getElem?_cons_succ, List.getElem?_cons_zero, Option.map_some, Option.join_some, bind, Option.bind_some, ok_bind, ok_some, ok_map, if_true, if_false, ite_true, ite_false, Bool.and_true, Bool.true_and, Bool.and_false, Bool.false_and, decide_true, decide_false, Bool.false_eq_true, not_true_eq_false, not_false_eq_true, Bool.not_true, Bool.not_false, Bool.or_true, Bool.true_or, Bool.or_false, Bool.false_or, List.length_nil, List.length_cons, Nat.zero_add, Int.zero_add, true_and, and_true, and_self, false_and, and_false, or_true, true_or, or_false, false_or, not_true, not_false_iff, decide_eq_true_eq, Bool.not_eq_true, ne_eq, reduceCtorEq, hb, enumD_bl] at t1 ⊢
  refine ok_mono t1 fun r hr => ?_
  unfold tiltD
  cases e1 : rowTilt w F 0 h with
  | some i =>
    rw [e1] at hr
    simp only at hr
    subst hr
    simp -implicitDefEqProofs only [eqE_bl, bbeq_tf, bbeq_ft, beq_self_eq_true, frz, frzAll, srcI, srcVars, srcOk, Option.toList, Option.isSome_none, Option.isSome_some, eqE_int, eq_self, evSs, evS, evE, evEs, evO, evC, evI, bindB_nm, bindB_tp, bindBs_nil, bindBs_cons, bindE_nm, bindE_tp, bindEs_nil, bindEs_cons, wipeE, view, Bd.v, truE, cmpE, gtV, ltV, leV, geV, ltE, isV, isntV, neV, ninV, isNon, biE, intE, lenE, absE, minE, maxE, sumE, tupleE, listE, allE, anyE, itemsOf, binE, modE, fdivE, mulE, addE, subE, negE, powE, asH, asI, asHs, ixE, slE, ownL, putE, fr, asVar, isiE, Turned, List.set_cons_succ, List.set_cons_zero, List.map_cons, List.map_nil, List.getElem?_cons_succ, List.getElem?_cons_zero, Option.map_some, Option.join_some, bind, Option.bind_some, ok_bind, ok_some, ok_map, if_true, if_false, ite_true, ite_false, Bool.and_true, Bool.true_and, Bool.and_false, Bool.false_and, decide_true, decide_false, Bool.false_eq_true, not_true_eq_false, not_false_eq_true, Bool.not_true, Bool.not_false, Bool.or_true, Bool.true_or, Bool.or_false, Bool.false_or, List.length_nil, List.length_cons, Nat.zero_add, Int.zero_add, true_and, and_true, and_self, false_and, and_false, or_true, true_or, or_false, false_or, not_true, not_false_iff, decide_eq_true_eq, Bool.not_eq_true, ne_eq, reduceCtorEq]
  | none =>
    rw [e1] at hr
    obtain ⟨v3, v4, rfl⟩ := hr
    have t2 := tilt_rows (wf := wf) h (fun j i => F i j) hh c2 (some (.im (.h (bf h w F)))) (some (.im (.h (bf w h fun j i => F i j)))) 1 w 0 v3 v4
    simp -implicitDefEqProofs only [loopE, eqE_bl, bbeq_tf, bbeq_ft, beq_self_eq_true, frz, frzAll, srcI, srcVars, srcOk, Option.toList, Option.isSome_none, Option.isSome_some, eqE_int, eq_self, evSs, evS, evE, evEs, evO, evC, evI, bindB_nm, bindB_tp, bindBs_nil, bindBs_cons, bindE_nm, bindE_tp, bindEs_nil, bindEs_cons, wipeE, view, Bd.v, truE, cmpE, gtV, ltV, leV, geV, ltE, isV, isntV, neV, ninV, isNon, biE, intE, lenE, absE, minE, maxE, sumE, tupleE, listE, allE, anyE, itemsOf, binE, modE, fdivE, mulE, addE, subE, negE, powE, asH, asI, asHs, ixE, slE, ownL, putE, fr, asVar, isiE, Turned, List.set_cons_succ, List.set_cons_zero, List.map_cons, List.map_nil, List.getElem?_cons_succ, List.getElem?_cons_zero, Option.map_some, Option.join_some, bind, Option.bind_some, ok_bind, ok_some, ok_map, if_true, if_false, ite_true, ite_false, Bool.and_true, Bool.true_and, Bool.and_false, Bool.false_and, decide_true, decide_false, Bool.false_eq_true, not_true_eq_false, not_false_eq_true, Bool.not_true, Bool.not_false, Bool.or_true, Bool.true_or, Bool.or_false, Bool.false_or, List.length_nil, List.length_cons, Nat.zero_add, Int.zero_add, true_and, and_true, and_self, false_and, and_false, or_true, true_or, or_false, false_or, not_true, not_false_iff, decide_eq_true_eq, Bool.not_eq_true, ne_eq, reduceCtorEq, hb, enumD_bl] at t2 ⊢
    refine ok_mono t2 fun r hr => ?_
    cases e2 : rowTilt h (fun j i => F i j) 0 w with
    | some i =>
      rw [e2] at hr
      simp only at hr
      subst hr
      simp -implicitDefEqProofs only [eqE_bl, bbeq_tf, bbeq_ft, beq_self_eq_true, frz, frzAll, srcI, srcVars, srcOk, Option.toList, Option.isSome_none, Option.isSome_some, eqE_int, eq_self, evSs, evS, evE, evEs, evO, evC, evI, bindB_nm, bindB_tp, bindBs_nil, bindBs_cons, bindE_nm, bindE_tp, bindEs_nil, bindEs_cons, wipeE, view, Bd.v, truE, cmpE, gtV, ltV, leV, geV, ltE, isV, isntV, neV, ninV, isNon, biE, intE, lenE, absE, minE, maxE, sumE, tupleE, listE, allE, anyE, itemsOf, binE, modE, fdivE, mulE, addE, subE, negE, powE, asH, asI, asHs, ixE, slE, ownL, putE, fr, asVar, isiE, Turned, List.set_cons_succ, List.set_cons_zero, List.map_cons, List.map_nil, List.getElem?_cons_succ, List.getElem?_cons_zero, Option.map_some, Option.join_some, bind, Option.bind_some, ok_bind, ok_some, ok_map, if_true, if_false, ite_true, ite_false, Bool.and_true, Bool.true_and, Bool.and_false, Bool.false_and, decide_true, decide_false, Bool.false_eq_true, not_true_eq_false, not_false_eq_true, Bool.not_true, Bool.not_false, Bool.or_true, Bool.true_or, Bool.or_false, Bool.false_or, List.length_nil, List.length_cons, Nat.zero_add, Int.zero_add, true_and, and_true, and_self, false_and, and_false, or_true, true_or, or_false, false_or, not_true, not_false_iff, decide_eq_true_eq, Bool.not_eq_true, ne_eq, reduceCtorEq]
    | none =>
      rw [e2] at hr
      obtain ⟨v3, v4, rfl⟩ := hr
      simp -implicitDefEqProofs only [eqE_bl, bbeq_tf, bbeq_ft, beq_self_eq_true, frz, frzAll, srcI, srcVars, srcOk, Option.toList, Option.isSome_none, Option.isSome_some, eqE_int, eq_self, evSs, evS, evE, evEs, evO, evC, evI, bindB_nm, bindB_tp, bindBs_nil, bindBs_cons, bindE_nm, bindE_tp, bindEs_nil, bindEs_cons, wipeE, view, Bd.v, truE, cmpE, gtV, ltV, leV, geV, ltE, isV, isntV, neV, ninV, isNon, biE, intE, lenE, absE, minE, maxE, sumE, tupleE, listE, allE, anyE, itemsOf, binE, modE, fdivE, mulE, addE, subE, negE, powE, asH, asI, asHs, ixE, slE, ownL, putE, fr, asVar, isiE, Turned, List.set_cons_succ, List.set_cons_zero, List.map_cons, List.map_nil, List.getElem?_cons_succ, List.getElem?_cons_zero, Option.map_some, Option.join_some, bind, Option.bind_some, ok_bind, ok_some, ok_map, if_true, if_false, ite_true, ite_false, Bool.and_true, Bool.true_and, Bool.and_false, Bool.false_and, decide_true, decide_false, Bool.false_eq_true, not_true_eq_false, not_false_eq_true, Bool.not_true, Bool.not_false, Bool.or_true, Bool.true_or, Bool.or_false, Bool.false_or, List.length_nil, List.length_cons, Nat.zero_add, Int.zero_add, true_and, and_true, and_self, false_and, and_false, or_true, true_or, or_false, false_or, not_true, not_false_iff, decide_eq_true_eq, Bool.not_eq_true, ne_eq, reduceCtorEq]
end
end Lk85
namespace Lk85
open Ev
theorem gh_val (i : Nat) : (i % 3 = 0 ∧ gh i = 1) ∨ (i % 3 = 1 ∧ gh i = -1) ∨ (i % 3 = 2 ∧ gh i = 0) := by
  unfold gh
  have : i % 3 = 0 ∨ i % 3 = 1 ∨ i % 3 = 2 := by omega
  rcases this with h | h | h <;> simp [h]
theorem gh3 (i : Nat) : gh i + gh (i + 1) + gh (i + 2) = 0 := by
  have h1 := gh_val i
  have h2 := gh_val (i + 1)
  have h3 := gh_val (i + 2)
  omega
theorem beh_lin (s : Nat → Int) (a : Int) : ∀ i, beh s a i = beh s 0 i + a * gh i
  | 0 => by
    show a = 0 + a * gh 0
    rw [show gh 0 = 1 from rfl]
    omega
  | 1 => by
    show s 0 - a = s 0 - 0 + a * gh 1
    rw [show gh 1 = -1 from rfl]
    omega
  | i + 2 => by
    show s (i + 1) - beh s a (i + 1) - beh s a i = s (i + 1) - beh s 0 (i + 1) - beh s 0 i + a * gh (i + 2)
    rw [beh_lin s a (i + 1), beh_lin s a i]
    have h := gh3 i
    have e : gh (i + 2) = - gh i - gh (i + 1) := by omega
    rw [e, Int.mul_sub, Int.mul_neg]
    omega
theorem beh_one (s : Nat → Int) (n : Nat) : beh s 0 n - beh s 1 n = - gh n := by
  rw [beh_lin s 1 n]
  omega
theorem told_mul (s : Nat → Int) (n : Nat) : mulOk (beh s 0 n) (beh s 0 n - beh s 1 n) = true := by
  rw [beh_one]
  refine mulOk_r ?_
  have := gh_val n
  omega
theorem near_beh (n : Nat) (s : Nat → Int) (a : Int) (hz : beh s a n = 0) : ∀ i, i < n → near n (beh s a) i = s i := fun i hi => by
  unfold near
  cases i with
  | zero =>
    by_cases h : 0 + 1 < n
    · rw [if_pos h, if_pos rfl]
      show 0 + a + (s 0 - a) = s 0
      omega
    · have : n = 1 := by omega
      subst this
      rw [if_neg h, if_pos rfl]
      have hz : s 0 - a = 0 := hz
      show 0 + a + 0 = s 0
      omega
  | succ i =>
    rw [if_neg (by omega)]
    have e : beh s a (i + 2) = s (i + 1) - beh s a (i + 1) - beh s a i := rfl
    simp only [Nat.add_sub_cancel]
    by_cases h : i + 1 + 1 < n
    · rw [if_pos h]
      show beh s a i + beh s a (i + 1) + beh s a (i + 2) = s (i + 1)
      omega
    · have hn : n = i + 2 := by omega
      subst hn
      rw [if_neg h]
      omega
theorem sum_beh (s : Nat → Int) (a : Int) : ∀ n : Nat, sumR (n + 1) (fun i => s i * gh i) = gh n * beh s a (n + 1) - gh (n + 1) * beh s a n
  | 0 => by
    show 0 + s 0 * gh 0 = gh 0 * (s 0 - a) - gh 1 * a
    rw [show gh 0 = 1 from rfl, show gh 1 = -1 from rfl]
    omega
  | n + 1 => by
    show sumR (n + 1) (fun i => s i * gh i) + s (n + 1) * gh (n + 1) = _
    rw [sum_beh s a n]
    have e : beh s a (n + 1 + 1) = s (n + 1) - beh s a (n + 1) - beh s a n := rfl
    rw [e]
    have h := gh3 n
    have e2 : gh (n + 1 + 1) = - gh n - gh (n + 1) := by
      show gh (n + 2) = _
      omega
    rw [e2, Int.mul_sub, Int.mul_sub, Int.sub_mul, Int.neg_mul, Int.mul_comm (s (n + 1))]
    omega
theorem imb_beh (n : Nat) (s : Nat → Int) (a : Int) (h : n % 3 = 2) : imb n s = - beh s a n := by
  obtain ⟨m, rfl⟩ : ∃ m, n = m + 1 := ⟨n - 1, by omega⟩
  unfold imb
  rw [if_pos h, sum_beh s a m]
  have h1 := gh_val m
  have h2 := gh_val (m + 1)
  have e1 : gh m = -1 := by omega
  have e2 : gh (m + 1) = 0 := by omega
  rw [e1, e2]
  omega
theorem fst_zero (n : Nat) (s : Nat → Int) (h : imb n s = 0) : beh s (fst n s) n = 0 := by
  rw [beh_lin]
  unfold fst
  by_cases hb : beh s 0 n = 0
  · rw [if_pos hb, hb]
    omega
  · rw [if_neg hb, beh_one]
    have g := gh_val n
    rcases g with ⟨_, g⟩ | ⟨_, g⟩ | ⟨g3, g⟩
    · rw [g]; omega
    · rw [g]; omega
    · have := imb_beh n s 0 g3
      omega
theorem fst_two (n : Nat) (s : Nat → Int) (h : imb n s = 0) (h3 : n % 3 = 2) : fst n s = 0 := by
  unfold fst
  have := imb_beh n s 0 h3
  rw [if_pos (by omega)]
/-- what is told has these sums -/
theorem near_told (n : Nat) (s : Nat → Int) (h : imb n s = 0) : ∀ i, i < n → near n (told n s) i = s i := near_beh n s _ (fst_zero n s h)
/-- told from the sums of f -/
theorem beh_near (n : Nat) (f : Nat → Int) (a : Int) (h0 : 0 < n) : ∀ i, i ≤ n → beh (near n f) a i = (if i < n then f i else 0) + (a - f 0) * gh i
  | 0, _ => by
    show a = _
    rw [if_pos h0, show gh 0 = 1 from rfl]
    omega
  | 1, _ => by
    show near n f 0 - a = _
    unfold near
    rw [show gh 1 = -1 from rfl, if_pos rfl]
    simp only [Nat.zero_add]
    split <;> omega
  | i + 2, hi => by
    show near n f (i + 1) - beh (near n f) a (i + 1) - beh (near n f) a i = _
    rw [beh_near n f a h0 (i + 1) (by omega), beh_near n f a h0 i (by omega)]
    have e : gh (i + 2) = - gh i - gh (i + 1) := by
      have := gh3 i
      omega
    rw [e, Int.mul_sub, Int.mul_neg, if_pos (show i + 1 < n by omega), if_pos (show i < n by omega)]
    unfold near
    rw [if_neg (by omega)]
    simp only [Nat.add_sub_cancel]
    show _ + _ + (if i + 2 < n then f (i + 2) else 0) - _ - _ = _
    omega
theorem imb_near (n : Nat) (f : Nat → Int) (h0 : 0 < n) : imb n (near n f) = 0 := by
  by_cases h : n % 3 = 2
  · rw [imb_beh n _ (f 0) h, beh_near n f (f 0) h0 n (Nat.le_refl n), if_neg (by omega)]
    omega
  · unfold imb
    rw [if_neg h]
theorem told_near (n : Nat) (f : Nat → Int) (h0 : 0 < n) : ∀ i, i < n → told n (near n f) i = if n % 3 = 2 then f i - f 0 * gh i else f i := fun i hi => by
  unfold told
  rw [beh_near n f _ h0 i (by omega), if_pos hi]
  by_cases h : n % 3 = 2
  · rw [if_pos h, fst_two n _ (imb_near n f h0) h, Int.sub_mul]
    omega
  · rw [if_neg h]
    have hz := fst_zero n _ (imb_near n f h0)
    rw [beh_near n f _ h0 n (Nat.le_refl n), if_neg (by omega)] at hz
    have g := gh_val n
    have : fst n (near n f) - f 0 = 0 := by
      rcases g with ⟨_, g⟩ | ⟨_, g⟩ | ⟨g3, g⟩
      · rw [g] at hz; omega
      · rw [g] at hz; omega
      · omega
    rw [this]
    omega
theorem near_congr {n : Nat} {f g : Nat → Int} (h : ∀ i, i < n → f i = g i) : ∀ i, i < n → near n f i = near n g i := fun i hi => by
  unfold near
  rw [h i hi]
  by_cases h0 : i = 0
  · rw [if_pos h0, if_pos h0]
    split
    · rw [h _ (by assumption)]
    · rfl
  · rw [if_neg h0, if_neg h0, h (i - 1) (by omega)]
    split
    · rw [h _ (by assumption)]
    · rfl
theorem near_sum (w : Nat) (c : Nat → Int) (F : Nat → Nat → Int) : ∀ (h j : Nat), near w (fun j => sumR h (fun i => c i * F i j)) j = sumR h (fun i => c i * near w (F i) j)
  | 0, j => by
    unfold near sumR
    simp
  | h + 1, j => by
    have ih := near_sum w c F h j
    have e : ∀ k, sumR (h + 1) (fun i => c i * F i k) = sumR h (fun i => c i * F i k) + c h * F h k := fun k => rfl
    show near w (fun j => sumR (h + 1) (fun i => c i * F i j)) j = sumR h (fun i => c i * near w (F i) j) + c h * near w (F h) j
    rw [← ih]
    unfold near
    simp only [e]
    by_cases h0 : j = 0
    · simp only [h0, if_true]
      split
      · simp only [Int.mul_add]; omega
      · simp only [Int.mul_add]; omega
    · simp only [h0, if_false]
      split
      · simp only [Int.mul_add]; omega
      · simp only [Int.mul_add]; omega
/-- what the columns of told rows sum to -/
theorem cols_told (h w : Nat) (S : Nat → Nat → Int) (h0 : 0 < h) (w0 : 0 < w) (hr : ∀ i, i < h → imb w (S i) = 0) (hc : ∀ j, j < w → imb h (fun i => S i j) = 0) : ∀ j, j < w → imb h (fun i => told w (S i) j) = 0 := fun j hj => by
  by_cases h3 : h % 3 = 2
  rotate_left
  · unfold imb
    rw [if_neg h3]
  have hT : ∀ j, imb h (fun i => told w (S i) j) = sumR h (fun i => gh i * told w (S i) j) := fun j => by
    unfold imb
    rw [if_pos h3]
    exact sumR_congr fun i _ => Int.mul_comm _ _
  rw [hT]
  -- the sums of these are none
  have hn : ∀ j, j < w → near w (fun j => sumR h (fun i => gh i * told w (S i) j)) j = 0 := fun j hj => by
    rw [near_sum]
    have := hc j hj
    unfold imb at this
    rw [if_pos h3] at this
    rw [← this]
    exact sumR_congr fun i hi => by rw [near_told w (S i) (hr i hi) j hj, Int.mul_comm]
  -- so they are a multiple of the ghost
  have hz : ∀ (s : Nat → Int) (n : Nat), (∀ i, i < n → s i = 0) → ∀ i, i ≤ n → beh s 0 i = 0 := fun s n hs i hi => by
    induction i using Nat.strongRecOn with
    | ind i ih =>
      match i, hi, ih with
      | 0, _, _ => rfl
      | 1, hi, _ => show s 0 - 0 = 0; rw [hs 0 (by omega)]; rfl
      | i + 2, hi, ih =>
        show s (i + 1) - beh s 0 (i + 1) - beh s 0 i = 0
        rw [hs (i + 1) (by omega), ih (i + 1) (by omega) (by omega), ih i (by omega) (by omega)]
        rfl
  have b := beh_near w (fun j => sumR h (fun i => gh i * told w (S i) j)) 0 w0
  have b1 := b j (by omega)
  rw [hz _ w hn j (by omega), if_pos hj] at b1
  have b2 := b w (Nat.le_refl w)
  rw [hz _ w hn w (Nat.le_refl w), if_neg (by omega)] at b2
  have first : sumR h (fun i => gh i * told w (S i) 0) = 0 := by
    have g := gh_val w
    rcases g with ⟨_, g⟩ | ⟨_, g⟩ | ⟨g3, g⟩
    · rw [g] at b2; omega
    · rw [g] at b2; omega
    · rw [← sumR_zero h]
      refine sumR_congr fun i hi => ?_
      show gh i * fst w (S i) = 0
      rw [fst_two w (S i) (hr i hi) g3]
      omega
  rw [first] at b1
  omega
end Lk85
namespace Lk85
open Ev PySem L2
theorem rowTilt_none (w : Nat) (F : Nat → Nat → Int) : ∀ (n a : Nat), rowTilt w F a n = none → ∀ i, a ≤ i → i < a + n → imb w (F i) = 0
  | 0, a, _, i, h1, h2 => by omega
  | n + 1, a, h, i, h1, h2 => by
    unfold rowTilt at h
    by_cases e : imb w (F a) = 0
    · rw [if_pos e] at h
      by_cases ei : i = a
      · rw [ei]; exact e
      · exact rowTilt_none w F n (a + 1) h i (by omega) (by omega)
    · rw [if_neg e] at h
      cases h
def Flat (h w : Nat) (F : Nat → Nat → Int) : Prop := (∀ i, i < h → imb w (F i) = 0) ∧ ∀ j, j < w → imb h (fun i => F i j) = 0
def flatB (h w : Nat) (F : Nat → Nat → Int) : Bool := isNon (.h (tiltD h w F))
theorem tilt_flat {h w : Nat} {F : Nat → Nat → Int} (e : flatB h w F = true) : Flat h w F := by
  unfold flatB tiltD at e
  split at e
  · cases e
  · rename_i e1
    split at e
    · cases e
    · rename_i e2
      exact ⟨fun i hi => rowTilt_none w F h 0 e1 i (by omega) (by omega), fun j hj => rowTilt_none h (fun j i => F i j) w 0 e2 j (by omega) (by omega)⟩
def told2 (h w : Nat) (S : Nat → Nat → Int) : Nat → Nat → Int := fun i j => told h (fun k => told w (S k) j) i
section
variable {cf : Nat → List Vl → Option Vl} {wf : Nat}
theorem run_tboard (h w : Nat) (S : Nat → Nat → Int) (hh : h ≤ 1000) (hw : w ≤ 1000) (h0 : 0 < h) (w0 : 0 < w) (c4 : ∀ n f, 0 < n → n ≤ 1000 → cf 4 [.h (tf n f)] = some (.h (if imb n f = 0 then tf n (told n f) else .non)))
    (c5 : ∀ h w F, h ≤ 1000 → w ≤ 1000 → 0 < h → cf 5 [.h (bf h w F)] = some (.h (bf w h fun j i => F i j))) (c7 : cf 7 [.h (bf h w S)] = some (.h (tiltD h w S))) :
    runB cf wf ⟨1, 3, b9⟩ [.h (bf h w S)] = some (.h (if flatB h w S = true then bf h w (told2 h w S) else .non)) := by
  have hs : startE 3 [.h (bf h w S)] = [some (.im (.h (bf h w S))), none, none] := rfl
  have hl : h < sizeLine := lt_line (by omega)
  have hl2 : w < sizeLine := lt_line (by omega)
  rw [← ok_eq]
  have hi : isntV (.h (tiltD h w S)) (.h .non) = some (!flatB h w S) := rfl
  by_cases e : flatB h w S = true
  · obtain ⟨hr, hc⟩ := tilt_flat e
    have hb : bf h w S = .tup (bl h w S) := rfl
    have e1 := c5 h w (fun i => told w (S i)) hh hw h0
    have e2 := c5 w h (fun j => told h fun i => told w (S i) j) hw hh w0
    unfold bf bl at e1 e2
    simp -implicitDefEqProofs only [runB, b9_I0, b9_T0, b9_T1, b9, hs, evSs, evS, evE, evEs, bind, view, Bd.v, List.map_cons, List.map_nil, List.getElem?_cons_zero, Option.map_some, Option.join_some, Option.bind_some, c7, cmpE, hi]
    simp -implicitDefEqProofs only [eqE_bl, bbeq_tf, bbeq_ft, beq_self_eq_true, frz, frzAll, srcI, srcVars, srcOk, Option.toList, Option.isSome_none, Option.isSome_some, eqE_int, eq_self, evSs, evS, evE, evEs, evO, evC, evI, bindB_nm, bindB_tp, bindBs_nil, bindBs_cons, bindE_nm, bindE_tp, bindEs_nil, bindEs_cons, wipeE, view, Bd.v, truE, cmpE, gtV, ltV, leV, geV, ltE, isV, isntV, neV, ninV, isNon, biE, intE, lenE, absE, minE, maxE, sumE, tupleE, listE, allE, anyE, itemsOf, binE, modE, fdivE, mulE, addE, subE, negE, powE, asH, asI, asHs, ixE, slE, ownL, putE, fr, asVar, isiE, Turned, List.set_cons_succ, List.set_cons_zero, List.map_cons, List.map_nil, List.getElem?_cons_succ, List.getElem?_cons_zero, Option.map_some, Option.join_some, bind, Option.bind_some, ok_bind, ok_some, ok_map, if_true, if_false, ite_true, ite_false, Bool.and_true, Bool.true_and, Bool.and_false, Bool.false_and, decide_true, decide_false, Bool.false_eq_true, not_true_eq_false, not_false_eq_true, Bool.not_true, Bool.not_false, Bool.or_true, Bool.true_or, Bool.or_false, Bool.false_or, List.length_nil, List.length_cons, Nat.zero_add, Int.zero_add, true_and, and_true, and_self, false_and, and_false, or_true, true_or, or_false, false_or, not_true, not_false_iff, decide_eq_true_eq, Bool.not_eq_true, ne_eq, reduceCtorEq, e, hb]
    refine ok_of (compL_fn (n := h) (e := fun i => tf w (S i)) (fun i => tf w (told w (S i))) fun i hi => ?_) ?_
    · rw [← ok_eq]
      have := c4 w (S i) w0 hw
      rw [if_pos (hr i hi)] at this
      simp -implicitDefEqProofs only [b9_C0, eqE_bl, bbeq_tf, bbeq_ft, beq_self_eq_true, frz, frzAll, srcI, srcVars, srcOk, Option.toList, Option.isSome_none, Option.isSome_some, eqE_int, eq_self, evSs, evS, evE, evEs, evO, evC, evI, bindB_nm, bindB_tp, bindBs_nil, bindBs_cons, bindE_nm, bindE_tp, bindEs_nil, bindEs_cons, wipeE, view, Bd.v, truE, cmpE, gtV, ltV, leV, geV, ltE, isV, isntV, neV, ninV, isNon, biE, intE, lenE, absE, minE, maxE, sumE, tupleE, listE, allE, anyE, itemsOf, binE, modE, fdivE, mulE, addE, subE, negE, powE, asH, asI, asHs, ixE, slE, ownL, putE, fr, asVar, isiE, Turned, List.set_cons_succ, List.set_cons_zero, List.map_cons, List.map_nil, List.getElem?_cons_succ, List.getElem?_cons_zero, Option.map_some, Option.join_some, bind, Option.bind_some, ok_bind, ok_some, ok_map, if_true, if_false, ite_true, ite_false, Bool.and_true, Bool.true_and, Bool.and_false, Bool.false_and, decide_true, decide_false, Bool.false_eq_true, not_true_eq_false, not_false_eq_true, Bool.not_true, Bool.not_false, Bool.or_true, Bool.true_or, Bool.or_false, Bool.false_or, List.length_nil, List.length_cons, Nat.zero_add, Int.zero_add, true_and, and_true, and_self, false_and, and_false, or_true, true_or, or_false, false_or, not_true, not_false_iff, decide_eq_true_eq, Bool.not_eq_true, ne_eq, reduceCtorEq, this]
    · simp -implicitDefEqProofs only [b9_I0, b9_T0, b9_T1, b9, eqE_bl, bbeq_tf, bbeq_ft, beq_self_eq_true, frz, frzAll, srcI, srcVars, srcOk, Option.toList, Option.isSome_none, Option.isSome_some, eqE_int, eq_self, evSs, evS, evE, evEs, evO, evC, evI, bindB_nm, bindB_tp, bindBs_nil, bindBs_cons, bindE_nm, bindE_tp, bindEs_nil, bindEs_cons, wipeE, view, Bd.v, truE, cmpE, gtV, ltV, leV, geV, ltE, isV, isntV, neV, ninV, isNon, biE, intE, lenE, absE, minE, maxE, sumE, tupleE, listE, allE, anyE, itemsOf, binE, modE, fdivE, mulE, addE, subE, negE, powE, asH, asI, asHs, ixE, slE, ownL, putE, fr, asVar, isiE, Turned, List.set_cons_succ, List.set_cons_zero, List.map_cons, List.map_nil, List.getElem?_cons_succ, List.getElem?_cons_zero, Option.map_some, Option.join_some, bind, Option.bind_some, ok_bind, ok_some, ok_map, if_true, if_false, ite_true, ite_false, Bool.and_true, Bool.true_and, Bool.and_false, Bool.false_and, decide_true, decide_false, Bool.false_eq_true, not_true_eq_false, not_false_eq_true, Bool.not_true, Bool.not_false, Bool.or_true, Bool.true_or, Bool.or_false, Bool.false_or, List.length_nil, List.length_cons, Nat.zero_add, Int.zero_add, true_and, and_true, and_self, false_and, and_false, or_true, true_or, or_false, false_or, not_true, not_false_iff, decide_eq_true_eq, Bool.not_eq_true, ne_eq, reduceCtorEq, bl_len, hl, e1]
      refine ok_of (compL_fn (fun j => tf h (told h fun i => told w (S i) j)) fun j hj => ?_) ?_
      · rw [← ok_eq]
        have := c4 h (fun i => told w (S i) j) h0 hh
        rw [if_pos (cols_told h w S h0 w0 hr hc j hj)] at this
        simp -implicitDefEqProofs only [b9_C1, eqE_bl, bbeq_tf, bbeq_ft, beq_self_eq_true, frz, frzAll, srcI, srcVars, srcOk, Option.toList, Option.isSome_none, Option.isSome_some, eqE_int, eq_self, evSs, evS, evE, evEs, evO, evC, evI, bindB_nm, bindB_tp, bindBs_nil, bindBs_cons, bindE_nm, bindE_tp, bindEs_nil, bindEs_cons, wipeE, view, Bd.v, truE, cmpE, gtV, ltV, leV, geV, ltE, isV, isntV, neV, ninV, isNon, biE, intE, lenE, absE, minE, maxE, sumE, tupleE, listE, allE, anyE, itemsOf, binE, modE, fdivE, mulE, addE, subE, negE, powE, asH, asI, asHs, ixE, slE, ownL, putE, fr, asVar, isiE, Turned, List.set_cons_succ, List.set_cons_zero, List.map_cons, List.map_nil, List.getElem?_cons_succ, List.getElem?_cons_zero, Option.map_some, Option.join_some, bind, Option.bind_some, ok_bind, ok_some, ok_map, if_true, if_false, ite_true, ite_false, Bool.and_true, Bool.true_and, Bool.and_false, Bool.false_and, decide_true, decide_false, Bool.false_eq_true, not_true_eq_false, not_false_eq_true, Bool.not_true, Bool.not_false, Bool.or_true, Bool.true_or, Bool.or_false, Bool.false_or, List.length_nil, List.length_cons, Nat.zero_add, Int.zero_add, true_and, and_true, and_self, false_and, and_false, or_true, true_or, or_false, false_or, not_true, not_false_iff, decide_eq_true_eq, Bool.not_eq_true, ne_eq, reduceCtorEq, this]
      · simp -implicitDefEqProofs only [eqE_bl, bbeq_tf, bbeq_ft, beq_self_eq_true, frz, frzAll, srcI, srcVars, srcOk, Option.toList, Option.isSome_none, Option.isSome_some, eqE_int, eq_self, evSs, evS, evE, evEs, evO, evC, evI, bindB_nm, bindB_tp, bindBs_nil, bindBs_cons, bindE_nm, bindE_tp, bindEs_nil, bindEs_cons, wipeE, view, Bd.v, truE, cmpE, gtV, ltV, leV, geV, ltE, isV, isntV, neV, ninV, isNon, biE, intE, lenE, absE, minE, maxE, sumE, tupleE, listE, allE, anyE, itemsOf, binE, modE, fdivE, mulE, addE, subE, negE, powE, asH, asI, asHs, ixE, slE, ownL, putE, fr, asVar, isiE, Turned, List.set_cons_succ, List.set_cons_zero, List.map_cons, List.map_nil, List.getElem?_cons_succ, List.getElem?_cons_zero, Option.map_some, Option.join_some, bind, Option.bind_some, ok_bind, ok_some, ok_map, if_true, if_false, ite_true, ite_false, Bool.and_true, Bool.true_and, Bool.and_false, Bool.false_and, decide_true, decide_false, Bool.false_eq_true, not_true_eq_false, not_false_eq_true, Bool.not_true, Bool.not_false, Bool.or_true, Bool.true_or, Bool.or_false, Bool.false_or, List.length_nil, List.length_cons, Nat.zero_add, Int.zero_add, true_and, and_true, and_self, false_and, and_false, or_true, true_or, or_false, false_or, not_true, not_false_iff, decide_eq_true_eq, Bool.not_eq_true, ne_eq, reduceCtorEq, List.length_map, List.length_range, hl2, e2]
        rfl
  · have e := Bool.eq_false_iff.mpr e
    simp -implicitDefEqProofs only [runB, b9_I0, b9_T0, b9_T1, b9, hs, evSs, evS, evE, evEs, bind, view, Bd.v, List.map_cons, List.map_nil, List.getElem?_cons_zero, Option.map_some, Option.join_some, Option.bind_some, c7, cmpE, hi]
    simp -implicitDefEqProofs only [eqE_bl, bbeq_tf, bbeq_ft, beq_self_eq_true, frz, frzAll, srcI, srcVars, srcOk, Option.toList, Option.isSome_none, Option.isSome_some, eqE_int, eq_self, evSs, evS, evE, evEs, evO, evC, evI, bindB_nm, bindB_tp, bindBs_nil, bindBs_cons, bindE_nm, bindE_tp, bindEs_nil, bindEs_cons, wipeE, view, Bd.v, truE, cmpE, gtV, ltV, leV, geV, ltE, isV, isntV, neV, ninV, isNon, biE, intE, lenE, absE, minE, maxE, sumE, tupleE, listE, allE, anyE, itemsOf, binE, modE, fdivE, mulE, addE, subE, negE, powE, asH, asI, asHs, ixE, slE, ownL, putE, fr, asVar, isiE, Turned, List.set_cons_succ, List.set_cons_zero, List.map_cons, List.map_nil, List.getElem?_cons_succ, List.getElem?_cons_zero, Option.map_some, Option.join_some, bind, Option.bind_some, ok_bind, ok_some, ok_map, if_true, if_false, ite_true, ite_false, Bool.and_true, Bool.true_and, Bool.and_false, Bool.false_and, decide_true, decide_false, Bool.false_eq_true, not_true_eq_false, not_false_eq_true, Bool.not_true, Bool.not_false, Bool.or_true, Bool.true_or, Bool.or_false, Bool.false_or, List.length_nil, List.length_cons, Nat.zero_add, Int.zero_add, true_and, and_true, and_self, false_and, and_false, or_true, true_or, or_false, false_or, not_true, not_false_iff, decide_eq_true_eq, Bool.not_eq_true, ne_eq, reduceCtorEq, e]
theorem run_wide (h w : Nat) (F : Nat → Nat → Int) (hh : h ≤ 1000) (hw : w ≤ 1000) (h0 : 0 < h) : runB cf wf ⟨1, 7, b19⟩ [.h (bf h w F)] = some (.h (bf h w fun i j => near h (fun k => near w (F k) j) i)) := by
  have hs : startE 7 [.h (.tup (bl h w F))] = [some (.im (.h (.tup (bl h w F)))), none, none, none, none, none, none] := rfl
  have hb : ∀ h w F, bf h w F = .tup (bl h w F) := fun _ _ _ => rfl
  have hsh : small62 (h : Int) = true := small62_nat (by omega)
  have hsw : small62 (w : Int) = true := small62_nat (by omega)
  have e0 : (0 : Nat) ≤ sizeLine := Nat.zero_le _
  have a0 : atI (bl h w F) 0 = some (tf w (F 0)) := atI_bl (i := 0) h0
  have ht : ∀ n f, tf n f = .tup (tl n f) := fun _ _ => rfl
  let G : Nat → Nat → Int := fun i j => near h (fun k => near w (F k) j) i
  rw [← ok_eq]
  simp -implicitDefEqProofs only [hb, runB, b19_T0, b19_T1, b19_T2, b19_T3, b19_T4, b19_T5, b19, hs, eqE_bl, bbeq_tf, bbeq_ft, beq_self_eq_true, frz, frzAll, srcI, srcVars, srcOk, Option.toList, Option.isSome_none, Option.isSome_some, eqE_int, eq_self, evSs, evS, evE, evEs, evO, evC, evI, bindB_nm, bindB_tp, bindBs_nil, bindBs_cons, bindE_nm, bindE_tp, bindEs_nil, bindEs_cons, wipeE, view, Bd.v, truE, cmpE, gtV, ltV, leV, geV, ltE, isV, isntV, neV, ninV, isNon, biE, intE, lenE, absE, minE, maxE, sumE, tupleE, listE, allE, anyE, itemsOf, binE, modE, fdivE, mulE, addE, subE, negE, powE, asH, asI, asHs, ixE, slE, ownL, putE, fr, asVar, isiE, Turned, List.set_cons_succ, List.set_cons_zero, List.map_cons, List.map_nil, List.getElem?_cons_succ, List.getElem?_cons_zero, Option.map_some, Option.join_some, bind, Option.bind_some, ok_bind, ok_some, ok_map, if_true, if_false, ite_true, ite_false, Bool.and_true, Bool.true_and, Bool.and_false, Bool.false_and, decide_true, decide_false, Bool.false_eq_true, not_true_eq_false, not_false_eq_true, Bool.not_true, Bool.not_false, Bool.or_true, Bool.true_or, Bool.or_false, Bool.false_or, List.length_nil, List.length_cons, Nat.zero_add, Int.zero_add, true_and, and_true, and_self, false_and, and_false, or_true, true_or, or_false, false_or, not_true, not_false_iff, decide_eq_true_eq, Bool.not_eq_true, ne_eq, reduceCtorEq, bl_len, hsh, e0]
  refine ok_loopR (a := 0) (b := h) (fun i β => ∃ v2 v3 v4 v5 v6, β = [some (.im (.h (.tup (bl h w F)))), some (.ow (.l (bl i w G))), v2, v3, v4, v5, v6]) ⟨none, none, none, none, none, rfl⟩ (fun i β hi ⟨v2, v3, v4, v5, v6, hbe⟩ => ?_) fun β ⟨v2, v3, v4, v5, v6, hbe⟩ => ?_
  · subst hbe
    have hi' : i < h := by omega
    have hlS : i < sizeLine := lt_line (by omega)
    simp -implicitDefEqProofs only [b19_L2, b19_T0, b19_T1, b19_T2, b19_T3, b19_T4, b19_T5, b19, eqE_bl, bbeq_tf, bbeq_ft, beq_self_eq_true, frz, frzAll, srcI, srcVars, srcOk, Option.toList, Option.isSome_none, Option.isSome_some, eqE_int, eq_self, evSs, evS, evE, evEs, evO, evC, evI, bindB_nm, bindB_tp, bindBs_nil, bindBs_cons, bindE_nm, bindE_tp, bindEs_nil, bindEs_cons, wipeE, view, Bd.v, truE, cmpE, gtV, ltV, leV, geV, ltE, isV, isntV, neV, ninV, isNon, biE, intE, lenE, absE, minE, maxE, sumE, tupleE, listE, allE, anyE, itemsOf, binE, modE, fdivE, mulE, addE, subE, negE, powE, asH, asI, asHs, ixE, slE, ownL, putE, fr, asVar, isiE, Turned, List.set_cons_succ, List.set_cons_zero, List.map_cons, List.map_nil, List.getElem?_cons_succ, List.getElem?_cons_zero, Option.map_some, Option.join_some, bind, Option.bind_some, ok_bind, ok_some, ok_map, if_true, if_false, ite_true, ite_false, Bool.and_true, Bool.true_and, Bool.and_false, Bool.false_and, decide_true, decide_false, Bool.false_eq_true, not_true_eq_false, not_false_eq_true, Bool.not_true, Bool.not_false, Bool.or_true, Bool.true_or, Bool.or_false, Bool.false_or, List.length_nil, List.length_cons, Nat.zero_add, Int.zero_add, true_and, and_true, and_self, false_and, and_false, or_true, true_or, or_false, false_or, not_true, not_false_iff, decide_eq_true_eq, Bool.not_eq_true, ne_eq, reduceCtorEq, e0, a0, ht, tl_len, hsw]
    refine ok_loopR (a := 0) (b := w) (fun j β => ∃ v4 v5 v6, β = [some (.im (.h (.tup (bl h w F)))), some (.ow (.l (bl i w G))), some (.im (.h (.int i))), some (.ow (.l (tl j (G i)))), v4, v5, v6]) ⟨v4, v5, v6, rfl⟩ (fun j β hj ⟨v4, v5, v6, hbe⟩ => ?_) fun β ⟨v4, v5, v6, hbe⟩ => ?_
    · subst hbe
      have hj' : j < w := by omega
      have hlT : j < sizeLine := lt_line (by omega)
      have m1 : (if (i : Int) - 1 > 0 then (i : Int) - 1 else 0) = ((i - 1 : Nat) : Int) := by split <;> omega
      have m2 : (if (i : Int) + 2 < (h : Int) then (i : Int) + 2 else (h : Int)) = ((min (i + 2) h : Nat) : Int) := by split <;> omega
      have s1 : small62 ((i - 1 : Nat) : Int) = true := small62_nat (by omega)
      have s2 : small62 ((min (i + 2) h : Nat) : Int) = true := small62_nat (by omega)
      simp -implicitDefEqProofs only [b19_L1, b19_T0, b19_T1, b19_T2, b19_T3, b19_T4, b19_T5, b19, eqE_bl, bbeq_tf, bbeq_ft, beq_self_eq_true, frz, frzAll, srcI, srcVars, srcOk, Option.toList, Option.isSome_none, Option.isSome_some, eqE_int, eq_self, evSs, evS, evE, evEs, evO, evC, evI, bindB_nm, bindB_tp, bindBs_nil, bindBs_cons, bindE_nm, bindE_tp, bindEs_nil, bindEs_cons, wipeE, view, Bd.v, truE, cmpE, gtV, ltV, leV, geV, ltE, isV, isntV, neV, ninV, isNon, biE, intE, lenE, absE, minE, maxE, sumE, tupleE, listE, allE, anyE, itemsOf, binE, modE, fdivE, mulE, addE, subE, negE, powE, asH, asI, asHs, ixE, slE, ownL, putE, fr, asVar, isiE, Turned, List.set_cons_succ, List.set_cons_zero, List.map_cons, List.map_nil, List.getElem?_cons_succ, List.getElem?_cons_zero, Option.map_some, Option.join_some, bind, Option.bind_some, ok_bind, ok_some, ok_map, if_true, if_false, ite_true, ite_false, Bool.and_true, Bool.true_and, Bool.and_false, Bool.false_and, decide_true, decide_false, Bool.false_eq_true, not_true_eq_false, not_false_eq_true, Bool.not_true, Bool.not_false, Bool.or_true, Bool.true_or, Bool.or_false, Bool.false_or, List.length_nil, List.length_cons, Nat.zero_add, Int.zero_add, true_and, and_true, and_self, false_and, and_false, or_true, true_or, or_false, false_or, not_true, not_false_iff, decide_eq_true_eq, Bool.not_eq_true, ne_eq, reduceCtorEq, bl_len, m1, m2, s1, s2]
      refine ok_loopR (a := ((i - 1 : Nat) : Int)) (b := ((min (i + 2) h : Nat) : Int)) (fun m β => ∃ v6, β = [some (.im (.h (.tup (bl h w F)))), some (.ow (.l (bl i w G))), some (.im (.h (.int i))), some (.ow (.l (tl j (G i)))), some (.im (.h (.int j))), some (.im (.h (.int (sumR m fun t => near w (F (i - 1 + t)) j)))), v6]) ⟨v6, rfl⟩ (fun m β hm ⟨v6, hbe⟩ => ?_) fun β ⟨v6, hbe⟩ => ?_
      · subst hbe
        have a1 := atI_bl (w := w) (F := F) (n := h) (i := i - 1 + m) (by omega)
        rw [show ((i - 1 + m : Nat) : Int) = ((i - 1 : Nat) : Int) + (m : Int) by omega] at a1
        simp -implicitDefEqProofs only [b19_L0, eqE_bl, bbeq_tf, bbeq_ft, beq_self_eq_true, frz, frzAll, srcI, srcVars, srcOk, Option.toList, Option.isSome_none, Option.isSome_some, eqE_int, eq_self, evSs, evS, evE, evEs, evO, evC, evI, bindB_nm, bindB_tp, bindBs_nil, bindBs_cons, bindE_nm, bindE_tp, bindEs_nil, bindEs_cons, wipeE, view, Bd.v, truE, cmpE, gtV, ltV, leV, geV, ltE, isV, isntV, neV, ninV, isNon, biE, intE, lenE, absE, minE, maxE, sumE, tupleE, listE, allE, anyE, itemsOf, binE, modE, fdivE, mulE, addE, subE, negE, powE, asH, asI, asHs, ixE, slE, ownL, putE, fr, asVar, isiE, Turned, List.set_cons_succ, List.set_cons_zero, List.map_cons, List.map_nil, List.getElem?_cons_succ, List.getElem?_cons_zero, Option.map_some, Option.join_some, bind, Option.bind_some, ok_bind, ok_some, ok_map, if_true, if_false, ite_true, ite_false, Bool.and_true, Bool.true_and, Bool.and_false, Bool.false_and, decide_true, decide_false, Bool.false_eq_true, not_true_eq_false, not_false_eq_true, Bool.not_true, Bool.not_false, Bool.or_true, Bool.true_or, Bool.or_false, Bool.false_or, List.length_nil, List.length_cons, Nat.zero_add, Int.zero_add, true_and, and_true, and_self, false_and, and_false, or_true, true_or, or_false, false_or, not_true, not_false_iff, decide_eq_true_eq, Bool.not_eq_true, ne_eq, reduceCtorEq, a1, ht, win_sum w j (F (i - 1 + m)) hj', asInts_tl, sum_range, sum_win w j (F (i - 1 + m)) hj']
        exact ⟨_, rfl⟩
      · subst hbe
        have e := sum_win h i (fun k => near w (F k) j) hi'
        rw [show (((min (i + 2) h : Nat) : Int) - ((i - 1 : Nat) : Int)).toNat = min (i + 2) h - (i - 1) by omega, e]
        simp -implicitDefEqProofs only [b19_T0, b19_T1, b19_T2, b19_T3, b19_T4, b19_T5, b19, eqE_bl, bbeq_tf, bbeq_ft, beq_self_eq_true, frz, frzAll, srcI, srcVars, srcOk, Option.toList, Option.isSome_none, Option.isSome_some, eqE_int, eq_self, evSs, evS, evE, evEs, evO, evC, evI, bindB_nm, bindB_tp, bindBs_nil, bindBs_cons, bindE_nm, bindE_tp, bindEs_nil, bindEs_cons, wipeE, view, Bd.v, truE, cmpE, gtV, ltV, leV, geV, ltE, isV, isntV, neV, ninV, isNon, biE, intE, lenE, absE, minE, maxE, sumE, tupleE, listE, allE, anyE, itemsOf, binE, modE, fdivE, mulE, addE, subE, negE, powE, asH, asI, asHs, ixE, slE, ownL, putE, fr, asVar, isiE, Turned, List.set_cons_succ, List.set_cons_zero, List.map_cons, List.map_nil, List.getElem?_cons_succ, List.getElem?_cons_zero, Option.map_some, Option.join_some, bind, Option.bind_some, ok_bind, ok_some, ok_map, if_true, if_false, ite_true, ite_false, Bool.and_true, Bool.true_and, Bool.and_false, Bool.false_and, decide_true, decide_false, Bool.false_eq_true, not_true_eq_false, not_false_eq_true, Bool.not_true, Bool.not_false, Bool.or_true, Bool.true_or, Bool.or_false, Bool.false_or, List.length_nil, List.length_cons, Nat.zero_add, Int.zero_add, true_and, and_true, and_self, false_and, and_false, or_true, true_or, or_false, false_or, not_true, not_false_iff, decide_eq_true_eq, Bool.not_eq_true, ne_eq, reduceCtorEq, tl_len, hlT]
        exact ⟨_, _, _, by rw [tl_succ]⟩
    · subst hbe
      rw [show ((w : Int) - 0).toNat = w by omega]
      simp -implicitDefEqProofs only [b19_T0, b19_T1, b19_T2, b19_T3, b19_T4, b19_T5, b19, eqE_bl, bbeq_tf, bbeq_ft, beq_self_eq_true, frz, frzAll, srcI, srcVars, srcOk, Option.toList, Option.isSome_none, Option.isSome_some, eqE_int, eq_self, evSs, evS, evE, evEs, evO, evC, evI, bindB_nm, bindB_tp, bindBs_nil, bindBs_cons, bindE_nm, bindE_tp, bindEs_nil, bindEs_cons, wipeE, view, Bd.v, truE, cmpE, gtV, ltV, leV, geV, ltE, isV, isntV, neV, ninV, isNon, biE, intE, lenE, absE, minE, maxE, sumE, tupleE, listE, allE, anyE, itemsOf, binE, modE, fdivE, mulE, addE, subE, negE, powE, asH, asI, asHs, ixE, slE, ownL, putE, fr, asVar, isiE, Turned, List.set_cons_succ, List.set_cons_zero, List.map_cons, List.map_nil, List.getElem?_cons_succ, List.getElem?_cons_zero, Option.map_some, Option.join_some, bind, Option.bind_some, ok_bind, ok_some, ok_map, if_true, if_false, ite_true, ite_false, Bool.and_true, Bool.true_and, Bool.and_false, Bool.false_and, decide_true, decide_false, Bool.false_eq_true, not_true_eq_false, not_false_eq_true, Bool.not_true, Bool.not_false, Bool.or_true, Bool.true_or, Bool.or_false, Bool.false_or, List.length_nil, List.length_cons, Nat.zero_add, Int.zero_add, true_and, and_true, and_self, false_and, and_false, or_true, true_or, or_false, false_or, not_true, not_false_iff, decide_eq_true_eq, Bool.not_eq_true, ne_eq, reduceCtorEq, bl_len, hlS]
      exact ⟨_, _, _, _, _, by rw [bl_succ]; rfl⟩
  · subst hbe
    rw [show ((h : Int) - 0).toNat = h by omega]
    simp -implicitDefEqProofs only [b19_T0, b19_T1, b19_T2, b19_T3, b19_T4, b19_T5, b19, eqE_bl, bbeq_tf, bbeq_ft, beq_self_eq_true, frz, frzAll, srcI, srcVars, srcOk, Option.toList, Option.isSome_none, Option.isSome_some, eqE_int, eq_self, evSs, evS, evE, evEs, evO, evC, evI, bindB_nm, bindB_tp, bindBs_nil, bindBs_cons, bindE_nm, bindE_tp, bindEs_nil, bindEs_cons, wipeE, view, Bd.v, truE, cmpE, gtV, ltV, leV, geV, ltE, isV, isntV, neV, ninV, isNon, biE, intE, lenE, absE, minE, maxE, sumE, tupleE, listE, allE, anyE, itemsOf, binE, modE, fdivE, mulE, addE, subE, negE, powE, asH, asI, asHs, ixE, slE, ownL, putE, fr, asVar, isiE, Turned, List.set_cons_succ, List.set_cons_zero, List.map_cons, List.map_nil, List.getElem?_cons_succ, List.getElem?_cons_zero, Option.map_some, Option.join_some, bind, Option.bind_some, ok_bind, ok_some, ok_map, if_true, if_false, ite_true, ite_false, Bool.and_true, Bool.true_and, Bool.and_false, Bool.false_and, decide_true, decide_false, Bool.false_eq_true, not_true_eq_false, not_false_eq_true, Bool.not_true, Bool.not_false, Bool.or_true, Bool.true_or, Bool.or_false, Bool.false_or, List.length_nil, List.length_cons, Nat.zero_add, Int.zero_add, true_and, and_true, and_self, false_and, and_false, or_true, true_or, or_false, false_or, not_true, not_false_iff, decide_eq_true_eq, Bool.not_eq_true, ne_eq, reduceCtorEq]
    rfl
theorem mk_true {n : Nat} : asBools ((List.range n).map fun _ => Dt.bl true) = some (List.replicate n true) := by rw [repl_eq, asBools_repl]
theorem run_isInts (n : Nat) (f : Nat → Int) (hn : n ≤ 1000) (c11 : ∀ i : Int, cf 11 [.h (.int i)] = some (.h (.bl true))) : runB cf wf ⟨1, 2, b15⟩ [.h (tf n f)] = some (.h (.bl true)) := by
  have hs : startE 2 [.h (.tup (tl n f))] = [some (.im (.h (.tup (tl n f)))), none] := rfl
  have hl : n < sizeLine := lt_line (by omega)
  rw [← ok_eq]
  simp -implicitDefEqProofs only [tf, runB, b15, hs, eqE_bl, bbeq_tf, bbeq_ft, beq_self_eq_true, frz, frzAll, srcI, srcVars, srcOk, Option.toList, Option.isSome_none, Option.isSome_some, eqE_int, eq_self, evSs, evS, evE, evEs, evO, evC, evI, bindB_nm, bindB_tp, bindBs_nil, bindBs_cons, bindE_nm, bindE_tp, bindEs_nil, bindEs_cons, wipeE, view, Bd.v, truE, cmpE, gtV, ltV, leV, geV, ltE, isV, isntV, neV, ninV, isNon, biE, intE, lenE, absE, minE, maxE, sumE, tupleE, listE, allE, anyE, itemsOf, binE, modE, fdivE, mulE, addE, subE, negE, powE, asH, asI, asHs, ixE, slE, ownL, putE, fr, asVar, isiE, Turned, List.set_cons_succ, List.set_cons_zero, List.map_cons, List.map_nil, List.getElem?_cons_succ, List.getElem?_cons_zero, Option.map_some, Option.join_some, bind, Option.bind_some, ok_bind, ok_some, ok_map, if_true, if_false, ite_true, ite_false, Bool.and_true, Bool.true_and, Bool.and_false, Bool.false_and, decide_true, decide_false, Bool.false_eq_true, not_true_eq_false, not_false_eq_true, Bool.not_true, Bool.not_false, Bool.or_true, Bool.true_or, Bool.or_false, Bool.false_or, List.length_nil, List.length_cons, Nat.zero_add, Int.zero_add, true_and, and_true, and_self, false_and, and_false, or_true, true_or, or_false, false_or, not_true, not_false_iff, decide_eq_true_eq, Bool.not_eq_true, ne_eq, reduceCtorEq]
  refine ok_of (compL_fn (n := n) (e := fun i => .int (f i)) (fun _ => .bl true) fun i hi => ?_) ?_
  · rw [← ok_eq]
    simp -implicitDefEqProofs only [b15_C0, eqE_bl, bbeq_tf, bbeq_ft, beq_self_eq_true, frz, frzAll, srcI, srcVars, srcOk, Option.toList, Option.isSome_none, Option.isSome_some, eqE_int, eq_self, evSs, evS, evE, evEs, evO, evC, evI, bindB_nm, bindB_tp, bindBs_nil, bindBs_cons, bindE_nm, bindE_tp, bindEs_nil, bindEs_cons, wipeE, view, Bd.v, truE, cmpE, gtV, ltV, leV, geV, ltE, isV, isntV, neV, ninV, isNon, biE, intE, lenE, absE, minE, maxE, sumE, tupleE, listE, allE, anyE, itemsOf, binE, modE, fdivE, mulE, addE, subE, negE, powE, asH, asI, asHs, ixE, slE, ownL, putE, fr, asVar, isiE, Turned, List.set_cons_succ, List.set_cons_zero, List.map_cons, List.map_nil, List.getElem?_cons_succ, List.getElem?_cons_zero, Option.map_some, Option.join_some, bind, Option.bind_some, ok_bind, ok_some, ok_map, if_true, if_false, ite_true, ite_false, Bool.and_true, Bool.true_and, Bool.and_false, Bool.false_and, decide_true, decide_false, Bool.false_eq_true, not_true_eq_false, not_false_eq_true, Bool.not_true, Bool.not_false, Bool.or_true, Bool.true_or, Bool.or_false, Bool.false_or, List.length_nil, List.length_cons, Nat.zero_add, Int.zero_add, true_and, and_true, and_self, false_and, and_false, or_true, true_or, or_false, false_or, not_true, not_false_iff, decide_eq_true_eq, Bool.not_eq_true, ne_eq, reduceCtorEq, c11]
  · simp -implicitDefEqProofs only [eqE_bl, bbeq_tf, bbeq_ft, beq_self_eq_true, frz, frzAll, srcI, srcVars, srcOk, Option.toList, Option.isSome_none, Option.isSome_some, eqE_int, eq_self, evSs, evS, evE, evEs, evO, evC, evI, bindB_nm, bindB_tp, bindBs_nil, bindBs_cons, bindE_nm, bindE_tp, bindEs_nil, bindEs_cons, wipeE, view, Bd.v, truE, cmpE, gtV, ltV, leV, geV, ltE, isV, isntV, neV, ninV, isNon, biE, intE, lenE, absE, minE, maxE, sumE, tupleE, listE, allE, anyE, itemsOf, binE, modE, fdivE, mulE, addE, subE, negE, powE, asH, asI, asHs, ixE, slE, ownL, putE, fr, asVar, isiE, Turned, List.set_cons_succ, List.set_cons_zero, List.map_cons, List.map_nil, List.getElem?_cons_succ, List.getElem?_cons_zero, Option.map_some, Option.join_some, bind, Option.bind_some, ok_bind, ok_some, ok_map, if_true, if_false, ite_true, ite_false, Bool.and_true, Bool.true_and, Bool.and_false, Bool.false_and, decide_true, decide_false, Bool.false_eq_true, not_true_eq_false, not_false_eq_true, Bool.not_true, Bool.not_false, Bool.or_true, Bool.true_or, Bool.or_false, Bool.false_or, List.length_nil, List.length_cons, Nat.zero_add, Int.zero_add, true_and, and_true, and_self, false_and, and_false, or_true, true_or, or_false, false_or, not_true, not_false_iff, decide_eq_true_eq, Bool.not_eq_true, ne_eq, reduceCtorEq, tl_len, hl, mk_true, all_repl]
theorem run_lsums (n : Nat) (s : Nat → Int) (hn : n ≤ 1000) (h0 : 0 < n) (c4 : cf 4 [.h (tf n s)] = some (.h (if imb n s = 0 then tf n (told n s) else .non))) (c16 : cf 16 [.h (tf n s)] = some (.h (.int (imb n s))))
    (c13 : ∀ n f, n ≤ 1000 → cf 13 [.h (tf n f)] = some (.h (.bl true))) (c14 : ∀ n f, n ≤ 1000 → cf 14 [.h (tf n f)] = some (.h (tf n (near n f)))) : runB cf wf ⟨1, 2, b21⟩ [.h (tf n s)] = some (.h (.bl true)) := by
  have hs : startE 2 [.h (tf n s)] = [some (.im (.h (tf n s))), none] := rfl
  have ht : ∀ n f, lenE [.h (tf n f)] = some (.h (.int (n : Nat))) := fun n f => by simp -implicitDefEqProofs only [tf, lenE, tl_len]
  have c3 : (0 : Int) < 3 := by decide
  rw [← ok_eq]
  by_cases h : imb n s = 0
  · rw [if_pos h] at c4
    have e1 := near_told n s h
    have e2 : (∀ i, i < n → near n (told n s) i = s i) = True := eq_true e1
    have hx : ixE (.h (tf n (told n s))) (.h (.int 0)) = some (.h (.int (told n s 0))) := by
      have := atI_tl (f := told n s) (i := 0) h0
      simp -implicitDefEqProofs only [tf, ixE]
      rw [show (0 : Int) = ((0 : Nat) : Int) by rfl, this]
      rfl
    have hlen : ∀ x : Vl, lenE [x] = lenE [x] := fun _ => rfl
    simp -implicitDefEqProofs only [runB, b21_I0, b21_I1, b21_T0, b21_T1, b21_T2, b21, hs, evSs, evS, evE, evEs, view, Bd.v, List.map_cons, List.map_nil, List.getElem?_cons_zero, List.getElem?_cons_succ, Option.map_some, Option.join_some, bind, Option.bind_some, c4, c16, h, cmpE, neV, eqE_int, truE, if_false, Bool.false_eq_true, decide_true, Bool.not_true, putE, List.set_cons_succ, List.set_cons_zero, c13 n _ hn, Bool.not_false, biE, ht, c14 n _ hn, eqE_tf, e2]
    by_cases h3 : n % 3 = 2
    · have h4 : (n : Int) % 3 = 2 := by omega
      have h5 : told n s 0 = 0 := fst_two n s h h3
      simp -implicitDefEqProofs only [b21_I0, b21_I1, b21_T0, b21_T1, b21_T2, b21, eqE_bl, bbeq_tf, bbeq_ft, beq_self_eq_true, frz, frzAll, srcI, srcVars, srcOk, Option.toList, Option.isSome_none, Option.isSome_some, eqE_int, eq_self, evSs, evS, evE, evEs, evO, evC, evI, bindB_nm, bindB_tp, bindBs_nil, bindBs_cons, bindE_nm, bindE_tp, bindEs_nil, bindEs_cons, wipeE, view, Bd.v, truE, cmpE, gtV, ltV, leV, geV, ltE, isV, isntV, neV, ninV, isNon, biE, intE, lenE, absE, minE, maxE, sumE, tupleE, listE, allE, anyE, itemsOf, binE, modE, fdivE, mulE, addE, subE, negE, powE, asH, asI, asHs, ixE, slE, ownL, putE, fr, asVar, isiE, Turned, List.set_cons_succ, List.set_cons_zero, List.map_cons, List.map_nil, List.getElem?_cons_succ, List.getElem?_cons_zero, Option.map_some, Option.join_some, bind, Option.bind_some, ok_bind, ok_some, ok_map, if_true, if_false, ite_true, ite_false, Bool.and_true, Bool.true_and, Bool.and_false, Bool.false_and, decide_true, decide_false, Bool.false_eq_true, not_true_eq_false, not_false_eq_true, Bool.not_true, Bool.not_false, Bool.or_true, Bool.true_or, Bool.or_false, Bool.false_or, List.length_nil, List.length_cons, Nat.zero_add, Int.zero_add, true_and, and_true, and_self, false_and, and_false, or_true, true_or, or_false, false_or, not_true, not_false_iff, decide_eq_true_eq, Bool.not_eq_true, ne_eq, reduceCtorEq, ht, c3, h4]
      refine ok_of hx ?_
      simp -implicitDefEqProofs only [h5, eqE_bl, bbeq_tf, bbeq_ft, beq_self_eq_true, frz, frzAll, srcI, srcVars, srcOk, Option.toList, Option.isSome_none, Option.isSome_some, eqE_int, eq_self, evSs, evS, evE, evEs, evO, evC, evI, bindB_nm, bindB_tp, bindBs_nil, bindBs_cons, bindE_nm, bindE_tp, bindEs_nil, bindEs_cons, wipeE, view, Bd.v, truE, cmpE, gtV, ltV, leV, geV, ltE, isV, isntV, neV, ninV, isNon, biE, intE, lenE, absE, minE, maxE, sumE, tupleE, listE, allE, anyE, itemsOf, binE, modE, fdivE, mulE, addE, subE, negE, powE, asH, asI, asHs, ixE, slE, ownL, putE, fr, asVar, isiE, Turned, List.set_cons_succ, List.set_cons_zero, List.map_cons, List.map_nil, List.getElem?_cons_succ, List.getElem?_cons_zero, Option.map_some, Option.join_some, bind, Option.bind_some, ok_bind, ok_some, ok_map, if_true, if_false, ite_true, ite_false, Bool.and_true, Bool.true_and, Bool.and_false, Bool.false_and, decide_true, decide_false, Bool.false_eq_true, not_true_eq_false, not_false_eq_true, Bool.not_true, Bool.not_false, Bool.or_true, Bool.true_or, Bool.or_false, Bool.false_or, List.length_nil, List.length_cons, Nat.zero_add, Int.zero_add, true_and, and_true, and_self, false_and, and_false, or_true, true_or, or_false, false_or, not_true, not_false_iff, decide_eq_true_eq, Bool.not_eq_true, ne_eq, reduceCtorEq]
    · have h4 : ¬ (n : Int) % 3 = 2 := by omega
      simp -implicitDefEqProofs only [b21_I0, b21_I1, b21_T0, b21_T1, b21_T2, b21, eqE_bl, bbeq_tf, bbeq_ft, beq_self_eq_true, frz, frzAll, srcI, srcVars, srcOk, Option.toList, Option.isSome_none, Option.isSome_some, eqE_int, eq_self, evSs, evS, evE, evEs, evO, evC, evI, bindB_nm, bindB_tp, bindBs_nil, bindBs_cons, bindE_nm, bindE_tp, bindEs_nil, bindEs_cons, wipeE, view, Bd.v, truE, cmpE, gtV, ltV, leV, geV, ltE, isV, isntV, neV, ninV, isNon, biE, intE, lenE, absE, minE, maxE, sumE, tupleE, listE, allE, anyE, itemsOf, binE, modE, fdivE, mulE, addE, subE, negE, powE, asH, asI, asHs, ixE, slE, ownL, putE, fr, asVar, isiE, Turned, List.set_cons_succ, List.set_cons_zero, List.map_cons, List.map_nil, List.getElem?_cons_succ, List.getElem?_cons_zero, Option.map_some, Option.join_some, bind, Option.bind_some, ok_bind, ok_some, ok_map, if_true, if_false, ite_true, ite_false, Bool.and_true, Bool.true_and, Bool.and_false, Bool.false_and, decide_true, decide_false, Bool.false_eq_true, not_true_eq_false, not_false_eq_true, Bool.not_true, Bool.not_false, Bool.or_true, Bool.true_or, Bool.or_false, Bool.false_or, List.length_nil, List.length_cons, Nat.zero_add, Int.zero_add, true_and, and_true, and_self, false_and, and_false, or_true, true_or, or_false, false_or, not_true, not_false_iff, decide_eq_true_eq, Bool.not_eq_true, ne_eq, reduceCtorEq, ht, c3, h4]
  · rw [if_neg h] at c4
    simp -implicitDefEqProofs only [runB, b21_I0, b21_I1, b21_T0, b21_T1, b21_T2, b21, hs, eqE_bl, bbeq_tf, bbeq_ft, beq_self_eq_true, frz, frzAll, srcI, srcVars, srcOk, Option.toList, Option.isSome_none, Option.isSome_some, eqE_int, eq_self, evSs, evS, evE, evEs, evO, evC, evI, bindB_nm, bindB_tp, bindBs_nil, bindBs_cons, bindE_nm, bindE_tp, bindEs_nil, bindEs_cons, wipeE, view, Bd.v, truE, cmpE, gtV, ltV, leV, geV, ltE, isV, isntV, neV, ninV, isNon, biE, intE, lenE, absE, minE, maxE, sumE, tupleE, listE, allE, anyE, itemsOf, binE, modE, fdivE, mulE, addE, subE, negE, powE, asH, asI, asHs, ixE, slE, ownL, putE, fr, asVar, isiE, Turned, List.set_cons_succ, List.set_cons_zero, List.map_cons, List.map_nil, List.getElem?_cons_succ, List.getElem?_cons_zero, Option.map_some, Option.join_some, bind, Option.bind_some, ok_bind, ok_some, ok_map, if_true, if_false, ite_true, ite_false, Bool.and_true, Bool.true_and, Bool.and_false, Bool.false_and, decide_true, decide_false, Bool.false_eq_true, not_true_eq_false, not_false_eq_true, Bool.not_true, Bool.not_false, Bool.or_true, Bool.true_or, Bool.or_false, Bool.false_or, List.length_nil, List.length_cons, Nat.zero_add, Int.zero_add, true_and, and_true, and_self, false_and, and_false, or_true, true_or, or_false, false_or, not_true, not_false_iff, decide_eq_true_eq, Bool.not_eq_true, ne_eq, reduceCtorEq, c4, c16, h]
theorem near_gh (n : Nat) (h : n % 3 = 2) : ∀ i, i < n → near n gh i = 0 := fun i hi => by
  unfold near
  have g := gh_val n
  cases i with
  | zero =>
    rw [if_pos rfl, if_pos (by omega)]
    rfl
  | succ i =>
    have g3 := gh3 i
    rw [if_neg (by omega)]
    simp -implicitDefEqProofs only [Nat.add_sub_cancel]
    by_cases h1 : i + 1 + 1 < n
    · rw [if_pos h1]
      exact g3
    · rw [if_neg h1]
      have e : n = i + 2 := by omega
      subst e
      omega
theorem repl_zero : ∀ n : Nat, repl n [Dt.int 0] = tl n fun _ => 0
  | 0 => rfl
  | n + 1 => by
    have e : repl (n + 1) [Dt.int 0] = repl n [Dt.int 0] ++ [Dt.int 0] := by
      unfold repl
      rw [List.replicate_succ', List.flatten_append]
      rfl
    rw [e, repl_zero n, tl_succ]
theorem mul_zero (n : Nat) (hn : n ≤ 1000) : mulE (.h (.tup [.int 0])) (.h (.int (n : Nat))) = some (.h (tf n fun _ => 0)) := by
  have hc : (-(2 ^ 63) : Int) ≤ (n : Int) ∧ (n : Int) ≤ 1000 ∧ [Dt.int 0].length ≤ 1000 := ⟨by omega, by omega, by decide⟩
  unfold mulE
  simp -implicitDefEqProofs only [if_pos hc]
  rw [show ((n : Int)).toNat = n by omega, repl_zero]
  rfl
theorem run_ltuple (n : Nat) (f : Nat → Int) (hn : n ≤ 1000) (h0 : 0 < n) (c0 : ∀ n f, n ≤ 1000 → cf 0 [.h (tf n f)] = some (.h (tf n (near n f)))) (c1 : cf 1 [.h (.int n)] = some (.h (if n % 3 = 2 then tf n gh else .non)))
    (c2 : ∀ n f, n ≤ 1000 → cf 2 [.h (tf n f)] = some (.h (.int (imb n f)))) (c4 : ∀ n f, 0 < n → n ≤ 1000 → cf 4 [.h (tf n f)] = some (.h (if imb n f = 0 then tf n (told n f) else .non))) (c12 : ∀ d, fitD d = true → dep d ≤ 3 → cf 12 [.h d, .h d] = some (.h (.bl true)))
    (c14 : ∀ n f, n ≤ 1000 → cf 14 [.h (tf n f)] = some (.h (tf n (near n f)))) (c15 : cf 15 [.h (.int n)] = some (.h (if n % 3 = 2 then tf n gh else .non))) (c16 : ∀ n f, n ≤ 1000 → cf 16 [.h (tf n f)] = some (.h (.int (imb n f)))) :
    runB cf wf ⟨1, 6, b20⟩ [.h (tf n f)] = some (.h (.bl true)) := by
  have hs : startE 6 [.h (tf n f)] = [some (.im (.h (tf n f))), none, none, none, none, none] := rfl
  have ht : ∀ n f, lenE [.h (tf n f)] = some (.h (.int (n : Nat))) := fun n f => by simp -implicitDefEqProofs only [tf, lenE, tl_len]
  have hsm : small62 (n : Int) = true := small62_nat (by omega)
  have hl : ((n : Int) - 0).toNat < sizeLine := lt_line (by omega)
  have l1 : 1 ≤ sizeLine := le_line (by omega)
  have q : ∀ f, cf 12 [.h (tf n f), .h (tf n f)] = some (.h (.bl true)) := fun f => c12 _ (fit_tf (by omega)) (by have := dep_tf (n := n) (f := f); omega)
  have qi : ∀ i : Int, cf 12 [.h (.int i), .h (.int i)] = some (.h (.bl true)) := fun i => c12 _ rfl (by simp [dep])
  have qn : cf 12 [.h .non, .h .non] = some (.h (.bl true)) := c12 _ rfl (by simp [dep])
  have w1 := c4 n (near n f) h0 hn
  rw [if_pos (imb_near n f h0), tf_congr (told_near n f h0)] at w1
  have i0 := imb_near n f h0
  rw [← ok_eq]
  by_cases h : n % 3 = 2
  · simp -implicitDefEqProofs only [if_pos h] at c1 c15 w1
    have hg : isntV (.h (tf n gh)) (.h .non) = some true := rfl
    have hg2 : isV (.h (tf n gh)) (.h .non) = some false := rfl
    have m0 := mul_zero n hn
    have e2 : (∀ i, i < n → near n gh i = (fun _ => (0 : Int)) i) = True := eq_true (near_gh n h)
    simp -implicitDefEqProofs only [runB, b20_I0, b20_I1, b20_I2, b20_T0, b20_T1, b20_T2, b20_T3, b20_T4, b20_T5, b20_T6, b20, hs, evSs, evS, evE, evEs, evI, view, Bd.v, List.map_cons, List.map_nil, List.getElem?_cons_zero, List.getElem?_cons_succ, Option.map_some, Option.join_some, bind, Option.bind_some, biE, ht, c14 n _ hn, c15, putE, List.set_cons_succ, List.set_cons_zero, cmpE, hg, truE, if_true, asI, hsm, ok_bind]
    refine ok_of (compL_rng0 (fun i => .int (f i - f 0 * gh i)) n fun i hi => ?_) ?_
    · rw [← ok_eq]
      have a1 := atI_tl (f := f) hi
      have a2 := atI_tl (f := gh) hi
      have a0 : atI (tl n f) 0 = some (.int (f 0)) := atI_tl (i := 0) h0
      have hm : mulOk (f 0) (gh i) = true := mulOk_r (gh_small i)
      simp -implicitDefEqProofs only [b20_C0, eqE_bl, bbeq_tf, bbeq_ft, beq_self_eq_true, frz, frzAll, srcI, srcVars, srcOk, Option.toList, Option.isSome_none, Option.isSome_some, eqE_int, eq_self, evSs, evS, evE, evEs, evO, evC, evI, bindB_nm, bindB_tp, bindBs_nil, bindBs_cons, bindE_nm, bindE_tp, bindEs_nil, bindEs_cons, wipeE, view, Bd.v, truE, cmpE, gtV, ltV, leV, geV, ltE, isV, isntV, neV, ninV, isNon, biE, intE, lenE, absE, minE, maxE, sumE, tupleE, listE, allE, anyE, itemsOf, binE, modE, fdivE, mulE, addE, subE, negE, powE, asH, asI, asHs, ixE, slE, ownL, putE, fr, asVar, isiE, Turned, List.set_cons_succ, List.set_cons_zero, List.map_cons, List.map_nil, List.getElem?_cons_succ, List.getElem?_cons_zero, Option.map_some, Option.join_some, bind, Option.bind_some, ok_bind, ok_some, ok_map, if_true, if_false, ite_true, ite_false, Bool.and_true, Bool.true_and, Bool.and_false, Bool.false_and, decide_true, decide_false, Bool.false_eq_true, not_true_eq_false, not_false_eq_true, Bool.not_true, Bool.not_false, Bool.or_true, Bool.true_or, Bool.or_false, Bool.false_or, List.length_nil, List.length_cons, Nat.zero_add, Int.zero_add, true_and, and_true, and_self, false_and, and_false, or_true, true_or, or_false, false_or, not_true, not_false_iff, decide_eq_true_eq, Bool.not_eq_true, ne_eq, reduceCtorEq, tf, a1, a2, a0, hm]
    · have ew : Dt.tup ((List.range n).map fun i => .int (f i - f 0 * gh i)) = tf n fun i => f i - f 0 * gh i := rfl
      have l2 : (rngD 0 (n : Int)).length < sizeLine := by rw [rngD_len']; exact hl
      simp -implicitDefEqProofs only [b20_I0, b20_I1, b20_I2, b20_T0, b20_T1, b20_T2, b20_T3, b20_T4, b20_T5, b20_T6, b20, evSs, evS, evE, evEs, evI, view, Bd.v, List.map_cons, List.map_nil, List.getElem?_cons_zero, List.getElem?_cons_succ, Option.map_some, Option.join_some, bind, Option.bind_some, biE, ht, c0 n _ hn, c1, c2 n _ hn, c14 n _ hn, c15, c16 n _ hn, putE, List.set_cons_succ, List.set_cons_zero, cmpE, hg, hg2, truE, if_true, if_false, Bool.false_eq_true, asI, hsm, ok_bind, ok_some, l2, tupleE, itemsOf, ew, q, qi, qn, w1, i0, Bool.not_true, binE, asHs, List.length_cons, List.length_nil, Nat.zero_add, l1, m0, eqE_tf, e2, decide_true, fr, asVar]
  · simp -implicitDefEqProofs only [if_neg h] at c1 c15 w1
    have hg : isntV (.h .non) (.h .non) = some false := rfl
    have hg2 : isV (.h .non) (.h .non) = some true := rfl
    simp -implicitDefEqProofs only [runB, b20_I0, b20_I1, b20_I2, b20_T0, b20_T1, b20_T2, b20_T3, b20_T4, b20_T5, b20_T6, b20, hs, evSs, evS, evE, evEs, evI, view, Bd.v, List.map_cons, List.map_nil, List.getElem?_cons_zero, List.getElem?_cons_succ, Option.map_some, Option.join_some, bind, Option.bind_some, biE, ht, c0 n _ hn, c1, c2 n _ hn, c14 n _ hn, c15, c16 n _ hn, putE, List.set_cons_succ, List.set_cons_zero, cmpE, hg, hg2, truE, if_true, if_false, Bool.false_eq_true, asI, hsm, ok_bind, ok_some, q, qi, qn, w1, i0, Bool.not_true, fr, asVar, reduceCtorEq]
theorem run_offL (n : Nat) (f : Nat → Int) (hn : n ≤ 1000) (h1 : cf 15 [.h (.int n)] = some (.h (if n % 3 = 2 then tf n gh else .non))) : runB cf wf ⟨1, 3, b18⟩ [.l (tl n f)] = some (.h (.int (imb n f))) := by
  have hs : startE 3 [.l (tl n f)] = [some (.im (.l (tl n f))), none, none] := rfl
  have hsm : small62 (n : Int) = true := small62_nat (by omega)
  have hl : ((n : Int) - 0).toNat < sizeLine := lt_line (by omega)
  rw [← ok_eq]
  by_cases h : n % 3 = 2
  · rw [if_pos h] at h1
    simp -implicitDefEqProofs only [runB, b18_I0, b18_T0, b18_T1, b18, hs, eqE_bl, bbeq_tf, bbeq_ft, beq_self_eq_true, frz, frzAll, srcI, srcVars, srcOk, Option.toList, Option.isSome_none, Option.isSome_some, eqE_int, eq_self, evSs, evS, evE, evEs, evO, evC, evI, bindB_nm, bindB_tp, bindBs_nil, bindBs_cons, bindE_nm, bindE_tp, bindEs_nil, bindEs_cons, wipeE, view, Bd.v, truE, cmpE, gtV, ltV, leV, geV, ltE, isV, isntV, neV, ninV, isNon, biE, intE, lenE, absE, minE, maxE, sumE, tupleE, listE, allE, anyE, itemsOf, binE, modE, fdivE, mulE, addE, subE, negE, powE, asH, asI, asHs, ixE, slE, ownL, putE, fr, asVar, isiE, Turned, List.set_cons_succ, List.set_cons_zero, List.map_cons, List.map_nil, List.getElem?_cons_succ, List.getElem?_cons_zero, Option.map_some, Option.join_some, bind, Option.bind_some, ok_bind, ok_some, ok_map, if_true, if_false, ite_true, ite_false, Bool.and_true, Bool.true_and, Bool.and_false, Bool.false_and, decide_true, decide_false, Bool.false_eq_true, not_true_eq_false, not_false_eq_true, Bool.not_true, Bool.not_false, Bool.or_true, Bool.true_or, Bool.or_false, Bool.false_or, List.length_nil, List.length_cons, Nat.zero_add, Int.zero_add, true_and, and_true, and_self, false_and, and_false, or_true, true_or, or_false, false_or, not_true, not_false_iff, decide_eq_true_eq, Bool.not_eq_true, ne_eq, reduceCtorEq, tl_len, h1, tf, hsm]
    refine ok_of (compL_rng0 (fun i => .int (f i * gh i)) n fun i hi => ?_) ?_
    · rw [← ok_eq]
      have hm : mulOk (gh i) (f i) = true := mulOk_l (gh_small i)
      have a1 := atI_tl (f := f) hi
      have a2 := atI_tl (f := gh) hi
      simp -implicitDefEqProofs only [b18_C0, eqE_bl, bbeq_tf, bbeq_ft, beq_self_eq_true, frz, frzAll, srcI, srcVars, srcOk, Option.toList, Option.isSome_none, Option.isSome_some, eqE_int, eq_self, evSs, evS, evE, evEs, evO, evC, evI, bindB_nm, bindB_tp, bindBs_nil, bindBs_cons, bindE_nm, bindE_tp, bindEs_nil, bindEs_cons, wipeE, view, Bd.v, truE, cmpE, gtV, ltV, leV, geV, ltE, isV, isntV, neV, ninV, isNon, biE, intE, lenE, absE, minE, maxE, sumE, tupleE, listE, allE, anyE, itemsOf, binE, modE, fdivE, mulE, addE, subE, negE, powE, asH, asI, asHs, ixE, slE, ownL, putE, fr, asVar, isiE, Turned, List.set_cons_succ, List.set_cons_zero, List.map_cons, List.map_nil, List.getElem?_cons_succ, List.getElem?_cons_zero, Option.map_some, Option.join_some, bind, Option.bind_some, ok_bind, ok_some, ok_map, if_true, if_false, ite_true, ite_false, Bool.and_true, Bool.true_and, Bool.and_false, Bool.false_and, decide_true, decide_false, Bool.false_eq_true, not_true_eq_false, not_false_eq_true, Bool.not_true, Bool.not_false, Bool.or_true, Bool.true_or, Bool.or_false, Bool.false_or, List.length_nil, List.length_cons, Nat.zero_add, Int.zero_add, true_and, and_true, and_self, false_and, and_false, or_true, true_or, or_false, false_or, not_true, not_false_iff, decide_eq_true_eq, Bool.not_eq_true, ne_eq, reduceCtorEq, hm, a1, a2, Int.mul_comm]
    · simp -implicitDefEqProofs only [eqE_bl, bbeq_tf, bbeq_ft, beq_self_eq_true, frz, frzAll, srcI, srcVars, srcOk, Option.toList, Option.isSome_none, Option.isSome_some, eqE_int, eq_self, evSs, evS, evE, evEs, evO, evC, evI, bindB_nm, bindB_tp, bindBs_nil, bindBs_cons, bindE_nm, bindE_tp, bindEs_nil, bindEs_cons, wipeE, view, Bd.v, truE, cmpE, gtV, ltV, leV, geV, ltE, isV, isntV, neV, ninV, isNon, biE, intE, lenE, absE, minE, maxE, sumE, tupleE, listE, allE, anyE, itemsOf, binE, modE, fdivE, mulE, addE, subE, negE, powE, asH, asI, asHs, ixE, slE, ownL, putE, fr, asVar, isiE, Turned, List.set_cons_succ, List.set_cons_zero, List.map_cons, List.map_nil, List.getElem?_cons_succ, List.getElem?_cons_zero, Option.map_some, Option.join_some, bind, Option.bind_some, ok_bind, ok_some, ok_map, if_true, if_false, ite_true, ite_false, Bool.and_true, Bool.true_and, Bool.and_false, Bool.false_and, decide_true, decide_false, Bool.false_eq_true, not_true_eq_false, not_false_eq_true, Bool.not_true, Bool.not_false, Bool.or_true, Bool.true_or, Bool.or_false, Bool.false_or, List.length_nil, List.length_cons, Nat.zero_add, Int.zero_add, true_and, and_true, and_self, false_and, and_false, or_true, true_or, or_false, false_or, not_true, not_false_iff, decide_eq_true_eq, Bool.not_eq_true, ne_eq, reduceCtorEq, rngD_len', hl, asInts_fn, sum_range, imb, h]
  · rw [if_neg h] at h1
    simp -implicitDefEqProofs only [tf, runB, b18_I0, b18_T0, b18_T1, b18, hs, eqE_bl, bbeq_tf, bbeq_ft, beq_self_eq_true, frz, frzAll, srcI, srcVars, srcOk, Option.toList, Option.isSome_none, Option.isSome_some, eqE_int, eq_self, evSs, evS, evE, evEs, evO, evC, evI, bindB_nm, bindB_tp, bindBs_nil, bindBs_cons, bindE_nm, bindE_tp, bindEs_nil, bindEs_cons, wipeE, view, Bd.v, truE, cmpE, gtV, ltV, leV, geV, ltE, isV, isntV, neV, ninV, isNon, biE, intE, lenE, absE, minE, maxE, sumE, tupleE, listE, allE, anyE, itemsOf, binE, modE, fdivE, mulE, addE, subE, negE, powE, asH, asI, asHs, ixE, slE, ownL, putE, fr, asVar, isiE, Turned, List.set_cons_succ, List.set_cons_zero, List.map_cons, List.map_nil, List.getElem?_cons_succ, List.getElem?_cons_zero, Option.map_some, Option.join_some, bind, Option.bind_some, ok_bind, ok_some, ok_map, if_true, if_false, ite_true, ite_false, Bool.and_true, Bool.true_and, Bool.and_false, Bool.false_and, decide_true, decide_false, Bool.false_eq_true, not_true_eq_false, not_false_eq_true, Bool.not_true, Bool.not_false, Bool.or_true, Bool.true_or, Bool.or_false, Bool.false_or, List.length_nil, List.length_cons, Nat.zero_add, Int.zero_add, true_and, and_true, and_self, false_and, and_false, or_true, true_or, or_false, false_or, not_true, not_false_iff, decide_eq_true_eq, Bool.not_eq_true, ne_eq, reduceCtorEq, tl_len, h1, imb, h]
/-- the tilts that the law finds -/
def gRow (w : Nat) (S : Nat → Nat → Int) (sd : Int) (i : Nat) : Option Dt := if imb w (S i) = 0 then none else some (.tup [.int sd, .int (i : Nat)])
theorem gRow_head (w : Nat) (S : Nat → Nat → Int) (sd : Int) : ∀ (n a : Nat), ((List.range' a n).filterMap (gRow w S sd)).head? = (rowTilt w S a n).map fun (i : Nat) => Dt.tup [.int sd, .int (i : Nat)]
  | 0, _ => rfl
  | n + 1, a => by
    rw [List.range'_succ, List.filterMap_cons]
    unfold rowTilt
    unfold gRow
    by_cases h : imb w (S a) = 0
    · rw [if_pos h, if_pos h]
      exact gRow_head w S sd n (a + 1)
    · rw [if_neg h, if_neg h]
      rfl
def tilts (h w : Nat) (S : Nat → Nat → Int) (j : Nat) : List Dt := (List.range h).filterMap (gRow w S 0) ++ (List.range j).filterMap (gRow h (fun j i => S i j) 1)
theorem tilts_len (h w : Nat) (S : Nat → Nat → Int) (j : Nat) : (tilts h w S j).length ≤ h + j := by
  unfold tilts
  rw [List.length_append]
  have h1 := List.length_filterMap_le (gRow w S 0) (List.range h)
  have h2 := List.length_filterMap_le (gRow h (fun j i => S i j) 1) (List.range j)
  rw [List.length_range] at h1 h2
  omega
theorem tilts_head (h w : Nat) (S : Nat → Nat → Int) : (tilts h w S w = [] ∧ tiltD h w S = .non) ∨ ∃ t r, tilts h w S w = t :: r ∧ tiltD h w S = t ∧ flatB h w S = false ∧ ∃ a b : Int, t = .tup [.int a, .int b] := by
  have h1 := gRow_head w S 0 h 0
  have h2 := gRow_head h (fun j i => S i j) 1 w 0
  rw [← List.range_eq_range'] at h1 h2
  unfold tilts flatB tiltD
  cases e1 : rowTilt w S 0 h with
  | some i =>
    rw [e1] at h1
    cases e3 : (List.range h).filterMap (gRow w S 0) with
    | nil => rw [e3] at h1; cases h1
    | cons t r =>
      rw [e3] at h1
      cases h1
      exact .inr ⟨_, _, rfl, rfl, rfl, _, _, rfl⟩
  | none =>
    rw [e1] at h1
    cases e3 : (List.range h).filterMap (gRow w S 0) with
    | cons t r => rw [e3] at h1; cases h1
    | nil =>
      cases e2 : rowTilt h (fun j i => S i j) 0 w with
      | some i =>
        rw [e2] at h2
        cases e4 : (List.range w).filterMap (gRow h (fun j i => S i j) 1) with
        | nil => rw [e4] at h2; cases h2
        | cons t r =>
          rw [e4] at h2
          cases h2
          exact .inr ⟨_, _, rfl, rfl, rfl, _, _, rfl⟩
      | none =>
        rw [e2] at h2
        cases e4 : (List.range w).filterMap (gRow h (fun j i => S i j) 1) with
        | nil => exact .inl ⟨rfl, rfl⟩
        | cons t r => rw [e4] at h2; cases h2
theorem tilts_succ (h w : Nat) (S : Nat → Nat → Int) (j : Nat) : tilts h w S (j + 1) = tilts h w S j ++ (gRow h (fun j i => S i j) 1 j).toList := by
  unfold tilts
  rw [List.range_succ, List.filterMap_append, ← List.append_assoc, List.filterMap_cons, List.filterMap_nil]
  cases gRow h (fun j i => S i j) 1 j <;> rfl
end
end Lk85
namespace Lk85
open Ev PySem L2
section
variable {cf : Nat → List Vl → Option Vl} {wf : Nat}
/-- behind the tilts -/
theorem lboard_end (h w : Nat) (S : Nat → Nat → Int) (v2 : Option Bd) (hh : h ≤ 100) (hw : w ≤ 100) (h0 : 0 < h) (w0 : 0 < w) (c7 : cf 7 [.h (bf h w S)] = some (.h (tiltD h w S))) (c8 : cf 8 [.h (bf h w S)] = some (.h (if flatB h w S = true then bf h w (told2 h w S) else .non)))
    (c12 : ∀ d, fitD d = true → dep d ≤ 3 → cf 12 [.h d, .h d] = some (.h (.bl true))) (c13 : ∀ n f, n ≤ 1000 → cf 13 [.h (tf n f)] = some (.h (.bl true))) (c17 : ∀ F, cf 17 [.h (bf h w F)] = some (.h (bf h w fun i j => near h (fun k => near w (F k) j) i))) :
    Ok (evSs cf wf b22_T6 [some (.im (.h (bf h w S))), some (.ow (.l (tilts h w S w))), v2, none, none, none]) fun r => r = .rt (.h (.bl true)) := by
  rcases tilts_head h w S with ⟨e1, e2⟩ | ⟨t, r, e1, e2, e3, a, b, e4⟩
  · have ef : flatB h w S = true := by unfold flatB; rw [e2]; rfl
    obtain ⟨fr, fc⟩ := tilt_flat ef
    rw [if_pos ef] at c8
    rw [e2] at c7
    have q := c12 .non rfl (by simp [dep])
    have hcols := cols_told h w S h0 w0 fr fc
    have e17 := c17 (told2 h w S)
    have hsame : bf h w (fun i j => near h (fun k => near w (told2 h w S k) j) i) = bf h w S := by
      refine bf_congr fun i j hi hj => ?_
      have k1 : ∀ k, k < h → near w (told2 h w S k) j = near w (told2 h w S k) j := fun _ _ => rfl
      -- rows and columns may be exchanged
      have ex : near h (fun k => near w (told2 h w S k) j) i = near w (fun j => near h (fun k => told2 h w S k j) i) j := by
        unfold near
        by_cases hi0 : i = 0
        · by_cases hj0 : j = 0
          · simp -implicitDefEqProofs only [hi0, hj0, if_true]
            split <;> split <;> omega
          · simp -implicitDefEqProofs only [hi0, hj0, if_true, if_false]
            split <;> split <;> omega
        · by_cases hj0 : j = 0
          · simp -implicitDefEqProofs only [hi0, hj0, if_true, if_false]
            split <;> split <;> omega
          · simp -implicitDefEqProofs only [hi0, hj0, if_false]
            split <;> split <;> omega
      rw [ex]
      have s1 : ∀ j, j < w → near h (fun k => told2 h w S k j) i = told w (S i) j := fun j hj => near_told h (fun k => told w (S k) j) (hcols j hj) i hi
      rw [near_congr s1 j hj]
      exact near_told w (S i) (fr i hi) j hj
    rw [hsame] at e17
    have eq1 : eqE (.h (bf h w S)) (.h (bf h w S)) = some true := by
      rw [eqE_bf]
      exact congrArg some (decide_eq_true fun _ _ _ _ => rfl)
    have lenB : ∀ F, lenE [.h (bf h w F)] = some (.h (.int (h : Nat))) := fun F => by simp -implicitDefEqProofs only [bf, lenE, bl_len]
    have lenT : ∀ f, lenE [.h (tf w f)] = some (.h (.int (w : Nat))) := fun f => by simp -implicitDefEqProofs only [tf, lenE, tl_len]
    have ix0 : ∀ F, ixE (.h (bf h w F)) (.h (.int 0)) = some (.h (tf w (F 0))) := fun F => by
      have := atI_bl (w := w) (F := F) (i := 0) h0
      simp -implicitDefEqProofs only [bf, ixE]
      rw [show (0 : Int) = ((0 : Nat) : Int) by rfl, this]
      rfl
    have len0 : lenE [.l []] = some (.h (.int 0)) := rfl
    have it : isV (.h (bf h w (told2 h w S))) (.h .non) = some false := rfl
    have ity : isiE (.h (bf h w (told2 h w S))) .tuple = true := rfl
    have c3 : (0 : Int) < 3 := by decide
    have tw : ∀ x : Int, intE [.h (.int x)] = some (.h (.int x)) := fun _ => rfl
    rw [e1]
    have gt0 : gtV (.h (.int 0)) (.h (.int 0)) = some false := rfl
    simp -implicitDefEqProofs only [b22_T6, b22_T5, b22_T4, b22_T3, evSs, evS, evE, evEs, view, Bd.v, List.map_cons, List.map_nil, List.getElem?_cons_zero, List.getElem?_cons_succ, Option.map_some, Option.map_none, Option.join_some, bind, Option.bind_some, biE, cmpE, truE, putE, List.set_cons_succ, List.set_cons_zero, c7, c8, q, len0, gt0, it, ity, lenB, neV, eqE_int, eqE_bl, beq_self_eq_true, Bool.not_true, Bool.not_false, Bool.false_eq_true, if_false, if_true, decide_true, eq_self]
    simp -implicitDefEqProofs only [b22_T2, evSs, evS, evI, evE, view, Bd.v, List.map_cons, List.map_nil, List.getElem?_cons_zero, List.getElem?_cons_succ, Option.map_some, Option.map_none, Option.join_some, bind, Option.bind_some, srcI, srcOk, fr, asVar, Option.isSome_some, Bool.or_true, Bool.false_or, if_true, srcVars, Option.toList, frzAll, frz, ok_bind]
    refine ok_of (a := bl h w (told2 h w S)) rfl ?_
    refine ok_loopM (e := fun i => tf w (told2 h w S i)) (xs := List.range h) (β := [some (.im (.h (bf h w S))), some (.ow (.l [])), v2, some (.im (.h (bf h w (told2 h w S)))), none, none]) (fun i β => ∃ v4, β = [some (.im (.h (bf h w S))), some (.ow (.l [])), v2, some (.im (.h (bf h w (told2 h w S)))), v4, none]) ⟨none, rfl⟩ (fun i x β hi ⟨v4, hb⟩ => ?_) fun β ⟨v4, hb⟩ => ?_
    · subst hb
      simp -implicitDefEqProofs only [b22_L1, evSs, evS, evE, evEs, bindB_nm, view, Bd.v, List.map_cons, List.map_nil, List.getElem?_cons_zero, List.getElem?_cons_succ, Option.map_some, Option.map_none, Option.join_some, bind, Option.bind_some, biE, cmpE, truE, List.set_cons_succ, List.set_cons_zero, c13 w _ (by omega : w ≤ 1000), ix0, lenT, neV, eqE_int, Bool.not_true, Bool.not_false, Bool.false_eq_true, if_false, if_true, decide_true, eq_self, ok_some, Turned]
      exact ⟨_, rfl⟩
    · subst hb
      have m0 := mul_zero w (by omega)
      have l1 : 1 ≤ sizeLine := le_line (by omega)
      have row0 : h % 3 = 2 → eqE (.h (tf w (told2 h w S 0))) (.h (tf w fun _ => 0)) = some true := fun h3 => by
        rw [eqE_tf]
        refine congrArg some (decide_eq_true fun j hj => ?_)
        exact fst_two h _ (hcols j hj) h3
      have last : w % 3 = 2 → ∀ i, i < h → told2 h w S i 0 = 0 := fun h3 i hi => by
        -- the first items of told rows are none, so is what is told of these
        have z : ∀ k, k < h → told w (S k) 0 = 0 := fun k hk => fst_two w (S k) (fr k hk) h3
        have hz : ∀ i, i ≤ h → beh (fun k => told w (S k) 0) 0 i = 0 := fun i hi => by
          induction i using Nat.strongRecOn with
          | ind i ih =>
            match i, hi, ih with
            | 0, _, _ => rfl
            | 1, hi, _ => show told w (S 0) 0 - 0 = 0; rw [z 0 (by omega)]; rfl
            | i + 2, hi, ih =>
              show told w (S (i + 1)) 0 - beh (fun k => told w (S k) 0) 0 (i + 1) - beh (fun k => told w (S k) 0) 0 i = 0
              rw [z (i + 1) (by omega), ih (i + 1) (by omega) (by omega), ih i (by omega) (by omega)]
              rfl
        show beh (fun k => told w (S k) 0) (fst h fun k => told w (S k) 0) i = 0
        have : fst h (fun k => told w (S k) 0) = 0 := by
          unfold fst
          rw [if_pos (hz h (Nat.le_refl h))]
        rw [this, hz i (by omega)]
      -- the last two rows
      have fin : Ok (evSs cf wf b22_T0 [some (.im (.h (bf h w S))), some (.ow (.l [])), v2, some (.im (.h (bf h w (told2 h w S)))), v4, none]) fun r => r = .rt (.h (.bl true)) := by
        by_cases h3 : w % 3 = 2
        · have h4 : (w : Int) % 3 = 2 := by omega
          simp -implicitDefEqProofs only [b22_T0, evSs, evS, evE, evEs, evI, view, Bd.v, List.map_cons, List.map_nil, List.getElem?_cons_zero, List.getElem?_cons_succ, Option.map_some, Option.map_none, Option.join_some, bind, Option.bind_some, biE, cmpE, truE, ix0, lenT, tw, binE, modE, c3, h4, neV, eqE_int, Bool.not_true, Bool.not_false, Bool.false_eq_true, if_false, if_true, decide_true, eq_self, ok_bind]
          refine ok_of (a := bl h w (told2 h w S)) rfl ?_
          refine ok_of (compL_filt (fun i => tf w (told2 h w S i)) (fun _ => none) (List.range h) fun i hi => ?_) ?_
          · have hi := List.mem_range.mp hi
            have a1 := atI_tl (f := told2 h w S i) (i := 0) w0
            rw [last h3 i hi] at a1
            rw [← ok_eq]
            simp -implicitDefEqProofs only [b22_D1, eqE_bl, bbeq_tf, bbeq_ft, beq_self_eq_true, frz, frzAll, srcI, srcVars, srcOk, Option.toList, Option.isSome_none, Option.isSome_some, eqE_int, eq_self, evSs, evS, evE, evEs, evO, evC, evI, bindB_nm, bindB_tp, bindBs_nil, bindBs_cons, bindE_nm, bindE_tp, bindEs_nil, bindEs_cons, wipeE, view, Bd.v, truE, cmpE, gtV, ltV, leV, geV, ltE, isV, isntV, neV, ninV, isNon, biE, intE, lenE, absE, minE, maxE, sumE, tupleE, listE, allE, anyE, itemsOf, binE, modE, fdivE, mulE, addE, subE, negE, powE, asH, asI, asHs, ixE, slE, ownL, putE, fr, asVar, isiE, Turned, List.set_cons_succ, List.set_cons_zero, List.map_cons, List.map_nil, List.getElem?_cons_succ, List.getElem?_cons_zero, Option.map_some, Option.join_some, bind, Option.bind_some, ok_bind, ok_some, ok_map, if_true, if_false, ite_true, ite_false, Bool.and_true, Bool.true_and, Bool.and_false, Bool.false_and, decide_true, decide_false, Bool.false_eq_true, not_true_eq_false, not_false_eq_true, Bool.not_true, Bool.not_false, Bool.or_true, Bool.true_or, Bool.or_false, Bool.false_or, List.length_nil, List.length_cons, Nat.zero_add, Int.zero_add, true_and, and_true, and_self, false_and, and_false, or_true, true_or, or_false, false_or, not_true, not_false_iff, decide_eq_true_eq, Bool.not_eq_true, ne_eq, reduceCtorEq, tf, show (0 : Int) = ((0 : Nat) : Int) from rfl, a1]
          · have l2 : (bl h w (told2 h w S)).length < sizeLine := lt_line (by rw [bl_len]; omega)
            have nil : (List.range h).filterMap (fun _ => (none : Option Dt)) = [] := by
              rw [List.filterMap_eq_nil_iff]
              exact fun _ _ => rfl
            simp -implicitDefEqProofs only [eqE_bl, bbeq_tf, bbeq_ft, beq_self_eq_true, frz, frzAll, srcI, srcVars, srcOk, Option.toList, Option.isSome_none, Option.isSome_some, eqE_int, eq_self, evSs, evS, evE, evEs, evO, evC, evI, bindB_nm, bindB_tp, bindBs_nil, bindBs_cons, bindE_nm, bindE_tp, bindEs_nil, bindEs_cons, wipeE, view, Bd.v, truE, cmpE, gtV, ltV, leV, geV, ltE, isV, isntV, neV, ninV, isNon, biE, intE, lenE, absE, minE, maxE, sumE, tupleE, listE, allE, anyE, itemsOf, binE, modE, fdivE, mulE, addE, subE, negE, powE, asH, asI, asHs, ixE, slE, ownL, putE, fr, asVar, isiE, Turned, List.set_cons_succ, List.set_cons_zero, List.map_cons, List.map_nil, List.getElem?_cons_succ, List.getElem?_cons_zero, Option.map_some, Option.join_some, bind, Option.bind_some, ok_bind, ok_some, ok_map, if_true, if_false, ite_true, ite_false, Bool.and_true, Bool.true_and, Bool.and_false, Bool.false_and, decide_true, decide_false, Bool.false_eq_true, not_true_eq_false, not_false_eq_true, Bool.not_true, Bool.not_false, Bool.or_true, Bool.true_or, Bool.or_false, Bool.false_or, List.length_nil, List.length_cons, Nat.zero_add, Int.zero_add, true_and, and_true, and_self, false_and, and_false, or_true, true_or, or_false, false_or, not_true, not_false_iff, decide_eq_true_eq, Bool.not_eq_true, ne_eq, reduceCtorEq, l2, nil]
            rfl
        · have h4 : ¬ (w : Int) % 3 = 2 := by omega
          simp -implicitDefEqProofs only [b22_T0, evSs, evS, evE, evEs, evI, view, Bd.v, List.map_cons, List.map_nil, List.getElem?_cons_zero, List.getElem?_cons_succ, Option.map_some, Option.map_none, Option.join_some, bind, Option.bind_some, biE, cmpE, truE, ix0, lenT, tw, binE, modE, c3, h4, neV, eqE_int, Bool.not_true, Bool.not_false, Bool.false_eq_true, if_false, if_true, decide_false, ok_bind, ok_some]
      by_cases h3 : h % 3 = 2
      · have h4 : (h : Int) % 3 = 2 := by omega
        simp -implicitDefEqProofs only [b22_T1, evSs, evS, evE, evEs, view, Bd.v, List.map_cons, List.map_nil, List.getElem?_cons_zero, List.getElem?_cons_succ, Option.map_some, Option.map_none, Option.join_some, bind, Option.bind_some, biE, cmpE, truE, e17, eq1, lenB, tw, binE, modE, c3, h4, neV, eqE_int, Bool.not_true, Bool.not_false, Bool.false_eq_true, if_false, if_true, decide_true, eq_self, ix0, asHs, List.length_cons, List.length_nil, Nat.zero_add, l1, lenT, m0, row0 h3]
        exact fin
      · have h4 : ¬ (h : Int) % 3 = 2 := by omega
        simp -implicitDefEqProofs only [b22_T1, evSs, evS, evE, evEs, view, Bd.v, List.map_cons, List.map_nil, List.getElem?_cons_zero, List.getElem?_cons_succ, Option.map_some, Option.map_none, Option.join_some, bind, Option.bind_some, biE, cmpE, truE, e17, eq1, lenB, tw, binE, modE, c3, h4, neV, eqE_int, Bool.not_true, Bool.not_false, Bool.false_eq_true, if_false, if_true, decide_false]
        exact fin
  · rw [e3] at c8
    rw [if_neg (by simp)] at c8
    rw [e2] at c7
    have q : cf 12 [.h t, .h t] = some (.h (.bl true)) := by
      rw [e4]
      exact c12 _ (by simp [fitD, fitDs]) (by simp [dep, deps])
    have hlen : lenE [.l (t :: r)] = some (.h (.int ((r.length + 1 : Nat) : Int))) := rfl
    have hgt : gtV (.h (.int ((r.length + 1 : Nat) : Int))) (.h (.int 0)) = some true := by
      show some (decide _) = some true
      rw [decide_eq_true (by omega)]
    have hix : ixE (.l (t :: r)) (.h (.int 0)) = some (.h t) := by
      have : atI (t :: r) 0 = some t := by
        unfold atI ixN
        rw [if_pos (by omega), if_pos (by simp)]
        rfl
      simp -implicitDefEqProofs only [ixE, this, Option.map_some]
    have it : isV (.h .non) (.h .non) = some true := rfl
    rw [e1]
    simp -implicitDefEqProofs only [b22_T6, b22_T5, b22_T4, b22_I2, evSs, evS, evE, evEs, view, Bd.v, List.map_cons, List.map_nil, List.getElem?_cons_zero, List.getElem?_cons_succ, Option.map_some, Option.map_none, Option.join_some, bind, Option.bind_some, biE, cmpE, truE, putE, List.set_cons_succ, List.set_cons_zero, c7, c8, q, hlen, hgt, hix, it, neV, eqE_bl, beq_self_eq_true, Bool.not_true, Bool.not_false, Bool.false_eq_true, if_false, if_true, ok_some]
theorem run_lboard (h w : Nat) (S : Nat → Nat → Int) (hh : h ≤ 100) (hw : w ≤ 100) (h0 : 0 < h) (w0 : 0 < w) (c7 : cf 7 [.h (bf h w S)] = some (.h (tiltD h w S))) (c8 : cf 8 [.h (bf h w S)] = some (.h (if flatB h w S = true then bf h w (told2 h w S) else .non)))
    (c12 : ∀ d, fitD d = true → dep d ≤ 3 → cf 12 [.h d, .h d] = some (.h (.bl true))) (c13 : ∀ n f, n ≤ 1000 → cf 13 [.h (tf n f)] = some (.h (.bl true))) (c16 : ∀ n f, n ≤ 1000 → cf 16 [.h (tf n f)] = some (.h (.int (imb n f)))) (c16L : ∀ n f, n ≤ 1000 → cf 16 [.l (tl n f)] = some (.h (.int (imb n f))))
    (c17 : ∀ F, cf 17 [.h (bf h w F)] = some (.h (bf h w fun i j => near h (fun k => near w (F k) j) i))) : runB cf wf ⟨1, 6, b22⟩ [.h (bf h w S)] = some (.h (.bl true)) := by
  have hs : startE 6 [.h (bf h w S)] = [some (.im (.h (bf h w S))), none, none, none, none, none] := rfl
  have lenB : lenE [.h (bf h w S)] = some (.h (.int (h : Nat))) := by simp -implicitDefEqProofs only [bf, lenE, bl_len]
  have lenT : lenE [.h (tf w (S 0))] = some (.h (.int (w : Nat))) := by simp -implicitDefEqProofs only [tf, lenE, tl_len]
  have hsh : small62 (h : Int) = true := small62_nat (by omega)
  have hsw : small62 (w : Int) = true := small62_nat (by omega)
  have ixB : ∀ i : Nat, i < h → ixE (.h (bf h w S)) (.h (.int i)) = some (.h (tf w (S i))) := fun i hi => by
    have := atI_bl (w := w) (F := S) hi
    simp -implicitDefEqProofs only [bf, ixE, this, Option.map_some]
  have ix0 : ixE (.h (bf h w S)) (.h (.int 0)) = some (.h (tf w (S 0))) := ixB 0 h0
  have l2 : 2 ≤ sizeLine := le_line (by omega)
  rw [← ok_eq]
  simp -implicitDefEqProofs only [runB, b22, hs, evSs, evS, evE, evEs, evI, view, Bd.v, List.map_cons, List.map_nil, List.getElem?_cons_zero, List.getElem?_cons_succ, Option.map_some, Option.map_none, Option.join_some, bind, Option.bind_some, biE, lenB, asI, hsh, if_true, ok_bind]
  refine ok_of (compL_rng0F (gRow w S 0) h fun i hi => ?_) ?_
  · rw [← ok_eq]
    have hc := c16 w (S i) (by omega)
    unfold gRow
    by_cases e : imb w (S i) = 0
    · simp -implicitDefEqProofs only [b22_D0, b22_C0, evC, evE, evEs, bindE_nm, wipeE, List.map_cons, List.map_nil, List.set_cons_succ, List.set_cons_zero, List.getElem?_cons_zero, List.getElem?_cons_succ, Option.map_some, Option.map_none, Option.join_some, bind, Option.bind_some, ixB i hi, hc, cmpE, neV, eqE_int, e, truE, decide_true, eq_self, Bool.not_true, if_true, if_false, Bool.false_eq_true, ok_some]
    · simp -implicitDefEqProofs only [b22_D0, b22_C0, evC, evE, evEs, bindE_nm, wipeE, List.map_cons, List.map_nil, List.set_cons_succ, List.set_cons_zero, List.getElem?_cons_zero, List.getElem?_cons_succ, Option.map_some, Option.map_none, Option.join_some, bind, Option.bind_some, ixB i hi, hc, cmpE, neV, eqE_int, e, truE, decide_false, Bool.not_false, if_true, if_false, asHs, List.length_cons, List.length_nil, Nat.zero_add, l2, asH, ok_some]
  · have hl : (rngD 0 (h : Int)).length < sizeLine := lt_line (by rw [rngD_len']; omega)
    have ft : fr (.comp b22_C0 (.nm 5) (.rng1 (.bi .len (.cons (.var 0) .nil))) b22_D0 [5]) = true := rfl
    simp -implicitDefEqProofs only [hl, b22_T7, evSs, evS, evE, evEs, evI, view, Bd.v, List.map_cons, List.map_nil, List.set_cons_succ, List.set_cons_zero, List.getElem?_cons_zero, List.getElem?_cons_succ, Option.map_some, Option.map_none, Option.join_some, bind, Option.bind_some, biE, ix0, lenT, asI, hsw, if_true, ok_bind, ok_some, putE, ft, srcI, srcVars, frzAll]
    refine ok_loopR (a := 0) (b := w) (fun j β => ∃ v2, β = [some (.im (.h (bf h w S))), some (.ow (.l (tilts h w S j))), v2, none, none, none]) ⟨none, by unfold tilts; simp⟩ (fun j β hj ⟨v2, hb⟩ => ?_) fun β ⟨v2, hb⟩ => ?_
    · subst hb
      have hj' : j < w := by omega
      have hc := c16L h (fun i => S i j) (by omega)
      have ll : (tilts h w S j).length < sizeLine := lt_line (by have := tilts_len h w S j; omega)
      simp -implicitDefEqProofs only [b22_L0, evSs, evS, evE, evEs, evI, bindB_nm, view, Bd.v, List.map_cons, List.map_nil, List.set_cons_succ, List.set_cons_zero, List.getElem?_cons_zero, List.getElem?_cons_succ, Option.map_some, Option.map_none, Option.join_some, bind, Option.bind_some, ok_bind, ok_some, Int.zero_add]
      refine ok_of (a := bl h w S) rfl ?_
      refine ok_of (compL_fn (n := h) (e := fun i => tf w (S i)) (fun i => .int (S i j)) fun i hi => ?_) ?_
      · rw [← ok_eq]
        have a1 := atI_tl (f := S i) hj'
        simp -implicitDefEqProofs only [b22_C1, eqE_bl, bbeq_tf, bbeq_ft, beq_self_eq_true, frz, frzAll, srcI, srcVars, srcOk, Option.toList, Option.isSome_none, Option.isSome_some, eqE_int, eq_self, evSs, evS, evE, evEs, evO, evC, evI, bindB_nm, bindB_tp, bindBs_nil, bindBs_cons, bindE_nm, bindE_tp, bindEs_nil, bindEs_cons, wipeE, view, Bd.v, truE, cmpE, gtV, ltV, leV, geV, ltE, isV, isntV, neV, ninV, isNon, biE, intE, lenE, absE, minE, maxE, sumE, tupleE, listE, allE, anyE, itemsOf, binE, modE, fdivE, mulE, addE, subE, negE, powE, asH, asI, asHs, ixE, slE, ownL, putE, fr, asVar, isiE, Turned, List.set_cons_succ, List.set_cons_zero, List.map_cons, List.map_nil, List.getElem?_cons_succ, List.getElem?_cons_zero, Option.map_some, Option.join_some, bind, Option.bind_some, ok_bind, ok_some, ok_map, if_true, if_false, ite_true, ite_false, Bool.and_true, Bool.true_and, Bool.and_false, Bool.false_and, decide_true, decide_false, Bool.false_eq_true, not_true_eq_false, not_false_eq_true, Bool.not_true, Bool.not_false, Bool.or_true, Bool.true_or, Bool.or_false, Bool.false_or, List.length_nil, List.length_cons, Nat.zero_add, Int.zero_add, true_and, and_true, and_self, false_and, and_false, or_true, true_or, or_false, false_or, not_true, not_false_iff, decide_eq_true_eq, Bool.not_eq_true, ne_eq, reduceCtorEq, tf, a1]
      · have hl2 : (bl h w S).length < sizeLine := lt_line (by rw [bl_len]; omega)
        unfold tl at hc
        have ts := tilts_succ h w S j
        unfold gRow at ts
        by_cases e : imb h (fun i => S i j) = 0
        · rw [if_pos e] at ts
          simp -implicitDefEqProofs only [hl2, hc, e, cmpE, neV, eqE_int, truE, decide_true, eq_self, Bool.not_true, if_true, if_false, Bool.false_eq_true, Option.bind_some, evSs, ok_some, ok_bind, Option.map_some, Turned, bind, Option.map_none]
          exact ⟨_, by rw [ts]; simp; rfl⟩
        · rw [if_neg e] at ts
          simp -implicitDefEqProofs only [hl2, hc, e, cmpE, neV, eqE_int, truE, decide_false, Bool.not_false, if_true, if_false, Option.bind_some, b22_I0, evSs, evS, evE, evEs, view, Bd.v, List.map_cons, List.map_nil, List.set_cons_succ, List.set_cons_zero, List.getElem?_cons_zero, List.getElem?_cons_succ, Option.map_some, Option.map_none, Option.join_some, asHs, List.length_cons, List.length_nil, Nat.zero_add, l2, asH, ownL, ll, ok_some, ok_bind, Turned, bind]
          exact ⟨_, by rw [ts]; rfl⟩
    · subst hb
      rw [show ((w : Int) - 0).toNat = w by omega]
      refine ok_mono (lboard_end h w S v2 hh hw h0 w0 c7 c8 c12 c13 c17) fun r hr => ?_
      subst hr
      simp -implicitDefEqProofs only [ok_some]
end
end Lk85
namespace Lk85
open Ev PySem L2
theorem add_int (a b : Int) : addE (.h (.int a)) (.h (.int b)) = some (.h (.int (a + b))) := rfl
theorem sub_int (a b : Int) : subE (.h (.int a)) (.h (.int b)) = some (.h (.int (a - b))) := rfl
theorem int_int (a : Int) : intE [.h (.int a)] = some (.h (.int a)) := rfl
theorem mod_int {a b : Int} (h : 0 < b) : modE (.h (.int a)) (.h (.int b)) = some (.h (.int (a % b))) := by
  exact if_pos h
theorem mul_int {a b : Int} (h : mulOk a b = true) : mulE (.h (.int a)) (.h (.int b)) = some (.h (.int (a * b))) := by
  exact if_pos h
theorem add_tup (a b : List Dt) (h : a.length + b.length ≤ 1000000) : addE (.h (.tup a)) (.h (.tup b)) = some (.h (.tup (a ++ b))) := by
  exact if_pos (le_line h)
theorem patch {α : Type} (g : Nat → α) (x : α) (n a : Nat) (h : a < n) : (List.range a).map g ++ [x] ++ (List.range (n - (a + 1))).map (fun i => g (a + 1 + i)) = (List.range n).map fun i => if i = a then x else g i := by
  apply List.ext_getElem?
  intro i
  rw [List.getElem?_map]
  by_cases hi : i < n
  · rw [List.getElem?_range hi]
    by_cases h1 : i < a
    · rw [List.getElem?_append_left (by simp; omega), List.getElem?_append_left (by simpa using h1), List.getElem?_map, List.getElem?_range h1]
      simp -implicitDefEqProofs only [Option.map_some]
      rw [if_neg (by omega)]
    · by_cases h2 : i = a
      · subst h2
        rw [List.getElem?_append_left (by simp), List.getElem?_append_right (by simp)]
        simp
      · rw [List.getElem?_append_right (by simp; omega), List.getElem?_map]
        simp -implicitDefEqProofs only [List.length_append, List.length_map, List.length_range, List.length_singleton]
        rw [List.getElem?_range (by omega)]
        simp -implicitDefEqProofs only [Option.map_some]
        rw [if_neg h2, show a + 1 + (i - (a + 1)) = i by omega]
  · rw [List.getElem?_eq_none (by simp; omega), List.getElem?_eq_none (by simpa using hi)]
    rfl
theorem cut_to {α : Type} (g : Nat → α) (n a : Nat) (h : a < n) : cutD ((List.range n).map g) none (some (a : Nat)) = (List.range a).map g := by
  unfold cutD
  rw [HT.sIx_none, HT.sIx_nat, List.length_map, List.length_range, show min a n = a by omega]
  exact (cut_fn g n 0 a (by omega)).trans (by simp)
theorem cut_from {α : Type} (g : Nat → α) (n a : Nat) (h : a < n) : cutD ((List.range n).map g) (some ((a + 1 : Nat) : Int)) none = (List.range (n - (a + 1))).map fun i => g (a + 1 + i) := by
  unfold cutD
  rw [HT.sIx_none, HT.sIx_nat, List.length_map, List.length_range, show min (a + 1) n = a + 1 by omega]
  exact cut_fn g n (a + 1) n (Nat.le_refl n)
theorem mul_one (t : Dt) (n : Nat) (hn : n ≤ 1000) : mulE (.h (.tup [t])) (.h (.int (n : Nat))) = some (.h (.tup ((List.range n).map fun _ => t))) := by
  have hc : (-(2 ^ 63) : Int) ≤ (n : Int) ∧ (n : Int) ≤ 1000 ∧ [t].length ≤ 1000 := ⟨by omega, by omega, by simp⟩
  unfold mulE
  simp -implicitDefEqProofs only [if_pos hc]
  rw [show ((n : Int)).toNat = n by omega, repl_eq]
  unfold repl
  have e : ∀ m : Nat, (List.replicate m [t]).flatten = List.replicate m t := fun m => by
    induction m with
    | zero => rfl
    | succ m ih => rw [List.replicate_succ, List.flatten_cons, ih, List.replicate_succ]; rfl
  rw [e]
theorem ix_tl {n i : Nat} {f : Nat → Int} (h : i < n) : ixE (.h (tf n f)) (.h (.int (i : Nat))) = some (.h (.int (f i))) := by
  have := atI_tl (f := f) h
  simp -implicitDefEqProofs only [tf, ixE, this, Option.map_some]
theorem ix_tlL {n i : Nat} {f : Nat → Int} (h : i < n) : ixE (.l (tl n f)) (.h (.int (i : Nat))) = some (.h (.int (f i))) := by
  have := atI_tl (f := f) h
  simp -implicitDefEqProofs only [ixE, this, Option.map_some]
theorem ix_bf {h w i : Nat} {F : Nat → Nat → Int} (hi : i < h) : ixE (.h (bf h w F)) (.h (.int (i : Nat))) = some (.h (tf w (F i))) := by
  have := atI_bl (w := w) (F := F) hi
  simp -implicitDefEqProofs only [bf, ixE, this, Option.map_some]
/-- one number of a tuple changed -/
def upd1 (f : Nat → Int) (a : Nat) (x : Int) : Nat → Int := fun i => if i = a then x else f i
theorem upd_tup {n a : Nat} {f : Nat → Int} {x : Int} (h : a < n) : (List.range a).map (fun i => Dt.int (f i)) ++ [.int x] ++ (List.range (n - (a + 1))).map (fun i => Dt.int (f (a + 1 + i))) = tl n (upd1 f a x) := by
  rw [patch (fun i => Dt.int (f i)) (.int x) n a h]
  unfold tl upd1
  exact fn_congr fun i _ => by split <;> rfl
def upd2 (F : Nat → Nat → Int) (a b : Nat) (x : Int) : Nat → Nat → Int := fun i => if i = a then upd1 (F a) b x else F i
theorem upd_brd {h w a : Nat} {F : Nat → Nat → Int} {G : Nat → Int} (ha : a < h) : (List.range a).map (fun i => tf w (F i)) ++ [tf w G] ++ (List.range (h - (a + 1))).map (fun i => tf w (F (a + 1 + i))) = bl h w fun i => if i = a then G else F i := by
  rw [patch (fun i => tf w (F i)) (tf w G) h a ha]
  unfold bl
  refine fn_congr fun i _ => ?_
  show _ = tf w (if i = a then G else F i)
  by_cases e : i = a
  · rw [if_pos e, if_pos e]
  · rw [if_neg e, if_neg e]
section
variable {cf : Nat → List Vl → Option Vl} {wf : Nat}
structure Cf (cf : Nat → List Vl → Option Vl) (ns : List Int) : Prop where
  c6 : ∀ h w F, h ≤ 100 → w ≤ 100 → 0 < h → 0 < w → cf 6 [.h (bf h w F)] = some (.h (bf h w fun i j => near h (fun k => near w (F k) j) i))
  c9 : ∀ j : Nat, ∃ c : Int, cf 9 [.s (ns.map .int), .h (.int j)] = some (.h (.int c))
  c10 : ∀ c : Int, ∃ ds : List Int, ds.length = 50 ∧ (∀ d ∈ ds, okDraw d) ∧ cf 10 [.h (.int c), .h (.int 50)] = some (.l (ds.map .int))
  c12 : ∀ d, fitD d = true → dep d ≤ 3 → cf 12 [.h d, .h d] = some (.h (.bl true))
  c14 : ∀ n f, n ≤ 1000 → cf 14 [.h (tf n f)] = some (.h (tf n (near n f)))
  c17 : ∀ h w F, h ≤ 100 → w ≤ 100 → 0 < h → cf 17 [.h (bf h w F)] = some (.h (bf h w fun i j => near h (fun k => near w (F k) j) i))
  c18 : ∀ n f, 0 < n → n ≤ 1000 → cf 18 [.h (tf n f)] = some (.h (.bl true))
  c19 : ∀ n f, 0 < n → n ≤ 1000 → cf 19 [.h (tf n f)] = some (.h (.bl true))
  c20 : ∀ h w F, h ≤ 100 → w ≤ 100 → 0 < h → 0 < w → cf 20 [.h (bf h w F)] = some (.h (.bl true))
theorem draws_fn {ds : List Int} (h : ds.length = 50) (hd : ∀ d ∈ ds, okDraw d) : ∃ p : Nat → Int, ds.map Dt.int = tl 50 p ∧ ∀ i, okDraw (p i) := by
  refine ⟨fun i => (ds[i]?).getD 0, ?_, fun i => ?_⟩
  · apply List.ext_getElem?
    intro i
    unfold tl
    rw [List.getElem?_map, List.getElem?_map]
    by_cases hi : i < 50
    · rw [List.getElem?_range hi, List.getElem?_eq_getElem (by omega)]
      simp -implicitDefEqProofs only [Option.map_some]
      rw [List.getElem?_eq_getElem (by omega)]
      rfl
    · rw [List.getElem?_eq_none (by omega), List.getElem?_eq_none (by rw [List.length_range]; omega)]
      rfl
  · by_cases hi : i < 50
    · simp -implicitDefEqProofs only [List.getElem?_eq_getElem (show i < ds.length by omega), Option.getD_some]
      exact hd _ (List.getElem_mem _)
    · simp -implicitDefEqProofs only [List.getElem?_eq_none (show ds.length ≤ i by omega), Option.getD_none]
      exact ⟨by omega, by omega⟩
/-- the last part of a turn: the boards -/
theorem turn_boards {ns : List Int} (c : Cf cf ns) (p : Nat → Int) (hp : ∀ i, okDraw (p i)) (H W I J : Nat) (h0 : 0 < H) (h5 : H ≤ 5) (w0 : 0 < W) (w5 : W ≤ 5) (hI : I < H) (hJ : J < W) (B S : Nat → Nat → Int) (b0 b1 b3 b4 b5 b6 b7 b8 v15 v16 v17 : Option Bd)
    (Q : Fl → Prop) (hq : ∀ v15 v16 v17, Q (.nx [b0, b1, some (.ow (.l (tl 50 p))), b3, b4, b5, b6, b7, b8, some (.im (.h (.int H))), some (.im (.h (.int W))), some (.im (.h (bf H W B))), some (.im (.h (.int I))), some (.im (.h (bf H W S))), some (.im (.h (.int J))), v15, v16, v17])) :
    Ok (evSs cf wf b23_T2 [b0, b1, some (.ow (.l (tl 50 p))), b3, b4, b5, b6, b7, b8, some (.im (.h (.int H))), some (.im (.h (.int W))), some (.im (.h (bf H W B))), some (.im (.h (.int I))), some (.im (.h (bf H W S))), some (.im (.h (.int J))), v15, v16, v17]) Q := by
  have p45 : ixE (.l (tl 50 p)) (.h (.int 45)) = some (.h (.int (p 45))) := ix_tlL (i := 45) (by omega)
  have m5 : ∀ a, modE (.h (.int a)) (.h (.int 5)) = some (.h (.int (a % 5))) := fun a => mod_int (by decide)
  have x1 := ix_bf (h := H) (w := W) (F := S) hI
  have x2 := ix_tl (f := S I) hJ
  have l1 : 1 ≤ sizeLine := le_line (by omega)
  have l4 : 4 ≤ sizeLine := le_line (by omega)
  have s1 : slE (.h (bf H W S)) none (some (I : Int)) = some (.h (.tup ((List.range I).map fun i => tf W (S i)))) := by
    simp -implicitDefEqProofs only [bf, slE]
    unfold bl
    rw [cut_to _ H I hI]
  have s2 : slE (.h (bf H W S)) (some ((I : Int) + 1)) none = some (.h (.tup ((List.range (H - (I + 1))).map fun i => tf W (S (I + 1 + i))))) := by
    simp -implicitDefEqProofs only [bf, slE]
    unfold bl
    rw [show ((I : Int) + 1) = ((I + 1 : Nat) : Int) by omega, cut_from _ H I hI]
  have s3 : slE (.h (tf W (S I))) none (some (J : Int)) = some (.h (.tup ((List.range J).map fun i => .int (S I i)))) := by
    simp -implicitDefEqProofs only [tf, slE]
    unfold tl
    rw [cut_to _ W J hJ]
  have s4 : slE (.h (tf W (S I))) (some ((J : Int) + 1)) none = some (.h (.tup ((List.range (W - (J + 1))).map fun i => .int (S I (J + 1 + i))))) := by
    simp -implicitDefEqProofs only [tf, slE]
    unfold tl
    rw [show ((J : Int) + 1) = ((J + 1 : Nat) : Int) by omega, cut_from _ W J hJ]
  have a1 := fun x : Int => add_tup ((List.range J).map fun i => Dt.int (S I i)) [.int x] (by simp; omega)
  have a2 := fun x : Int => add_tup ((List.range J).map (fun i => Dt.int (S I i)) ++ [.int x]) ((List.range (W - (J + 1))).map fun i => Dt.int (S I (J + 1 + i))) (by simp; omega)
  have a2' := fun x : Int => upd_tup (f := S I) (x := x) hJ
  have a3 := fun G : Nat → Int => add_tup ((List.range I).map fun i => tf W (S i)) [tf W G] (by simp; omega)
  have a4 := fun G : Nat → Int => add_tup ((List.range I).map (fun i => tf W (S i)) ++ [tf W G]) ((List.range (H - (I + 1))).map fun i => tf W (S (I + 1 + i))) (by simp; omega)
  have a4' := fun G : Nat → Int => upd_brd (F := S) (G := G) (w := W) hI
  have ht : ∀ n f, Dt.tup (tl n f) = tf n f := fun _ _ => rfl
  have hb : ∀ h w F, Dt.tup (bl h w F) = bf h w F := fun _ _ _ => rfl
  simp -implicitDefEqProofs only [b23_T2, evSs, evS, evE, evEs, evO, evI, view, Bd.v, List.map_cons, List.map_nil, List.set_cons_succ, List.set_cons_zero, List.getElem?_cons_succ, List.getElem?_cons_zero, Option.map_some, Option.map_none, Option.join_some, bind, Option.bind_some, biE, binE, putE, fr, asVar, truE, if_true, if_false, Bool.false_eq_true, Bool.not_true, Bool.not_false, asI, asH, add_int, sub_int, int_int, ok_bind, ok_some, ok_map, srcI, srcVars, srcOk, frzAll, frz, Option.toList, Bool.or_true, Bool.true_or, Bool.false_or, Int.zero_add, p45, m5, x1, x2, s1, s2, s3, s4, asHs, List.length_cons, List.length_nil, Nat.zero_add, l1, a1, a2, a2', ht, a3, a4, a4', hb]
  -- the lone one
  have z1 := mul_zero W (by omega)
  have z2 := mul_zero J (by omega)
  have z3 := mul_zero (W - 1 - J) (by omega)
  have z4 := mul_one (tf W fun _ => 0) I (by omega)
  have z5 := mul_one (tf W fun _ => 0) (H - 1 - I) (by omega)
  have d1 : (W : Int) - 1 - J = ((W - 1 - J : Nat) : Int) := by omega
  have d2 : (H : Int) - 1 - I = ((H - 1 - I : Nat) : Int) := by omega
  have q1 := add_tup (tl J fun _ => 0) [.int 1] (by rw [tl_len]; simp; omega)
  have q2 := add_tup (tl J (fun _ => 0) ++ [.int 1]) (tl (W - 1 - J) fun _ => 0) (by rw [List.length_append, tl_len, tl_len]; simp; omega)
  have q2' : tl J (fun _ => 0) ++ [Dt.int 1] ++ (tl (W - 1 - J) fun _ => 0) = tl W (upd1 (fun _ => 0) J 1) := by
    rw [show W - 1 - J = W - (J + 1) by omega]
    exact upd_tup (f := fun _ => 0) (x := 1) hJ
  have q3 := fun G : Nat → Int => add_tup ((List.range I).map fun _ => tf W fun _ => 0) [tf W G] (by simp; omega)
  have q4 := fun G : Nat → Int => add_tup ((List.range I).map (fun _ => tf W fun _ => 0) ++ [tf W G]) ((List.range (H - 1 - I)).map fun _ => tf W fun _ => 0) (by simp; omega)
  have q4' := fun G : Nat → Int => (show (List.range I).map (fun _ => tf W fun _ => 0) ++ [tf W G] ++ ((List.range (H - 1 - I)).map fun _ => tf W fun _ => 0) = bl H W fun i => if i = I then G else fun _ => 0 by
    rw [show H - 1 - I = H - (I + 1) by omega]
    exact upd_brd (F := fun _ _ => 0) (G := G) (w := W) hI)
  have ht' : ∀ n, tf n (fun _ => 0) = Dt.tup (tl n fun _ => 0) := fun _ => rfl
  have q1' : addE (.h (tf J fun _ => 0)) (.h (.tup [.int 1])) = some (.h (.tup (tl J (fun _ => 0) ++ [.int 1]))) := q1
  have q2'' : addE (.h (.tup (tl J (fun _ => 0) ++ [.int 1]))) (.h (tf (W - 1 - J) fun _ => 0)) = some (.h (tf W (upd1 (fun _ => 0) J 1))) := by
    rw [← ht W, ← q2']
    exact q2
  simp -implicitDefEqProofs only [b23_T1, evSs, evS, evE, evEs, evO, evI, view, Bd.v, List.map_cons, List.map_nil, List.set_cons_succ, List.set_cons_zero, List.getElem?_cons_succ, List.getElem?_cons_zero, Option.map_some, Option.map_none, Option.join_some, bind, Option.bind_some, biE, binE, putE, fr, asVar, truE, if_true, if_false, Bool.false_eq_true, Bool.not_true, Bool.not_false, asI, asH, add_int, sub_int, int_int, ok_bind, ok_some, ok_map, srcI, srcVars, srcOk, frzAll, frz, Option.toList, Bool.or_true, Bool.true_or, Bool.false_or, Int.zero_add, asHs, List.length_cons, List.length_nil, Nat.zero_add, l1, z1, z2, z3, z4, z5, d1, d2, q1', q2'', q3, q4, q4', hb]
  simp -implicitDefEqProofs only [b23_T0, evSs, evS, evE, evEs, evO, evI, view, Bd.v, List.map_cons, List.map_nil, List.set_cons_succ, List.set_cons_zero, List.getElem?_cons_succ, List.getElem?_cons_zero, Option.map_some, Option.map_none, Option.join_some, bind, Option.bind_some, biE, binE, putE, fr, asVar, truE, if_true, if_false, Bool.false_eq_true, Bool.not_true, Bool.not_false, asI, asH, add_int, sub_int, int_int, ok_bind, ok_some, ok_map, srcI, srcVars, srcOk, frzAll, frz, Option.toList, Bool.or_true, Bool.true_or, Bool.false_or, Int.zero_add, asHs, List.length_cons, List.length_nil, Nat.zero_add, Nat.reduceAdd, l4]
  refine ok_of rfl ?_
  have k1 := c.c20 H W S (by omega) (by omega) h0 w0
  have k2 := c.c20 H W B (by omega) (by omega) h0 w0
  have k3 := fun F => c.c20 H W F (by omega) (by omega) h0 w0
  simp -implicitDefEqProofs only [loopE, bindB_nm, b23_L1, evSs, evS, evE, evEs, evO, evI, view, Bd.v, List.map_cons, List.map_nil, List.set_cons_succ, List.set_cons_zero, List.getElem?_cons_succ, List.getElem?_cons_zero, Option.map_some, Option.map_none, Option.join_some, bind, Option.bind_some, biE, binE, putE, fr, asVar, truE, if_true, if_false, Bool.false_eq_true, Bool.not_true, Bool.not_false, asI, asH, add_int, sub_int, int_int, ok_bind, ok_some, ok_map, srcI, srcVars, srcOk, frzAll, frz, Option.toList, Bool.or_true, Bool.true_or, Bool.false_or, Int.zero_add, k3]
  exact hq _ _ _
/-- the first part of a turn, the tuples -/
theorem turn_all {ns : List Int} (c : Cf cf ns) (k : Nat) (v2 v3 v4 v5 v6 v7 v8 v9 v10 v11 v12 v13 v14 v15 v16 v17 : Option Bd) (b0 : Option Bd) (hb0 : b0 = some (.im (.s (ns.map .int)))) (Q : Fl → Prop)
    (hq : ∀ v1 v2 v3 v4 v5 v6 v7 v8 v9 v10 v11 v12 v13 v14 v15 v16 v17, Q (.nx [b0, v1, v2, v3, v4, v5, v6, v7, v8, v9, v10, v11, v12, v13, v14, v15, v16, v17])) :
    Ok (evSs cf wf b23_L2 [b0, some (.im (.h (.int k))), v2, v3, v4, v5, v6, v7, v8, v9, v10, v11, v12, v13, v14, v15, v16, v17]) Q := by
  subst hb0
  obtain ⟨x, c9⟩ := c.c9 k
  obtain ⟨ds, hl, hd, c10⟩ := c.c10 x
  obtain ⟨p, hp, hdr⟩ := draws_fn hl hd
  rw [hp] at c10
  have md : ∀ (a b : Int), 0 < b → modE (.h (.int a)) (.h (.int b)) = some (.h (.int (a % b))) := fun a b h => mod_int h
  have px : ∀ i : Nat, i < 50 → ixE (.l (tl 50 p)) (.h (.int (i : Nat))) = some (.h (.int (p i))) := fun i hi => ix_tlL hi
  have p0 : ixE (.l (tl 50 p)) (.h (.int 0)) = some (.h (.int (p 0))) := px 0 (by omega)
  have p1 : ixE (.l (tl 50 p)) (.h (.int 1)) = some (.h (.int (p 1))) := px 1 (by omega)
  have p14 : ixE (.l (tl 50 p)) (.h (.int 14)) = some (.h (.int (p 14))) := px 14 (by omega)
  have p15 : ixE (.l (tl 50 p)) (.h (.int 15)) = some (.h (.int (p 15))) := px 15 (by omega)
  have p16 : ixE (.l (tl 50 p)) (.h (.int 16)) = some (.h (.int (p 16))) := px 16 (by omega)
  have p17 : ixE (.l (tl 50 p)) (.h (.int 17)) = some (.h (.int (p 17))) := px 17 (by omega)
  have p43 : ixE (.l (tl 50 p)) (.h (.int 43)) = some (.h (.int (p 43))) := px 43 (by omega)
  have p44 : ixE (.l (tl 50 p)) (.h (.int 44)) = some (.h (.int (p 44))) := px 44 (by omega)
  have l2 : 2 ≤ sizeLine := le_line (by omega)
  have l1 : 1 ≤ sizeLine := le_line (by omega)
  have e0 : (0 : Nat) ≤ sizeLine := Nat.zero_le _
  have m12 := md (p 0) 12 (by decide)
  obtain ⟨n, hn1, hn2, hn3⟩ : ∃ n : Nat, 1 + p 0 % 12 = (n : Int) ∧ 0 < n ∧ n ≤ 12 := ⟨(1 + p 0 % 12).toNat, by omega, by omega, by omega⟩
  have m2 := md (p 1) 2 (by decide)
  obtain ⟨sc, hsc, hix⟩ : ∃ sc : Int, sc.natAbs ≤ 300 ∧ ixE (.h (.tup [.int 1, .int 300])) (.h (.int (p 1 % 2))) = some (.h (.int sc)) := by
    have : p 1 % 2 = 0 ∨ p 1 % 2 = 1 := by omega
    rcases this with h | h
    · exact ⟨1, by decide, by rw [h]; rfl⟩
    · exact ⟨300, by decide, by rw [h]; rfl⟩
  have hsm : small62 (n : Int) = true := small62_nat (by omega)
  have hln : (rngD 0 (n : Int)).length < sizeLine := lt_line (by rw [rngD_len']; omega)
  simp -implicitDefEqProofs only [b23_L2, b23_T19, b23_T18, evSs, evS, evE, evEs, evO, evI, view, Bd.v, List.map_cons, List.map_nil, List.set_cons_succ, List.set_cons_zero, List.getElem?_cons_succ, List.getElem?_cons_zero, Option.map_some, Option.map_none, Option.join_some, bind, Option.bind_some, biE, binE, putE, fr, asVar, truE, if_true, if_false, Bool.false_eq_true, Bool.not_true, Bool.not_false, asI, asH, add_int, sub_int, int_int, ok_bind, ok_some, ok_map, srcI, srcVars, srcOk, frzAll, frz, Option.toList, Bool.or_true, Bool.true_or, Bool.false_or, Int.zero_add, c9, c10, p0, p1, m12, hn1, m2, asHs, List.length_cons, List.length_nil, Nat.zero_add, Nat.reduceAdd, l2, hix]
  simp -implicitDefEqProofs only [b23_T17, evSs, evS, evE, evEs, evO, evI, view, Bd.v, List.map_cons, List.map_nil, List.set_cons_succ, List.set_cons_zero, List.getElem?_cons_succ, List.getElem?_cons_zero, Option.map_some, Option.map_none, Option.join_some, bind, Option.bind_some, biE, binE, putE, fr, asVar, truE, if_true, if_false, Bool.false_eq_true, Bool.not_true, Bool.not_false, asI, asH, add_int, sub_int, int_int, ok_bind, ok_some, ok_map, srcI, srcVars, srcOk, frzAll, frz, Option.toList, Bool.or_true, Bool.true_or, Bool.false_or, Int.zero_add, hsm]
  refine ok_of (compL_rng0 (fun i => .int ((p (2 + i) % 61 - 30) * sc)) n fun i hi => ?_) ?_
  · rw [← ok_eq]
    have a1 := px (2 + i) (by omega)
    rw [show ((2 + i : Nat) : Int) = 2 + (i : Int) by omega] at a1
    have m61 := md (p (2 + i)) 61 (by decide)
    have mm : mulE (.h (.int (p (2 + i) % 61 - 30))) (.h (.int sc)) = some (.h (.int ((p (2 + i) % 61 - 30) * sc))) := mul_int (mulOk_r (by omega))
    simp -implicitDefEqProofs only [b23_C0, evSs, evS, evE, evEs, evO, evI, view, Bd.v, List.map_cons, List.map_nil, List.set_cons_succ, List.set_cons_zero, List.getElem?_cons_succ, List.getElem?_cons_zero, Option.map_some, Option.map_none, Option.join_some, bind, Option.bind_some, biE, binE, putE, fr, asVar, truE, if_true, if_false, Bool.false_eq_true, Bool.not_true, Bool.not_false, asI, asH, add_int, sub_int, int_int, ok_bind, ok_some, ok_map, srcI, srcVars, srcOk, frzAll, frz, Option.toList, Bool.or_true, Bool.true_or, Bool.false_or, Int.zero_add, bindE_nm, wipeE, evC, a1, m61, mm]
  · have et : Dt.tup ((List.range n).map fun i => .int ((p (2 + i) % 61 - 30) * sc)) = tf n fun i => (p (2 + i) % 61 - 30) * sc := rfl
    generalize hf : (fun i => (p (2 + i) % 61 - 30) * sc) = f at et
    have hfi : ∀ i, (p (2 + i) % 61 - 30) * sc = f i := fun i => congrFun hf i
    simp -implicitDefEqProofs only [hfi] at et ⊢
    have m3 := md (p 14) n (by omega)
    obtain ⟨a, ha1, ha2⟩ : ∃ a : Nat, p 14 % (n : Int) = (a : Int) ∧ a < n := by
      have h1 := Int.emod_nonneg (p 14) (b := (n : Int)) (by omega)
      have h2 := Int.emod_lt_of_pos (p 14) (b := (n : Int)) (by omega)
      exact ⟨(p 14 % (n : Int)).toNat, by omega, by omega⟩
    have k18 := c.c18 n f hn2 (by omega)
    have k14 := c.c14 n f (by omega)
    have tp : tupleE [.l ((List.range n).map fun i => .int (f i))] = some (.h (tf n f)) := rfl
    have m9 := md (p 15) 9 (by decide)
    have m5 := fun i => md (p i) 5 (by decide)
    have x1 := ix_tl (f := near n f) ha2
    have s1 : slE (.h (tf n (near n f))) none (some (a : Int)) = some (.h (.tup ((List.range a).map fun i => .int (near n f i)))) := by
      simp -implicitDefEqProofs only [tf, slE]
      unfold tl
      rw [cut_to _ n a ha2]
    have s2 : slE (.h (tf n (near n f))) (some ((a : Int) + 1)) none = some (.h (.tup ((List.range (n - (a + 1))).map fun i => .int (near n f (a + 1 + i))))) := by
      simp -implicitDefEqProofs only [tf, slE]
      unfold tl
      rw [show ((a : Int) + 1) = ((a + 1 : Nat) : Int) by omega, cut_from _ n a ha2]
    have a1 := fun x : Int => add_tup ((List.range a).map fun i => Dt.int (near n f i)) [.int x] (by simp; omega)
    have a2 := fun x : Int => add_tup ((List.range a).map (fun i => Dt.int (near n f i)) ++ [.int x]) ((List.range (n - (a + 1))).map fun i => Dt.int (near n f (a + 1 + i))) (by simp; omega)
    have a2' := fun x : Int => upd_tup (f := near n f) (x := x) ha2
    have ht : ∀ n f, Dt.tup (tl n f) = tf n f := fun _ _ => rfl
    have hb : ∀ h w F, Dt.tup (bl h w F) = bf h w F := fun _ _ _ => rfl
    have k19 := fun g => c.c19 n g hn2 (by omega)
    have k19' : cf 19 [.h (.tup [.int 1, .int (0 - 5)])] = some (.h (.bl true)) := by
      have e : Dt.tup [.int 1, .int (0 - 5)] = tf 2 fun i => if i = 0 then 1 else 0 - 5 := by
        unfold tf tl
        simp [List.range_succ]
      rw [e]
      exact c.c19 2 _ (by omega) (by omega)
    obtain ⟨H, hH1, hH2, hH3⟩ : ∃ H : Nat, 1 + p 16 % 5 = (H : Int) ∧ 0 < H ∧ H ≤ 5 := ⟨(1 + p 16 % 5).toNat, by omega, by omega, by omega⟩
    obtain ⟨W, hW1, hW2, hW3⟩ : ∃ W : Nat, 1 + p 17 % 5 = (W : Int) ∧ 0 < W ∧ W ≤ 5 := ⟨(1 + p 17 % 5).toNat, by omega, by omega, by omega⟩
    have hsH : small62 (H : Int) = true := small62_nat (by omega)
    have hsW : small62 (W : Int) = true := small62_nat (by omega)
    have hlW : (rngD 0 (W : Int)).length < sizeLine := lt_line (by rw [rngD_len']; omega)
    simp -implicitDefEqProofs only [hln, evSs, evS, evE, evEs, evO, evI, view, Bd.v, List.map_cons, List.map_nil, List.set_cons_succ, List.set_cons_zero, List.getElem?_cons_succ, List.getElem?_cons_zero, Option.map_some, Option.map_none, Option.join_some, bind, Option.bind_some, biE, binE, putE, fr, asVar, truE, if_true, if_false, Bool.false_eq_true, Bool.not_true, Bool.not_false, asI, asH, add_int, sub_int, int_int, ok_bind, ok_some, ok_map, srcI, srcVars, srcOk, frzAll, frz, Option.toList, Bool.or_true, Bool.true_or, Bool.false_or, Int.zero_add, tp, b23_T16, k18, b23_T15, k14, b23_T14, p14, m3, ha1, b23_T13, s1, s2, x1, p15, m9, asHs, List.length_cons, List.length_nil, Nat.zero_add, Nat.reduceAdd, l1, l2, a1, a2, a2', ht]
    simp -implicitDefEqProofs only [b23_T12, evSs, evS, evE, evEs, evO, evI, view, Bd.v, List.map_cons, List.map_nil, List.set_cons_succ, List.set_cons_zero, List.getElem?_cons_succ, List.getElem?_cons_zero, Option.map_some, Option.map_none, Option.join_some, bind, Option.bind_some, biE, binE, putE, fr, asVar, truE, if_true, if_false, Bool.false_eq_true, Bool.not_true, Bool.not_false, asI, asH, add_int, sub_int, int_int, ok_bind, ok_some, ok_map, srcI, srcVars, srcOk, frzAll, frz, Option.toList, Bool.or_true, Bool.true_or, Bool.false_or, Int.zero_add, k19, k19', asHs, List.length_cons, List.length_nil, Nat.zero_add, Nat.reduceAdd, l2, b23_T11, p16, m5, hH1, b23_T10, p17, hW1, b23_T9, e0, b23_T8, hsH]
    let B : Nat → Nat → Int := fun i j => p (18 + 5 * i + j) % 19 - 9
    refine ok_loopR (a := 0) (b := H) (fun i β => ∃ w12, β = [some (.im (.s (ns.map .int))), some (.im (.h (.int k))), some (.ow (.l (tl 50 p))), some (.im (.h (.int n))), some (.im (.h (.int sc))), some (.im (.h (tf n f))), some (.im (.h (tf n (near n f)))), some (.im (.h (.int a))), some (.im (.h (tf n (upd1 (near n f) a (near n f a + 1 + p 15 % 9))))), some (.im (.h (.int H))), some (.im (.h (.int W))), some (.ow (.l (bl i W B))), w12, v13, v14, v15, v16, v17]) ⟨v12, rfl⟩ (fun i β hi ⟨w12, hbe⟩ => ?_) fun β ⟨w12, hbe⟩ => ?_
    · subst hbe
      have hi' : i < H := by omega
      have ll : (bl i W B).length < sizeLine := lt_line (by rw [bl_len]; omega)
      simp -implicitDefEqProofs only [b23_L0, evSs, evS, evE, evEs, evO, evI, view, Bd.v, List.map_cons, List.map_nil, List.set_cons_succ, List.set_cons_zero, List.getElem?_cons_succ, List.getElem?_cons_zero, Option.map_some, Option.map_none, Option.join_some, bind, Option.bind_some, biE, binE, putE, fr, asVar, truE, if_true, if_false, Bool.false_eq_true, Bool.not_true, Bool.not_false, asI, asH, add_int, sub_int, int_int, ok_bind, ok_some, ok_map, srcI, srcVars, srcOk, frzAll, frz, Option.toList, Bool.or_true, Bool.true_or, Bool.false_or, Int.zero_add, bindB_nm, hsW]
      refine ok_of (compL_rng0 (fun j => .int (B i j)) W fun j hj => ?_) ?_
      · rw [← ok_eq]
        have b1 := px (18 + 5 * i + j) (by omega)
        rw [show ((18 + 5 * i + j : Nat) : Int) = 18 + 5 * (i : Int) + (j : Int) by omega] at b1
        have m19 := md (p (18 + 5 * i + j)) 19 (by decide)
        have mm : mulE (.h (.int 5)) (.h (.int (i : Int))) = some (.h (.int (5 * (i : Int)))) := mul_int (mulOk_l (by decide))
        simp -implicitDefEqProofs only [b23_C1, evSs, evS, evE, evEs, evO, evI, view, Bd.v, List.map_cons, List.map_nil, List.set_cons_succ, List.set_cons_zero, List.getElem?_cons_succ, List.getElem?_cons_zero, Option.map_some, Option.map_none, Option.join_some, bind, Option.bind_some, biE, binE, putE, fr, asVar, truE, if_true, if_false, Bool.false_eq_true, Bool.not_true, Bool.not_false, asI, asH, add_int, sub_int, int_int, ok_bind, ok_some, ok_map, srcI, srcVars, srcOk, frzAll, frz, Option.toList, Bool.or_true, Bool.true_or, Bool.false_or, Int.zero_add, bindE_nm, wipeE, evC, mm, b1, m19]
        rfl
      · have tp2 : tupleE [.l ((List.range W).map fun j => .int (B i j))] = some (.h (tf W (B i))) := rfl
        simp -implicitDefEqProofs only [hlW, evSs, evS, evE, evEs, evO, evI, view, Bd.v, List.map_cons, List.map_nil, List.set_cons_succ, List.set_cons_zero, List.getElem?_cons_succ, List.getElem?_cons_zero, Option.map_some, Option.map_none, Option.join_some, bind, Option.bind_some, biE, binE, putE, fr, asVar, truE, if_true, if_false, Bool.false_eq_true, Bool.not_true, Bool.not_false, asI, asH, add_int, sub_int, int_int, ok_bind, ok_some, ok_map, srcI, srcVars, srcOk, frzAll, frz, Option.toList, Bool.or_true, Bool.true_or, Bool.false_or, Int.zero_add, tp2, ownL, ll, Turned]
        exact ⟨_, by rw [bl_succ]⟩
    · subst hbe
      rw [show ((H : Int) - 0).toNat = H by omega]
      have tp3 : tupleE [.l (bl H W B)] = some (.h (bf H W B)) := rfl
      have k17 := c.c17 H W B (by omega) (by omega) hH2
      have k6 := c.c6 H W B (by omega) (by omega) hH2 hW2
      have k12 := c.c12 (bf H W fun i j => near H (fun k => near W (B k) j) i) (fit_bf (by omega) (by omega)) (by have := dep_bf (h := H) (w := W) (F := fun i j => near H (fun k => near W (B k) j) i); omega)
      have mH := md (p 43) H (by omega)
      have mW := md (p 44) W (by omega)
      obtain ⟨I, hI1, hI2⟩ : ∃ a : Nat, p 43 % (H : Int) = (a : Int) ∧ a < H := by
        have h1 := Int.emod_nonneg (p 43) (b := (H : Int)) (by omega)
        have h2 := Int.emod_lt_of_pos (p 43) (b := (H : Int)) (by omega)
        exact ⟨(p 43 % (H : Int)).toNat, by omega, by omega⟩
      obtain ⟨J, hJ1, hJ2⟩ : ∃ a : Nat, p 44 % (W : Int) = (a : Int) ∧ a < W := by
        have h1 := Int.emod_nonneg (p 44) (b := (W : Int)) (by omega)
        have h2 := Int.emod_lt_of_pos (p 44) (b := (W : Int)) (by omega)
        exact ⟨(p 44 % (W : Int)).toNat, by omega, by omega⟩
      simp -implicitDefEqProofs only [b23_T7, evSs, evS, evE, evEs, evO, evI, view, Bd.v, List.map_cons, List.map_nil, List.set_cons_succ, List.set_cons_zero, List.getElem?_cons_succ, List.getElem?_cons_zero, Option.map_some, Option.map_none, Option.join_some, bind, Option.bind_some, biE, binE, putE, fr, asVar, truE, if_true, if_false, Bool.false_eq_true, Bool.not_true, Bool.not_false, asI, asH, add_int, sub_int, int_int, ok_bind, ok_some, ok_map, srcI, srcVars, srcOk, frzAll, frz, Option.toList, Bool.or_true, Bool.true_or, Bool.false_or, Int.zero_add, tp3, b23_T6, k17, b23_T5, k6, k12, b23_T4, p43, mH, hI1, b23_T3, p44, mW, hJ1]
      exact turn_boards c p hdr H W I J hH2 hH3 hW2 hW3 hI2 hJ2 B _ _ _ _ _ _ _ _ _ _ _ _ Q fun _ _ _ => hq _ _ _ _ _ _ _ _ _ _ _ _ _ _ _ _ _
theorem run_law {ns : List Int} (c : Cf cf ns) : runB cf wf ⟨1, 18, b23⟩ [.s (ns.map .int)] = some (.h (.bl true)) := by
  have hs : startE 18 [.s (ns.map .int)] = [some (.im (.s (ns.map .int))), none, none, none, none, none, none, none, none, none, none, none, none, none, none, none, none, none] := rfl
  have h3 : small62 3 = true := by decide
  rw [← ok_eq]
  simp -implicitDefEqProofs only [runB, b23, hs, evSs, evS, evE, evEs, evO, evI, view, Bd.v, List.map_cons, List.map_nil, List.set_cons_succ, List.set_cons_zero, List.getElem?_cons_succ, List.getElem?_cons_zero, Option.map_some, Option.map_none, Option.join_some, bind, Option.bind_some, biE, binE, putE, fr, asVar, truE, if_true, if_false, Bool.false_eq_true, Bool.not_true, Bool.not_false, asI, asH, add_int, sub_int, int_int, ok_bind, ok_some, ok_map, srcI, srcVars, srcOk, frzAll, frz, Option.toList, Bool.or_true, Bool.true_or, Bool.false_or, Int.zero_add, h3]
  refine ok_loopR (a := 0) (b := 3) (fun i β => ∃ v1 v2 v3 v4 v5 v6 v7 v8 v9 v10 v11 v12 v13 v14 v15 v16 v17, β = [some (.im (.s (ns.map .int))), v1, v2, v3, v4, v5, v6, v7, v8, v9, v10, v11, v12, v13, v14, v15, v16, v17]) ⟨none, none, none, none, none, none, none, none, none, none, none, none, none, none, none, none, none, rfl⟩ (fun i β hi ⟨v1, v2, v3, v4, v5, v6, v7, v8, v9, v10, v11, v12, v13, v14, v15, v16, v17, hb⟩ => ?_) fun β ⟨v1, v2, v3, v4, v5, v6, v7, v8, v9, v10, v11, v12, v13, v14, v15, v16, v17, hb⟩ => ?_
  · subst hb
    simp -implicitDefEqProofs only [bindB_nm, List.set_cons_succ, List.set_cons_zero, Option.bind_some, Int.zero_add, bind]
    exact turn_all c i v2 v3 v4 v5 v6 v7 v8 v9 v10 v11 v12 v13 v14 v15 v16 v17 _ rfl _ fun v1 v2 v3 v4 v5 v6 v7 v8 v9 v10 v11 v12 v13 v14 v15 v16 v17 => ⟨v1, v2, v3, v4, v5, v6, v7, v8, v9, v10, v11, v12, v13, v14, v15, v16, v17, rfl⟩
  · subst hb
    simp -implicitDefEqProofs only [b23_T20, evSs, evS, evE, evEs, evO, evI, view, Bd.v, List.map_cons, List.map_nil, List.set_cons_succ, List.set_cons_zero, List.getElem?_cons_succ, List.getElem?_cons_zero, Option.map_some, Option.map_none, Option.join_some, bind, Option.bind_some, biE, binE, putE, fr, asVar, truE, if_true, if_false, Bool.false_eq_true, Bool.not_true, Bool.not_false, asI, asH, add_int, sub_int, int_int, ok_bind, ok_some, ok_map, srcI, srcVars, srcOk, frzAll, frz, Option.toList, Bool.or_true, Bool.true_or, Bool.false_or, Int.zero_add]
end
end Lk85
namespace Lk85
open Ev PySem L2
def WF : Nat := 1
def KD : Nat := 20
theorem at_ {K f : Nat} {vs : List Vl} {r : Vl} (fn : Fn) (h : fns[f]? = some fn) (hl : vs.length = fn.np) (hK : 1 ≤ K) (e : runB (evF fns WF (K - 1)) WF fn vs = some r) : evF fns WF K f vs = some r := by
  obtain ⟨k, rfl⟩ : ∃ k, K = k + 1 := ⟨K - 1, by omega⟩
  rw [evF_at h hl]
  exact e
section
variable {K : Nat}
theorem e0 (hK : 1 ≤ K) (n : Nat) (f : Nat → Int) (hn : n ≤ 1000) : evF fns WF K 0 [.h (tf n f)] = some (.h (tf n (near n f))) := at_ ⟨1, 2, b1⟩ rfl rfl hK (run_near n f hn)
theorem e1 (hK : 1 ≤ K) (n : Nat) (hn : n ≤ 1000) : evF fns WF K 1 [.h (.int n)] = some (.h (if n % 3 = 2 then tf n gh else .non)) := at_ ⟨1, 2, b2⟩ rfl rfl hK (run_ghost n hn)
theorem e2 (hK : 2 ≤ K) (n : Nat) (f : Nat → Int) (hn : n ≤ 1000) : evF fns WF K 2 [.h (tf n f)] = some (.h (.int (imb n f))) := at_ ⟨1, 4, b3⟩ rfl rfl (by omega) (run_imb n f hn (e1 (by omega) n hn))
theorem e3 (hK : 1 ≤ K) (n : Nat) (s : Nat → Int) (a : Int) (hn : n ≤ 1000) (h0 : 0 < n) : evF fns WF K 3 [.h (tf n s), .h (.int a)] = some (.l (tl (n + 1) (beh s a))) := at_ ⟨2, 4, b4⟩ rfl rfl hK (run_beh n s a hn h0)
theorem e4 (hK : 3 ≤ K) (n : Nat) (s : Nat → Int) (h0 : 0 < n) (hn : n ≤ 1000) : evF fns WF K 4 [.h (tf n s)] = some (.h (if imb n s = 0 then tf n (told n s) else .non)) :=
  at_ ⟨1, 3, b5⟩ rfl rfl (by omega) (run_told n s hn h0 (e2 (by omega) n s hn) (fun a => e3 (by omega) n s a hn h0) (told_mul s n))
theorem e5 (hK : 1 ≤ K) (h w : Nat) (F : Nat → Nat → Int) (hh : h ≤ 1000) (hw : w ≤ 1000) (h0 : 0 < h) : evF fns WF K 5 [.h (bf h w F)] = some (.h (bf w h fun j i => F i j)) := at_ ⟨1, 3, b6⟩ rfl rfl hK (run_side h w F hh hw h0)
theorem e6 (hK : 2 ≤ K) (h w : Nat) (F : Nat → Nat → Int) (hh : h ≤ 100) (hw : w ≤ 100) (h0 : 0 < h) (w0 : 0 < w) : evF fns WF K 6 [.h (bf h w F)] = some (.h (bf h w fun i j => near h (fun k => near w (F k) j) i)) :=
  at_ ⟨1, 3, b7⟩ rfl rfl (by omega) (run_bnear h w F (by omega) (by omega) h0 w0 (fun n f hn => e0 (by omega) n f hn) fun h w F a b c => e5 (by omega) h w F a b c)
theorem e7 (hK : 3 ≤ K) (h w : Nat) (F : Nat → Nat → Int) (hh : h ≤ 100) (hw : w ≤ 100) (h0 : 0 < h) : evF fns WF K 7 [.h (bf h w F)] = some (.h (tiltD h w F)) :=
  at_ ⟨1, 5, b8⟩ rfl rfl (by omega) (run_tilt h w F (by omega) (by omega) h0 (fun n f hn => e2 (by omega) n f hn) fun h w F a b c => e5 (by omega) h w F a b c)
theorem e8 (hK : 4 ≤ K) (h w : Nat) (F : Nat → Nat → Int) (hh : h ≤ 100) (hw : w ≤ 100) (h0 : 0 < h) (w0 : 0 < w) : evF fns WF K 8 [.h (bf h w F)] = some (.h (if flatB h w F = true then bf h w (told2 h w F) else .non)) :=
  at_ ⟨1, 3, b9⟩ rfl rfl (by omega) (run_tboard h w F (by omega) (by omega) h0 w0 (fun n f a b => e4 (by omega) n f a b) (fun h w F a b c => e5 (by omega) h w F a b c) (e7 (by omega) h w F hh hw h0))
theorem e9 (hK : 1 ≤ K) (ns : List Int) (j : Nat) : ∃ c : Int, evF fns WF K 9 [.s (ns.map .int), .h (.int j)] = some (.h (.int c)) := by
  obtain ⟨c, hc⟩ := run_cell (cf := evF fns WF (K - 1)) (wf := WF) (a := 5) (b := 3) (by decide) ns j
  exact ⟨c, at_ ⟨2, 2, cellB 5 3⟩ rfl rfl hK hc⟩
theorem e10 (hK : 1 ≤ K) (c : Int) : ∃ ds : List Int, ds.length = 50 ∧ (∀ d ∈ ds, okDraw d) ∧ evF fns WF K 10 [.h (.int c), .h (.int 50)] = some (.l (ds.map .int)) := by
  obtain ⟨ds, h1, h2, h3⟩ := run_draws (cf := evF fns WF (K - 1)) (wf := WF) c 50 (by omega)
  exact ⟨ds, h1, h2, at_ ⟨2, 8, drawsB⟩ rfl rfl hK h3⟩
theorem e11 (hK : 1 ≤ K) (i : Int) : evF fns WF K 11 [.h (.int i)] = some (.h (.bl true)) := at_ ⟨1, 1, isIntB⟩ rfl rfl hK (run_isInt i)
theorem e12 (hK : 5 ≤ K) (d : Dt) (hf : fitD d = true) (hd : dep d ≤ 3) : evF fns WF K 12 [.h d, .h d] = some (.h (.bl true)) := run_is (n := 11) (s := 12) rfl rfl 3 d K hd hf (by omega)
theorem e13 (hK : 2 ≤ K) (n : Nat) (f : Nat → Int) (hn : n ≤ 1000) : evF fns WF K 13 [.h (tf n f)] = some (.h (.bl true)) := at_ ⟨1, 2, b15⟩ rfl rfl (by omega) (run_isInts n f hn fun i => e11 (by omega) i)
theorem e14 (hK : 1 ≤ K) (n : Nat) (f : Nat → Int) (hn : n ≤ 1000) : evF fns WF K 14 [.h (tf n f)] = some (.h (tf n (near n f))) := at_ ⟨1, 4, b16⟩ rfl rfl hK (run_lnear n f hn)
theorem e15 (hK : 1 ≤ K) (n : Nat) (hn : n ≤ 1000) : evF fns WF K 15 [.h (.int n)] = some (.h (if n % 3 = 2 then tf n gh else .non)) := at_ ⟨1, 3, b17⟩ rfl rfl hK (run_lghost n hn)
theorem e16 (hK : 2 ≤ K) (n : Nat) (f : Nat → Int) (hn : n ≤ 1000) : evF fns WF K 16 [.h (tf n f)] = some (.h (.int (imb n f))) := at_ ⟨1, 3, b18⟩ rfl rfl (by omega) (run_off n f hn (e15 (by omega) n hn))
theorem e16L (hK : 2 ≤ K) (n : Nat) (f : Nat → Int) (hn : n ≤ 1000) : evF fns WF K 16 [.l (tl n f)] = some (.h (.int (imb n f))) := at_ ⟨1, 3, b18⟩ rfl rfl (by omega) (run_offL n f hn (e15 (by omega) n hn))
theorem e17 (hK : 1 ≤ K) (h w : Nat) (F : Nat → Nat → Int) (hh : h ≤ 100) (hw : w ≤ 100) (h0 : 0 < h) : evF fns WF K 17 [.h (bf h w F)] = some (.h (bf h w fun i j => near h (fun k => near w (F k) j) i)) := at_ ⟨1, 7, b19⟩ rfl rfl hK (run_wide h w F (by omega) (by omega) h0)
theorem e18 (hK : 6 ≤ K) (n : Nat) (f : Nat → Int) (h0 : 0 < n) (hn : n ≤ 1000) : evF fns WF K 18 [.h (tf n f)] = some (.h (.bl true)) :=
  at_ ⟨1, 6, b20⟩ rfl rfl (by omega) (run_ltuple n f hn h0 (fun n f h => e0 (by omega) n f h) (e1 (by omega) n hn) (fun n f h => e2 (by omega) n f h) (fun n f a b => e4 (by omega) n f a b) (fun d a b => e12 (by omega) d a b) (fun n f h => e14 (by omega) n f h) (e15 (by omega) n hn) fun n f h => e16 (by omega) n f h)
theorem e19 (hK : 6 ≤ K) (n : Nat) (f : Nat → Int) (h0 : 0 < n) (hn : n ≤ 1000) : evF fns WF K 19 [.h (tf n f)] = some (.h (.bl true)) :=
  at_ ⟨1, 2, b21⟩ rfl rfl (by omega) (run_lsums n f hn h0 (e4 (by omega) n f h0 hn) (e16 (by omega) n f hn) (fun n f h => e13 (by omega) n f h) fun n f h => e14 (by omega) n f h)
theorem e20 (hK : 6 ≤ K) (h w : Nat) (F : Nat → Nat → Int) (hh : h ≤ 100) (hw : w ≤ 100) (h0 : 0 < h) (w0 : 0 < w) : evF fns WF K 20 [.h (bf h w F)] = some (.h (.bl true)) :=
  at_ ⟨1, 6, b22⟩ rfl rfl (by omega) (run_lboard h w F hh hw h0 w0 (e7 (by omega) h w F hh hw h0) (e8 (by omega) h w F hh hw h0 w0) (fun d a b => e12 (by omega) d a b) (fun n f h => e13 (by omega) n f h) (fun n f h => e16 (by omega) n f h) (fun n f h => e16L (by omega) n f h) fun G => e17 (by omega) h w G hh hw h0)
theorem cf_ok (hK : 7 ≤ K) (ns : List Int) : Cf (evF fns WF K) ns :=
  ⟨fun h w F a b c d => e6 (by omega) h w F a b c d, fun j => e9 (by omega) ns j, fun c => e10 (by omega) c, fun d a b => e12 (by omega) d a b, fun n f h => e14 (by omega) n f h, fun h w F a b c => e17 (by omega) h w F a b c, fun n f a b => e18 (by omega) n f a b, fun n f a b => e19 (by omega) n f a b, fun h w F a b c d => e20 (by omega) h w F a b c d⟩
end
theorem law_pure : ∀ ns : List Int, ns.length ≤ 63 → evF fns WF KD 21 [.s (ns.map .int)] = some (.h (.bl true)) := fun ns _ =>
  at_ (K := KD) ⟨1, 18, b23⟩ rfl rfl (by decide) (run_law (cf_ok (by decide) ns))
end Lk85
namespace Lk85
open PySem PySem.Spec PyProof.Rows L2 Ev
def tp (i : Nat) : Stmt := PySem.Challenge.pw_shadehall_k85_whole_near_sums_and_ghosts.main.body.getD i (.Pass ⟨0, 0, 0, 0⟩)
def d1 : DD := ⟨"near_sums", tp 1, ["items", "at"], ["items"]⟩
def d2 : DD := ⟨"ghost_of", tp 2, ["n", "at"], ["n"]⟩
def d3 : DD := ⟨"imbalance_of", tp 3, ["items", "ghost", "item", "sign"], ["items"]⟩
def d4 : DD := ⟨"items_behind", tp 4, ["sums", "first", "items", "at"], ["sums", "first"]⟩
def d5 : DD := ⟨"told_from_sums", tp 5, ["sums", "first", "left"], ["sums"]⟩
def d6 : DD := ⟨"sideways", tp 6, ["board", "j", "line"], ["board"]⟩
def d7 : DD := ⟨"board_near_sums", tp 7, ["board", "wide", "line"], ["board"]⟩
def d8 : DD := ⟨"told_tilt", tp 8, ["board", "side", "lines", "place", "line"], ["board"]⟩
def d9 : DD := ⟨"told_board", tp 9, ["board", "wide", "line"], ["board"]⟩
def d11 : DD := ⟨"_law_cell", tp 11, ["script", "k"], ["script", "k"]⟩
def d12 : DD := ⟨"_law_draws", tp 12, ["cell", "count", "rest", "digits", "seed", "draws", "k", "mixed"], ["cell", "count"]⟩
def d13 : DD := ⟨"_law_is_integer", tp 13, ["value"], ["value"]⟩
def d14 : DD := ⟨"_law_is", tp 14, ["value", "due", "at"], ["value", "due"]⟩
def d15 : DD := ⟨"_law_is_integers", tp 15, ["value", "number"], ["value"]⟩
def d16 : DD := ⟨"_law_near", tp 16, ["items", "sums", "at", "total"], ["items"]⟩
def d17 : DD := ⟨"_law_ghost", tp 17, ["n", "ghost", "turn"], ["n"]⟩
def d18 : DD := ⟨"_law_off", tp 18, ["items", "ghost", "at"], ["items"]⟩
def d19 : DD := ⟨"_law_wide", tp 19, ["board", "sums", "i", "stripe", "j", "total", "k"], ["board"]⟩
def d20 : DD := ⟨"_law_tuple", tp 20, ["items", "n", "ghost", "due", "told", "at"], ["items"]⟩
def d21 : DD := ⟨"_law_sums", tp 21, ["sums", "told"], ["sums"]⟩
def d22 : DD := ⟨"_law_board", tp 22, ["sums", "tilts", "j", "told", "stripe", "i"], ["sums"]⟩
def d23 : DD := ⟨"law", tp 23, ["script", "k", "part", "n", "scale", "items", "due", "at", "bent", "high", "wide", "board", "i", "sums", "j", "other", "lone", "asked"], ["script"]⟩
def ds : List DD := [d1, d2, d3, d4, d5, d6, d7, d8, d9, d11, d12, d13, d14, d15, d16, d17, d18, d19, d20, d21, d22, d23]
section
variable {K : PySem.W.Frag} {mg : Str → Option Value}
def There (K : PySem.W.Frag) (mg : Str → Option Value) (d : DD) : Prop := ∃ f fd, Fun K d.x d.x d.st f fd ∧ mg d.x = some (.ref f) ∧ Binds K fd d.ps []
theorem th1 {f : Addr} {oc : Value} {od an : Option Addr} {sl : Array (Option Value)} {kV dc pm cd ct : Value} (m : mg "near_sums" = some (.ref f)) (l : K.lookup f = some ⟨oc, od, .func (PySem.W.fnOf "near_sums" "near_sums" (defArgs (tp 1)) (defBody (tp 1)) (defScope (tp 1)) .none kV dc pm an cd ct), sl⟩) (c : PySem.W.codeIn K cd "near_sums" = true) (k : PySem.W.keepIn K (.ref f) = true) : There K mg d1 :=
  have F := fun_mk (st := tp 1) l c k
  ⟨_, _, F, m, F.binds (ps := ["items"]) fun _ _ _ _ _ _ us hl => match us, hl with | [_], _ => rfl⟩
theorem sc1 : FnScope d1.N d1.ps (defScope d1.st) := ⟨rfl, rfl, rfl, by decide +kernel, rfl, by decide +kernel, by decide +kernel⟩
theorem cv1 : cvSs 200 (cfgOf ds d1) (defBody d1.st) = some b1 := by kernel_rfl
theorem th2 {f : Addr} {oc : Value} {od an : Option Addr} {sl : Array (Option Value)} {kV dc pm cd ct : Value} (m : mg "ghost_of" = some (.ref f)) (l : K.lookup f = some ⟨oc, od, .func (PySem.W.fnOf "ghost_of" "ghost_of" (defArgs (tp 2)) (defBody (tp 2)) (defScope (tp 2)) .none kV dc pm an cd ct), sl⟩) (c : PySem.W.codeIn K cd "ghost_of" = true) (k : PySem.W.keepIn K (.ref f) = true) : There K mg d2 :=
  have F := fun_mk (st := tp 2) l c k
  ⟨_, _, F, m, F.binds (ps := ["n"]) fun _ _ _ _ _ _ us hl => match us, hl with | [_], _ => rfl⟩
theorem sc2 : FnScope d2.N d2.ps (defScope d2.st) := ⟨rfl, rfl, rfl, by decide +kernel, rfl, by decide +kernel, by decide +kernel⟩
theorem cv2 : cvSs 200 (cfgOf ds d2) (defBody d2.st) = some b2 := by kernel_rfl
theorem th3 {f : Addr} {oc : Value} {od an : Option Addr} {sl : Array (Option Value)} {kV dc pm cd ct : Value} (m : mg "imbalance_of" = some (.ref f)) (l : K.lookup f = some ⟨oc, od, .func (PySem.W.fnOf "imbalance_of" "imbalance_of" (defArgs (tp 3)) (defBody (tp 3)) (defScope (tp 3)) .none kV dc pm an cd ct), sl⟩) (c : PySem.W.codeIn K cd "imbalance_of" = true) (k : PySem.W.keepIn K (.ref f) = true) : There K mg d3 :=
  have F := fun_mk (st := tp 3) l c k
  ⟨_, _, F, m, F.binds (ps := ["items"]) fun _ _ _ _ _ _ us hl => match us, hl with | [_], _ => rfl⟩
theorem sc3 : FnScope d3.N d3.ps (defScope d3.st) := ⟨rfl, rfl, rfl, by decide +kernel, rfl, by decide +kernel, by decide +kernel⟩
theorem cv3 : cvSs 200 (cfgOf ds d3) (defBody d3.st) = some b3 := by kernel_rfl
theorem th4 {f : Addr} {oc : Value} {od an : Option Addr} {sl : Array (Option Value)} {kV dc pm cd ct : Value} (m : mg "items_behind" = some (.ref f)) (l : K.lookup f = some ⟨oc, od, .func (PySem.W.fnOf "items_behind" "items_behind" (defArgs (tp 4)) (defBody (tp 4)) (defScope (tp 4)) .none kV dc pm an cd ct), sl⟩) (c : PySem.W.codeIn K cd "items_behind" = true) (k : PySem.W.keepIn K (.ref f) = true) : There K mg d4 :=
  have F := fun_mk (st := tp 4) l c k
  ⟨_, _, F, m, F.binds (ps := ["sums", "first"]) fun _ _ _ _ _ _ us hl => match us, hl with | [_, _], _ => rfl⟩
theorem sc4 : FnScope d4.N d4.ps (defScope d4.st) := ⟨rfl, rfl, rfl, by decide +kernel, rfl, by decide +kernel, by decide +kernel⟩
theorem cv4 : cvSs 200 (cfgOf ds d4) (defBody d4.st) = some b4 := by kernel_rfl
theorem th5 {f : Addr} {oc : Value} {od an : Option Addr} {sl : Array (Option Value)} {kV dc pm cd ct : Value} (m : mg "told_from_sums" = some (.ref f)) (l : K.lookup f = some ⟨oc, od, .func (PySem.W.fnOf "told_from_sums" "told_from_sums" (defArgs (tp 5)) (defBody (tp 5)) (defScope (tp 5)) .none kV dc pm an cd ct), sl⟩) (c : PySem.W.codeIn K cd "told_from_sums" = true) (k : PySem.W.keepIn K (.ref f) = true) : There K mg d5 :=
  have F := fun_mk (st := tp 5) l c k
  ⟨_, _, F, m, F.binds (ps := ["sums"]) fun _ _ _ _ _ _ us hl => match us, hl with | [_], _ => rfl⟩
theorem sc5 : FnScope d5.N d5.ps (defScope d5.st) := ⟨rfl, rfl, rfl, by decide +kernel, rfl, by decide +kernel, by decide +kernel⟩
theorem cv5 : cvSs 200 (cfgOf ds d5) (defBody d5.st) = some b5 := by kernel_rfl
theorem th6 {f : Addr} {oc : Value} {od an : Option Addr} {sl : Array (Option Value)} {kV dc pm cd ct : Value} (m : mg "sideways" = some (.ref f)) (l : K.lookup f = some ⟨oc, od, .func (PySem.W.fnOf "sideways" "sideways" (defArgs (tp 6)) (defBody (tp 6)) (defScope (tp 6)) .none kV dc pm an cd ct), sl⟩) (c : PySem.W.codeIn K cd "sideways" = true) (k : PySem.W.keepIn K (.ref f) = true) : There K mg d6 :=
  have F := fun_mk (st := tp 6) l c k
  ⟨_, _, F, m, F.binds (ps := ["board"]) fun _ _ _ _ _ _ us hl => match us, hl with | [_], _ => rfl⟩
theorem sc6 : FnScope d6.N d6.ps (defScope d6.st) := ⟨rfl, rfl, rfl, by decide +kernel, rfl, by decide +kernel, by decide +kernel⟩
theorem cv6 : cvSs 200 (cfgOf ds d6) (defBody d6.st) = some b6 := by kernel_rfl
theorem th7 {f : Addr} {oc : Value} {od an : Option Addr} {sl : Array (Option Value)} {kV dc pm cd ct : Value} (m : mg "board_near_sums" = some (.ref f)) (l : K.lookup f = some ⟨oc, od, .func (PySem.W.fnOf "board_near_sums" "board_near_sums" (defArgs (tp 7)) (defBody (tp 7)) (defScope (tp 7)) .none kV dc pm an cd ct), sl⟩) (c : PySem.W.codeIn K cd "board_near_sums" = true) (k : PySem.W.keepIn K (.ref f) = true) : There K mg d7 :=
  have F := fun_mk (st := tp 7) l c k
  ⟨_, _, F, m, F.binds (ps := ["board"]) fun _ _ _ _ _ _ us hl => match us, hl with | [_], _ => rfl⟩
theorem sc7 : FnScope d7.N d7.ps (defScope d7.st) := ⟨rfl, rfl, rfl, by decide +kernel, rfl, by decide +kernel, by decide +kernel⟩
theorem cv7 : cvSs 200 (cfgOf ds d7) (defBody d7.st) = some b7 := by kernel_rfl
theorem th8 {f : Addr} {oc : Value} {od an : Option Addr} {sl : Array (Option Value)} {kV dc pm cd ct : Value} (m : mg "told_tilt" = some (.ref f)) (l : K.lookup f = some ⟨oc, od, .func (PySem.W.fnOf "told_tilt" "told_tilt" (defArgs (tp 8)) (defBody (tp 8)) (defScope (tp 8)) .none kV dc pm an cd ct), sl⟩) (c : PySem.W.codeIn K cd "told_tilt" = true) (k : PySem.W.keepIn K (.ref f) = true) : There K mg d8 :=
  have F := fun_mk (st := tp 8) l c k
  ⟨_, _, F, m, F.binds (ps := ["board"]) fun _ _ _ _ _ _ us hl => match us, hl with | [_], _ => rfl⟩
theorem sc8 : FnScope d8.N d8.ps (defScope d8.st) := ⟨rfl, rfl, rfl, by decide +kernel, rfl, by decide +kernel, by decide +kernel⟩
theorem cv8 : cvSs 200 (cfgOf ds d8) (defBody d8.st) = some b8 := by kernel_rfl
theorem th9 {f : Addr} {oc : Value} {od an : Option Addr} {sl : Array (Option Value)} {kV dc pm cd ct : Value} (m : mg "told_board" = some (.ref f)) (l : K.lookup f = some ⟨oc, od, .func (PySem.W.fnOf "told_board" "told_board" (defArgs (tp 9)) (defBody (tp 9)) (defScope (tp 9)) .none kV dc pm an cd ct), sl⟩) (c : PySem.W.codeIn K cd "told_board" = true) (k : PySem.W.keepIn K (.ref f) = true) : There K mg d9 :=
  have F := fun_mk (st := tp 9) l c k
  ⟨_, _, F, m, F.binds (ps := ["board"]) fun _ _ _ _ _ _ us hl => match us, hl with | [_], _ => rfl⟩
theorem sc9 : FnScope d9.N d9.ps (defScope d9.st) := ⟨rfl, rfl, rfl, by decide +kernel, rfl, by decide +kernel, by decide +kernel⟩
theorem cv9 : cvSs 200 (cfgOf ds d9) (defBody d9.st) = some b9 := by kernel_rfl
theorem th11 {f : Addr} {oc : Value} {od an : Option Addr} {sl : Array (Option Value)} {kV dc pm cd ct : Value} (m : mg "_law_cell" = some (.ref f)) (l : K.lookup f = some ⟨oc, od, .func (PySem.W.fnOf "_law_cell" "_law_cell" (defArgs (tp 11)) (defBody (tp 11)) (defScope (tp 11)) .none kV dc pm an cd ct), sl⟩) (c : PySem.W.codeIn K cd "_law_cell" = true) (k : PySem.W.keepIn K (.ref f) = true) : There K mg d11 :=
  have F := fun_mk (st := tp 11) l c k
  ⟨_, _, F, m, F.binds (ps := ["script", "k"]) fun _ _ _ _ _ _ us hl => match us, hl with | [_, _], _ => rfl⟩
theorem sc11 : FnScope d11.N d11.ps (defScope d11.st) := ⟨rfl, rfl, rfl, by decide +kernel, rfl, by decide +kernel, by decide +kernel⟩
theorem cv11 : cvSs 200 (cfgOf ds d11) (defBody d11.st) = some b11 := by kernel_rfl
theorem th12 {f : Addr} {oc : Value} {od an : Option Addr} {sl : Array (Option Value)} {kV dc pm cd ct : Value} (m : mg "_law_draws" = some (.ref f)) (l : K.lookup f = some ⟨oc, od, .func (PySem.W.fnOf "_law_draws" "_law_draws" (defArgs (tp 12)) (defBody (tp 12)) (defScope (tp 12)) .none kV dc pm an cd ct), sl⟩) (c : PySem.W.codeIn K cd "_law_draws" = true) (k : PySem.W.keepIn K (.ref f) = true) : There K mg d12 :=
  have F := fun_mk (st := tp 12) l c k
  ⟨_, _, F, m, F.binds (ps := ["cell", "count"]) fun _ _ _ _ _ _ us hl => match us, hl with | [_, _], _ => rfl⟩
theorem sc12 : FnScope d12.N d12.ps (defScope d12.st) := ⟨rfl, rfl, rfl, by decide +kernel, rfl, by decide +kernel, by decide +kernel⟩
theorem cv12 : cvSs 200 (cfgOf ds d12) (defBody d12.st) = some b12 := by kernel_rfl
theorem th13 {f : Addr} {oc : Value} {od an : Option Addr} {sl : Array (Option Value)} {kV dc pm cd ct : Value} (m : mg "_law_is_integer" = some (.ref f)) (l : K.lookup f = some ⟨oc, od, .func (PySem.W.fnOf "_law_is_integer" "_law_is_integer" (defArgs (tp 13)) (defBody (tp 13)) (defScope (tp 13)) .none kV dc pm an cd ct), sl⟩) (c : PySem.W.codeIn K cd "_law_is_integer" = true) (k : PySem.W.keepIn K (.ref f) = true) : There K mg d13 :=
  have F := fun_mk (st := tp 13) l c k
  ⟨_, _, F, m, F.binds (ps := ["value"]) fun _ _ _ _ _ _ us hl => match us, hl with | [_], _ => rfl⟩
theorem sc13 : FnScope d13.N d13.ps (defScope d13.st) := ⟨rfl, rfl, rfl, by decide +kernel, rfl, by decide +kernel, by decide +kernel⟩
theorem cv13 : cvSs 200 (cfgOf ds d13) (defBody d13.st) = some b13 := by kernel_rfl
theorem th14 {f : Addr} {oc : Value} {od an : Option Addr} {sl : Array (Option Value)} {kV dc pm cd ct : Value} (m : mg "_law_is" = some (.ref f)) (l : K.lookup f = some ⟨oc, od, .func (PySem.W.fnOf "_law_is" "_law_is" (defArgs (tp 14)) (defBody (tp 14)) (defScope (tp 14)) .none kV dc pm an cd ct), sl⟩) (c : PySem.W.codeIn K cd "_law_is" = true) (k : PySem.W.keepIn K (.ref f) = true) : There K mg d14 :=
  have F := fun_mk (st := tp 14) l c k
  ⟨_, _, F, m, F.binds (ps := ["value", "due"]) fun _ _ _ _ _ _ us hl => match us, hl with | [_, _], _ => rfl⟩
theorem sc14 : FnScope d14.N d14.ps (defScope d14.st) := ⟨rfl, rfl, rfl, by decide +kernel, rfl, by decide +kernel, by decide +kernel⟩
theorem cv14 : cvSs 200 (cfgOf ds d14) (defBody d14.st) = some b14 := by kernel_rfl
theorem th15 {f : Addr} {oc : Value} {od an : Option Addr} {sl : Array (Option Value)} {kV dc pm cd ct : Value} (m : mg "_law_is_integers" = some (.ref f)) (l : K.lookup f = some ⟨oc, od, .func (PySem.W.fnOf "_law_is_integers" "_law_is_integers" (defArgs (tp 15)) (defBody (tp 15)) (defScope (tp 15)) .none kV dc pm an cd ct), sl⟩) (c : PySem.W.codeIn K cd "_law_is_integers" = true) (k : PySem.W.keepIn K (.ref f) = true) : There K mg d15 :=
  have F := fun_mk (st := tp 15) l c k
  ⟨_, _, F, m, F.binds (ps := ["value"]) fun _ _ _ _ _ _ us hl => match us, hl with | [_], _ => rfl⟩
theorem sc15 : FnScope d15.N d15.ps (defScope d15.st) := ⟨rfl, rfl, rfl, by decide +kernel, rfl, by decide +kernel, by decide +kernel⟩
theorem cv15 : cvSs 200 (cfgOf ds d15) (defBody d15.st) = some b15 := by kernel_rfl
theorem th16 {f : Addr} {oc : Value} {od an : Option Addr} {sl : Array (Option Value)} {kV dc pm cd ct : Value} (m : mg "_law_near" = some (.ref f)) (l : K.lookup f = some ⟨oc, od, .func (PySem.W.fnOf "_law_near" "_law_near" (defArgs (tp 16)) (defBody (tp 16)) (defScope (tp 16)) .none kV dc pm an cd ct), sl⟩) (c : PySem.W.codeIn K cd "_law_near" = true) (k : PySem.W.keepIn K (.ref f) = true) : There K mg d16 :=
  have F := fun_mk (st := tp 16) l c k
  ⟨_, _, F, m, F.binds (ps := ["items"]) fun _ _ _ _ _ _ us hl => match us, hl with | [_], _ => rfl⟩
theorem sc16 : FnScope d16.N d16.ps (defScope d16.st) := ⟨rfl, rfl, rfl, by decide +kernel, rfl, by decide +kernel, by decide +kernel⟩
theorem cv16 : cvSs 200 (cfgOf ds d16) (defBody d16.st) = some b16 := by kernel_rfl
theorem th17 {f : Addr} {oc : Value} {od an : Option Addr} {sl : Array (Option Value)} {kV dc pm cd ct : Value} (m : mg "_law_ghost" = some (.ref f)) (l : K.lookup f = some ⟨oc, od, .func (PySem.W.fnOf "_law_ghost" "_law_ghost" (defArgs (tp 17)) (defBody (tp 17)) (defScope (tp 17)) .none kV dc pm an cd ct), sl⟩) (c : PySem.W.codeIn K cd "_law_ghost" = true) (k : PySem.W.keepIn K (.ref f) = true) : There K mg d17 :=
  have F := fun_mk (st := tp 17) l c k
  ⟨_, _, F, m, F.binds (ps := ["n"]) fun _ _ _ _ _ _ us hl => match us, hl with | [_], _ => rfl⟩
theorem sc17 : FnScope d17.N d17.ps (defScope d17.st) := ⟨rfl, rfl, rfl, by decide +kernel, rfl, by decide +kernel, by decide +kernel⟩
theorem cv17 : cvSs 200 (cfgOf ds d17) (defBody d17.st) = some b17 := by kernel_rfl
theorem th18 {f : Addr} {oc : Value} {od an : Option Addr} {sl : Array (Option Value)} {kV dc pm cd ct : Value} (m : mg "_law_off" = some (.ref f)) (l : K.lookup f = some ⟨oc, od, .func (PySem.W.fnOf "_law_off" "_law_off" (defArgs (tp 18)) (defBody (tp 18)) (defScope (tp 18)) .none kV dc pm an cd ct), sl⟩) (c : PySem.W.codeIn K cd "_law_off" = true) (k : PySem.W.keepIn K (.ref f) = true) : There K mg d18 :=
  have F := fun_mk (st := tp 18) l c k
  ⟨_, _, F, m, F.binds (ps := ["items"]) fun _ _ _ _ _ _ us hl => match us, hl with | [_], _ => rfl⟩
theorem sc18 : FnScope d18.N d18.ps (defScope d18.st) := ⟨rfl, rfl, rfl, by decide +kernel, rfl, by decide +kernel, by decide +kernel⟩
theorem cv18 : cvSs 200 (cfgOf ds d18) (defBody d18.st) = some b18 := by kernel_rfl
theorem th19 {f : Addr} {oc : Value} {od an : Option Addr} {sl : Array (Option Value)} {kV dc pm cd ct : Value} (m : mg "_law_wide" = some (.ref f)) (l : K.lookup f = some ⟨oc, od, .func (PySem.W.fnOf "_law_wide" "_law_wide" (defArgs (tp 19)) (defBody (tp 19)) (defScope (tp 19)) .none kV dc pm an cd ct), sl⟩) (c : PySem.W.codeIn K cd "_law_wide" = true) (k : PySem.W.keepIn K (.ref f) = true) : There K mg d19 :=
  have F := fun_mk (st := tp 19) l c k
  ⟨_, _, F, m, F.binds (ps := ["board"]) fun _ _ _ _ _ _ us hl => match us, hl with | [_], _ => rfl⟩
theorem sc19 : FnScope d19.N d19.ps (defScope d19.st) := ⟨rfl, rfl, rfl, by decide +kernel, rfl, by decide +kernel, by decide +kernel⟩
theorem cv19 : cvSs 200 (cfgOf ds d19) (defBody d19.st) = some b19 := by kernel_rfl
theorem th20 {f : Addr} {oc : Value} {od an : Option Addr} {sl : Array (Option Value)} {kV dc pm cd ct : Value} (m : mg "_law_tuple" = some (.ref f)) (l : K.lookup f = some ⟨oc, od, .func (PySem.W.fnOf "_law_tuple" "_law_tuple" (defArgs (tp 20)) (defBody (tp 20)) (defScope (tp 20)) .none kV dc pm an cd ct), sl⟩) (c : PySem.W.codeIn K cd "_law_tuple" = true) (k : PySem.W.keepIn K (.ref f) = true) : There K mg d20 :=
  have F := fun_mk (st := tp 20) l c k
  ⟨_, _, F, m, F.binds (ps := ["items"]) fun _ _ _ _ _ _ us hl => match us, hl with | [_], _ => rfl⟩
theorem sc20 : FnScope d20.N d20.ps (defScope d20.st) := ⟨rfl, rfl, rfl, by decide +kernel, rfl, by decide +kernel, by decide +kernel⟩
theorem cv20 : cvSs 200 (cfgOf ds d20) (defBody d20.st) = some b20 := by kernel_rfl
theorem th21 {f : Addr} {oc : Value} {od an : Option Addr} {sl : Array (Option Value)} {kV dc pm cd ct : Value} (m : mg "_law_sums" = some (.ref f)) (l : K.lookup f = some ⟨oc, od, .func (PySem.W.fnOf "_law_sums" "_law_sums" (defArgs (tp 21)) (defBody (tp 21)) (defScope (tp 21)) .none kV dc pm an cd ct), sl⟩) (c : PySem.W.codeIn K cd "_law_sums" = true) (k : PySem.W.keepIn K (.ref f) = true) : There K mg d21 :=
  have F := fun_mk (st := tp 21) l c k
  ⟨_, _, F, m, F.binds (ps := ["sums"]) fun _ _ _ _ _ _ us hl => match us, hl with | [_], _ => rfl⟩
theorem sc21 : FnScope d21.N d21.ps (defScope d21.st) := ⟨rfl, rfl, rfl, by decide +kernel, rfl, by decide +kernel, by decide +kernel⟩
theorem cv21 : cvSs 200 (cfgOf ds d21) (defBody d21.st) = some b21 := by kernel_rfl
theorem th22 {f : Addr} {oc : Value} {od an : Option Addr} {sl : Array (Option Value)} {kV dc pm cd ct : Value} (m : mg "_law_board" = some (.ref f)) (l : K.lookup f = some ⟨oc, od, .func (PySem.W.fnOf "_law_board" "_law_board" (defArgs (tp 22)) (defBody (tp 22)) (defScope (tp 22)) .none kV dc pm an cd ct), sl⟩) (c : PySem.W.codeIn K cd "_law_board" = true) (k : PySem.W.keepIn K (.ref f) = true) : There K mg d22 :=
  have F := fun_mk (st := tp 22) l c k
  ⟨_, _, F, m, F.binds (ps := ["sums"]) fun _ _ _ _ _ _ us hl => match us, hl with | [_], _ => rfl⟩
theorem sc22 : FnScope d22.N d22.ps (defScope d22.st) := ⟨rfl, rfl, rfl, by decide +kernel, rfl, by decide +kernel, by decide +kernel⟩
theorem cv22 : cvSs 200 (cfgOf ds d22) (defBody d22.st) = some b22 := by kernel_rfl
theorem th23 {f : Addr} {oc : Value} {od an : Option Addr} {sl : Array (Option Value)} {kV dc pm cd ct : Value} (m : mg "law" = some (.ref f)) (l : K.lookup f = some ⟨oc, od, .func (PySem.W.fnOf "law" "law" (defArgs (tp 23)) (defBody (tp 23)) (defScope (tp 23)) .none kV dc pm an cd ct), sl⟩) (c : PySem.W.codeIn K cd "law" = true) (k : PySem.W.keepIn K (.ref f) = true) : There K mg d23 :=
  have F := fun_mk (st := tp 23) l c k
  ⟨_, _, F, m, F.binds (ps := ["script"]) fun _ _ _ _ _ _ us hl => match us, hl with | [_], _ => rfl⟩
theorem sc23 : FnScope d23.N d23.ps (defScope d23.st) := ⟨rfl, rfl, rfl, by decide +kernel, rfl, by decide +kernel, by decide +kernel⟩
theorem cv23 : cvSs 200 (cfgOf ds d23) (defBody d23.st) = some b23 := by kernel_rfl
theorem ok1 (t : There K mg d1) : ∃ fn, fns[0]? = some fn ∧ DefOk K mg ds 0 d1 fn := ⟨_, rfl, sc1, ⟨200, cv1⟩, rfl, rfl, t⟩
theorem ok2 (t : There K mg d2) : ∃ fn, fns[1]? = some fn ∧ DefOk K mg ds 1 d2 fn := ⟨_, rfl, sc2, ⟨200, cv2⟩, rfl, rfl, t⟩
theorem ok3 (t : There K mg d3) : ∃ fn, fns[2]? = some fn ∧ DefOk K mg ds 2 d3 fn := ⟨_, rfl, sc3, ⟨200, cv3⟩, rfl, rfl, t⟩
theorem ok4 (t : There K mg d4) : ∃ fn, fns[3]? = some fn ∧ DefOk K mg ds 3 d4 fn := ⟨_, rfl, sc4, ⟨200, cv4⟩, rfl, rfl, t⟩
theorem ok5 (t : There K mg d5) : ∃ fn, fns[4]? = some fn ∧ DefOk K mg ds 4 d5 fn := ⟨_, rfl, sc5, ⟨200, cv5⟩, rfl, rfl, t⟩
theorem ok6 (t : There K mg d6) : ∃ fn, fns[5]? = some fn ∧ DefOk K mg ds 5 d6 fn := ⟨_, rfl, sc6, ⟨200, cv6⟩, rfl, rfl, t⟩
theorem ok7 (t : There K mg d7) : ∃ fn, fns[6]? = some fn ∧ DefOk K mg ds 6 d7 fn := ⟨_, rfl, sc7, ⟨200, cv7⟩, rfl, rfl, t⟩
theorem ok8 (t : There K mg d8) : ∃ fn, fns[7]? = some fn ∧ DefOk K mg ds 7 d8 fn := ⟨_, rfl, sc8, ⟨200, cv8⟩, rfl, rfl, t⟩
theorem ok9 (t : There K mg d9) : ∃ fn, fns[8]? = some fn ∧ DefOk K mg ds 8 d9 fn := ⟨_, rfl, sc9, ⟨200, cv9⟩, rfl, rfl, t⟩
theorem ok11 (t : There K mg d11) : ∃ fn, fns[9]? = some fn ∧ DefOk K mg ds 9 d11 fn := ⟨_, rfl, sc11, ⟨200, cv11⟩, rfl, rfl, t⟩
theorem ok12 (t : There K mg d12) : ∃ fn, fns[10]? = some fn ∧ DefOk K mg ds 10 d12 fn := ⟨_, rfl, sc12, ⟨200, cv12⟩, rfl, rfl, t⟩
theorem ok13 (t : There K mg d13) : ∃ fn, fns[11]? = some fn ∧ DefOk K mg ds 11 d13 fn := ⟨_, rfl, sc13, ⟨200, cv13⟩, rfl, rfl, t⟩
theorem ok14 (t : There K mg d14) : ∃ fn, fns[12]? = some fn ∧ DefOk K mg ds 12 d14 fn := ⟨_, rfl, sc14, ⟨200, cv14⟩, rfl, rfl, t⟩
theorem ok15 (t : There K mg d15) : ∃ fn, fns[13]? = some fn ∧ DefOk K mg ds 13 d15 fn := ⟨_, rfl, sc15, ⟨200, cv15⟩, rfl, rfl, t⟩
theorem ok16 (t : There K mg d16) : ∃ fn, fns[14]? = some fn ∧ DefOk K mg ds 14 d16 fn := ⟨_, rfl, sc16, ⟨200, cv16⟩, rfl, rfl, t⟩
theorem ok17 (t : There K mg d17) : ∃ fn, fns[15]? = some fn ∧ DefOk K mg ds 15 d17 fn := ⟨_, rfl, sc17, ⟨200, cv17⟩, rfl, rfl, t⟩
theorem ok18 (t : There K mg d18) : ∃ fn, fns[16]? = some fn ∧ DefOk K mg ds 16 d18 fn := ⟨_, rfl, sc18, ⟨200, cv18⟩, rfl, rfl, t⟩
theorem ok19 (t : There K mg d19) : ∃ fn, fns[17]? = some fn ∧ DefOk K mg ds 17 d19 fn := ⟨_, rfl, sc19, ⟨200, cv19⟩, rfl, rfl, t⟩
theorem ok20 (t : There K mg d20) : ∃ fn, fns[18]? = some fn ∧ DefOk K mg ds 18 d20 fn := ⟨_, rfl, sc20, ⟨200, cv20⟩, rfl, rfl, t⟩
theorem ok21 (t : There K mg d21) : ∃ fn, fns[19]? = some fn ∧ DefOk K mg ds 19 d21 fn := ⟨_, rfl, sc21, ⟨200, cv21⟩, rfl, rfl, t⟩
theorem ok22 (t : There K mg d22) : ∃ fn, fns[20]? = some fn ∧ DefOk K mg ds 20 d22 fn := ⟨_, rfl, sc22, ⟨200, cv22⟩, rfl, rfl, t⟩
theorem ok23 (t : There K mg d23) : ∃ fn, fns[21]? = some fn ∧ DefOk K mg ds 21 d23 fn := ⟨_, rfl, sc23, ⟨200, cv23⟩, rfl, rfl, t⟩
theorem oks (t1 : There K mg d1) (t2 : There K mg d2) (t3 : There K mg d3) (t4 : There K mg d4) (t5 : There K mg d5) (t6 : There K mg d6) (t7 : There K mg d7) (t8 : There K mg d8) (t9 : There K mg d9) (t11 : There K mg d11) (t12 : There K mg d12) (t13 : There K mg d13) (t14 : There K mg d14) (t15 : There K mg d15) (t16 : There K mg d16) (t17 : There K mg d17) (t18 : There K mg d18) (t19 : There K mg d19) (t20 : There K mg d20) (t21 : There K mg d21) (t22 : There K mg d22) (t23 : There K mg d23) : ∀ n d, ds[n]? = some d → ∃ fn, fns[n]? = some fn ∧ DefOk K mg ds n d fn
  | 0, _, rfl => ok1 t1
  | 1, _, rfl => ok2 t2
  | 2, _, rfl => ok3 t3
  | 3, _, rfl => ok4 t4
  | 4, _, rfl => ok5 t5
  | 5, _, rfl => ok6 t6
  | 6, _, rfl => ok7 t7
  | 7, _, rfl => ok8 t8
  | 8, _, rfl => ok9 t9
  | 9, _, rfl => ok11 t11
  | 10, _, rfl => ok12 t12
  | 11, _, rfl => ok13 t13
  | 12, _, rfl => ok14 t14
  | 13, _, rfl => ok15 t15
  | 14, _, rfl => ok16 t16
  | 15, _, rfl => ok17 t17
  | 16, _, rfl => ok18 t18
  | 17, _, rfl => ok19 t19
  | 18, _, rfl => ok20 t20
  | 19, _, rfl => ok21 t21
  | 20, _, rfl => ok22 t22
  | 21, _, rfl => ok23 t23
  | n + 22, _, h => by
    have : ds[n + 22]? = none := List.getElem?_eq_none (Nat.le_add_left 22 n)
    rw [this] at h
    cases h
end
theorem all_mk {l : PySem.W.OpenLaw} {w : World} {K : PySem.W.Frag} {h : Heap} {mg : Str → Option Value} {fa : Addr} (X : K.In h) (G : h.Ns mainGlobals mg) (hfa : mg "law" = some (.ref fa))
    {f1 f2 f3 f4 f5 f6 f7 f8 f9 f11 f12 f13 f14 f15 f16 f17 f18 f19 f20 f21 f22 f23 : Addr}
    {od1 an1 od2 an2 od3 an3 od4 an4 od5 an5 od6 an6 od7 an7 od8 an8 od9 an9 od11 an11 od12 an12 od13 an13 od14 an14 od15 an15 od16 an16 od17 an17 od18 an18 od19 an19 od20 an20 od21 an21 od22 an22 od23 an23 : Option Addr} {sl1 sl2 sl3 sl4 sl5 sl6 sl7 sl8 sl9 sl11 sl12 sl13 sl14 sl15 sl16 sl17 sl18 sl19 sl20 sl21 sl22 sl23 : Array (Option Value)} {oc1 kV1 dc1 pm1 cd1 ct1 oc2 kV2 dc2 pm2 cd2 ct2 oc3 kV3 dc3 pm3 cd3 ct3 oc4 kV4 dc4 pm4 cd4 ct4 oc5 kV5 dc5 pm5 cd5 ct5 oc6 kV6 dc6 pm6 cd6 ct6 oc7 kV7 dc7 pm7 cd7 ct7 oc8 kV8 dc8 pm8 cd8 ct8 oc9 kV9 dc9 pm9 cd9 ct9 oc11 kV11 dc11 pm11 cd11 ct11 oc12 kV12 dc12 pm12 cd12 ct12 oc13 kV13 dc13 pm13 cd13 ct13 oc14 kV14 dc14 pm14 cd14 ct14 oc15 kV15 dc15 pm15 cd15 ct15 oc16 kV16 dc16 pm16 cd16 ct16 oc17 kV17 dc17 pm17 cd17 ct17 oc18 kV18 dc18 pm18 cd18 ct18 oc19 kV19 dc19 pm19 cd19 ct19 oc20 kV20 dc20 pm20 cd20 ct20 oc21 kV21 dc21 pm21 cd21 ct21 oc22 kV22 dc22 pm22 cd22 ct22 oc23 kV23 dc23 pm23 cd23 ct23 : Value}
    (a1 : PySem.W.nsIn K mainGlobals "near_sums" = some (some (.ref f1))) (l1 : K.lookup f1 = some ⟨oc1, od1, .func (PySem.W.fnOf "near_sums" "near_sums" (defArgs (tp 1)) (defBody (tp 1)) (defScope (tp 1)) .none kV1 dc1 pm1 an1 cd1 ct1), sl1⟩) (c1 : PySem.W.codeIn K cd1 "near_sums" = true) (k1 : PySem.W.keepIn K (.ref f1) = true)
    (a2 : PySem.W.nsIn K mainGlobals "ghost_of" = some (some (.ref f2))) (l2 : K.lookup f2 = some ⟨oc2, od2, .func (PySem.W.fnOf "ghost_of" "ghost_of" (defArgs (tp 2)) (defBody (tp 2)) (defScope (tp 2)) .none kV2 dc2 pm2 an2 cd2 ct2), sl2⟩) (c2 : PySem.W.codeIn K cd2 "ghost_of" = true) (k2 : PySem.W.keepIn K (.ref f2) = true)
    (a3 : PySem.W.nsIn K mainGlobals "imbalance_of" = some (some (.ref f3))) (l3 : K.lookup f3 = some ⟨oc3, od3, .func (PySem.W.fnOf "imbalance_of" "imbalance_of" (defArgs (tp 3)) (defBody (tp 3)) (defScope (tp 3)) .none kV3 dc3 pm3 an3 cd3 ct3), sl3⟩) (c3 : PySem.W.codeIn K cd3 "imbalance_of" = true) (k3 : PySem.W.keepIn K (.ref f3) = true)
    (a4 : PySem.W.nsIn K mainGlobals "items_behind" = some (some (.ref f4))) (l4 : K.lookup f4 = some ⟨oc4, od4, .func (PySem.W.fnOf "items_behind" "items_behind" (defArgs (tp 4)) (defBody (tp 4)) (defScope (tp 4)) .none kV4 dc4 pm4 an4 cd4 ct4), sl4⟩) (c4 : PySem.W.codeIn K cd4 "items_behind" = true) (k4 : PySem.W.keepIn K (.ref f4) = true)
    (a5 : PySem.W.nsIn K mainGlobals "told_from_sums" = some (some (.ref f5))) (l5 : K.lookup f5 = some ⟨oc5, od5, .func (PySem.W.fnOf "told_from_sums" "told_from_sums" (defArgs (tp 5)) (defBody (tp 5)) (defScope (tp 5)) .none kV5 dc5 pm5 an5 cd5 ct5), sl5⟩) (c5 : PySem.W.codeIn K cd5 "told_from_sums" = true) (k5 : PySem.W.keepIn K (.ref f5) = true)
    (a6 : PySem.W.nsIn K mainGlobals "sideways" = some (some (.ref f6))) (l6 : K.lookup f6 = some ⟨oc6, od6, .func (PySem.W.fnOf "sideways" "sideways" (defArgs (tp 6)) (defBody (tp 6)) (defScope (tp 6)) .none kV6 dc6 pm6 an6 cd6 ct6), sl6⟩) (c6 : PySem.W.codeIn K cd6 "sideways" = true) (k6 : PySem.W.keepIn K (.ref f6) = true)
    (a7 : PySem.W.nsIn K mainGlobals "board_near_sums" = some (some (.ref f7))) (l7 : K.lookup f7 = some ⟨oc7, od7, .func (PySem.W.fnOf "board_near_sums" "board_near_sums" (defArgs (tp 7)) (defBody (tp 7)) (defScope (tp 7)) .none kV7 dc7 pm7 an7 cd7 ct7), sl7⟩) (c7 : PySem.W.codeIn K cd7 "board_near_sums" = true) (k7 : PySem.W.keepIn K (.ref f7) = true)
    (a8 : PySem.W.nsIn K mainGlobals "told_tilt" = some (some (.ref f8))) (l8 : K.lookup f8 = some ⟨oc8, od8, .func (PySem.W.fnOf "told_tilt" "told_tilt" (defArgs (tp 8)) (defBody (tp 8)) (defScope (tp 8)) .none kV8 dc8 pm8 an8 cd8 ct8), sl8⟩) (c8 : PySem.W.codeIn K cd8 "told_tilt" = true) (k8 : PySem.W.keepIn K (.ref f8) = true)
    (a9 : PySem.W.nsIn K mainGlobals "told_board" = some (some (.ref f9))) (l9 : K.lookup f9 = some ⟨oc9, od9, .func (PySem.W.fnOf "told_board" "told_board" (defArgs (tp 9)) (defBody (tp 9)) (defScope (tp 9)) .none kV9 dc9 pm9 an9 cd9 ct9), sl9⟩) (c9 : PySem.W.codeIn K cd9 "told_board" = true) (k9 : PySem.W.keepIn K (.ref f9) = true)
    (a11 : PySem.W.nsIn K mainGlobals "_law_cell" = some (some (.ref f11))) (l11 : K.lookup f11 = some ⟨oc11, od11, .func (PySem.W.fnOf "_law_cell" "_law_cell" (defArgs (tp 11)) (defBody (tp 11)) (defScope (tp 11)) .none kV11 dc11 pm11 an11 cd11 ct11), sl11⟩) (c11 : PySem.W.codeIn K cd11 "_law_cell" = true) (k11 : PySem.W.keepIn K (.ref f11) = true)
    (a12 : PySem.W.nsIn K mainGlobals "_law_draws" = some (some (.ref f12))) (l12 : K.lookup f12 = some ⟨oc12, od12, .func (PySem.W.fnOf "_law_draws" "_law_draws" (defArgs (tp 12)) (defBody (tp 12)) (defScope (tp 12)) .none kV12 dc12 pm12 an12 cd12 ct12), sl12⟩) (c12 : PySem.W.codeIn K cd12 "_law_draws" = true) (k12 : PySem.W.keepIn K (.ref f12) = true)
    (a13 : PySem.W.nsIn K mainGlobals "_law_is_integer" = some (some (.ref f13))) (l13 : K.lookup f13 = some ⟨oc13, od13, .func (PySem.W.fnOf "_law_is_integer" "_law_is_integer" (defArgs (tp 13)) (defBody (tp 13)) (defScope (tp 13)) .none kV13 dc13 pm13 an13 cd13 ct13), sl13⟩) (c13 : PySem.W.codeIn K cd13 "_law_is_integer" = true) (k13 : PySem.W.keepIn K (.ref f13) = true)
    (a14 : PySem.W.nsIn K mainGlobals "_law_is" = some (some (.ref f14))) (l14 : K.lookup f14 = some ⟨oc14, od14, .func (PySem.W.fnOf "_law_is" "_law_is" (defArgs (tp 14)) (defBody (tp 14)) (defScope (tp 14)) .none kV14 dc14 pm14 an14 cd14 ct14), sl14⟩) (c14 : PySem.W.codeIn K cd14 "_law_is" = true) (k14 : PySem.W.keepIn K (.ref f14) = true)
    (a15 : PySem.W.nsIn K mainGlobals "_law_is_integers" = some (some (.ref f15))) (l15 : K.lookup f15 = some ⟨oc15, od15, .func (PySem.W.fnOf "_law_is_integers" "_law_is_integers" (defArgs (tp 15)) (defBody (tp 15)) (defScope (tp 15)) .none kV15 dc15 pm15 an15 cd15 ct15), sl15⟩) (c15 : PySem.W.codeIn K cd15 "_law_is_integers" = true) (k15 : PySem.W.keepIn K (.ref f15) = true)
    (a16 : PySem.W.nsIn K mainGlobals "_law_near" = some (some (.ref f16))) (l16 : K.lookup f16 = some ⟨oc16, od16, .func (PySem.W.fnOf "_law_near" "_law_near" (defArgs (tp 16)) (defBody (tp 16)) (defScope (tp 16)) .none kV16 dc16 pm16 an16 cd16 ct16), sl16⟩) (c16 : PySem.W.codeIn K cd16 "_law_near" = true) (k16 : PySem.W.keepIn K (.ref f16) = true)
    (a17 : PySem.W.nsIn K mainGlobals "_law_ghost" = some (some (.ref f17))) (l17 : K.lookup f17 = some ⟨oc17, od17, .func (PySem.W.fnOf "_law_ghost" "_law_ghost" (defArgs (tp 17)) (defBody (tp 17)) (defScope (tp 17)) .none kV17 dc17 pm17 an17 cd17 ct17), sl17⟩) (c17 : PySem.W.codeIn K cd17 "_law_ghost" = true) (k17 : PySem.W.keepIn K (.ref f17) = true)
    (a18 : PySem.W.nsIn K mainGlobals "_law_off" = some (some (.ref f18))) (l18 : K.lookup f18 = some ⟨oc18, od18, .func (PySem.W.fnOf "_law_off" "_law_off" (defArgs (tp 18)) (defBody (tp 18)) (defScope (tp 18)) .none kV18 dc18 pm18 an18 cd18 ct18), sl18⟩) (c18 : PySem.W.codeIn K cd18 "_law_off" = true) (k18 : PySem.W.keepIn K (.ref f18) = true)
    (a19 : PySem.W.nsIn K mainGlobals "_law_wide" = some (some (.ref f19))) (l19 : K.lookup f19 = some ⟨oc19, od19, .func (PySem.W.fnOf "_law_wide" "_law_wide" (defArgs (tp 19)) (defBody (tp 19)) (defScope (tp 19)) .none kV19 dc19 pm19 an19 cd19 ct19), sl19⟩) (c19 : PySem.W.codeIn K cd19 "_law_wide" = true) (k19 : PySem.W.keepIn K (.ref f19) = true)
    (a20 : PySem.W.nsIn K mainGlobals "_law_tuple" = some (some (.ref f20))) (l20 : K.lookup f20 = some ⟨oc20, od20, .func (PySem.W.fnOf "_law_tuple" "_law_tuple" (defArgs (tp 20)) (defBody (tp 20)) (defScope (tp 20)) .none kV20 dc20 pm20 an20 cd20 ct20), sl20⟩) (c20 : PySem.W.codeIn K cd20 "_law_tuple" = true) (k20 : PySem.W.keepIn K (.ref f20) = true)
    (a21 : PySem.W.nsIn K mainGlobals "_law_sums" = some (some (.ref f21))) (l21 : K.lookup f21 = some ⟨oc21, od21, .func (PySem.W.fnOf "_law_sums" "_law_sums" (defArgs (tp 21)) (defBody (tp 21)) (defScope (tp 21)) .none kV21 dc21 pm21 an21 cd21 ct21), sl21⟩) (c21 : PySem.W.codeIn K cd21 "_law_sums" = true) (k21 : PySem.W.keepIn K (.ref f21) = true)
    (a22 : PySem.W.nsIn K mainGlobals "_law_board" = some (some (.ref f22))) (l22 : K.lookup f22 = some ⟨oc22, od22, .func (PySem.W.fnOf "_law_board" "_law_board" (defArgs (tp 22)) (defBody (tp 22)) (defScope (tp 22)) .none kV22 dc22 pm22 an22 cd22 ct22), sl22⟩) (c22 : PySem.W.codeIn K cd22 "_law_board" = true) (k22 : PySem.W.keepIn K (.ref f22) = true)
    (a23 : PySem.W.nsIn K mainGlobals "law" = some (some (.ref f23))) (l23 : K.lookup f23 = some ⟨oc23, od23, .func (PySem.W.fnOf "law" "law" (defArgs (tp 23)) (defBody (tp 23)) (defScope (tp 23)) .none kV23 dc23 pm23 an23 cd23 ct23), sl23⟩) (c23 : PySem.W.codeIn K cd23 "law" = true) (k23 : PySem.W.keepIn K (.ref f23) = true)
    (z0 : PySem.W.nsIn K mainGlobals "len" = some none) (z1 : PySem.W.nsIn K mainGlobals "abs" = some none) (z2 : PySem.W.nsIn K mainGlobals "min" = some none) (z3 : PySem.W.nsIn K mainGlobals "max" = some none) (z4 : PySem.W.nsIn K mainGlobals "sum" = some none) (z5 : PySem.W.nsIn K mainGlobals "int" = some none) (z6 : PySem.W.nsIn K mainGlobals "tuple" = some none) (z7 : PySem.W.nsIn K mainGlobals "list" = some none) (z8 : PySem.W.nsIn K mainGlobals "sorted" = some none) (z9 : PySem.W.nsIn K mainGlobals "all" = some none) (z10 : PySem.W.nsIn K mainGlobals "any" = some none) (z11 : PySem.W.nsIn K mainGlobals "range" = some none) (z12 : PySem.W.nsIn K mainGlobals "isinstance" = some none) (z13 : PySem.W.nsIn K mainGlobals "bool" = some none) (z14 : PySem.W.nsIn K mainGlobals "str" = some none) (z15 : PySem.W.nsIn K mainGlobals "zip" = some none) (z16 : PySem.W.nsIn K mainGlobals "enumerate" = some none) :
    ∃ fd : FuncData, (∀ (s : Shared) (v : Value), BindsTo s fd ⟨[v], []⟩ [("script", v)]) ∧ ∀ base : Heap, K.In base → base.Ns mainGlobals mg → FnOk l.prog w K mg base CX0 KD fa fd ["script"] (spL K) := by
  have e := hfa.symm.trans (PySem.W.mg_of X G a23)
  cases e
  have F := fun_mk (st := tp 23) l23 c23 k23
  refine ⟨_, fun s v => .of_eq rfl, fun base _ _ => law_ok (ps := ["script"]) (fns_ok (ds := ds) (fns := fns) (wf := WF) (fun x hx => ?_) (oks (th1 (PySem.W.mg_of X G a1) l1 c1 k1) (th2 (PySem.W.mg_of X G a2) l2 c2 k2) (th3 (PySem.W.mg_of X G a3) l3 c3 k3) (th4 (PySem.W.mg_of X G a4) l4 c4 k4) (th5 (PySem.W.mg_of X G a5) l5 c5 k5) (th6 (PySem.W.mg_of X G a6) l6 c6 k6) (th7 (PySem.W.mg_of X G a7) l7 c7 k7) (th8 (PySem.W.mg_of X G a8) l8 c8 k8) (th9 (PySem.W.mg_of X G a9) l9 c9 k9) (th11 (PySem.W.mg_of X G a11) l11 c11 k11) (th12 (PySem.W.mg_of X G a12) l12 c12 k12) (th13 (PySem.W.mg_of X G a13) l13 c13 k13) (th14 (PySem.W.mg_of X G a14) l14 c14 k14) (th15 (PySem.W.mg_of X G a15) l15 c15 k15) (th16 (PySem.W.mg_of X G a16) l16 c16 k16) (th17 (PySem.W.mg_of X G a17) l17 c17 k17) (th18 (PySem.W.mg_of X G a18) l18 c18 k18) (th19 (PySem.W.mg_of X G a19) l19 c19 k19) (th20 (PySem.W.mg_of X G a20) l20 c20 k20) (th21 (PySem.W.mg_of X G a21) l21 c21 k21) (th22 (PySem.W.mg_of X G a22) l22 c22 k22) (th23 (PySem.W.mg_of X G a23) l23 c23 k23)) KD 21 d23 rfl _ _ F) law_pure rfl⟩
  simp only [bltNames, List.mem_cons, List.not_mem_nil, or_false] at hx
  rcases hx with rfl | rfl | rfl | rfl | rfl | rfl | rfl | rfl | rfl | rfl | rfl | rfl | rfl | rfl | rfl | rfl | rfl
  · exact PySem.W.mg_none_of X G z0
  · exact PySem.W.mg_none_of X G z1
  · exact PySem.W.mg_none_of X G z2
  · exact PySem.W.mg_none_of X G z3
  · exact PySem.W.mg_none_of X G z4
  · exact PySem.W.mg_none_of X G z5
  · exact PySem.W.mg_none_of X G z6
  · exact PySem.W.mg_none_of X G z7
  · exact PySem.W.mg_none_of X G z8
  · exact PySem.W.mg_none_of X G z9
  · exact PySem.W.mg_none_of X G z10
  · exact PySem.W.mg_none_of X G z11
  · exact PySem.W.mg_none_of X G z12
  · exact PySem.W.mg_none_of X G z13
  · exact PySem.W.mg_none_of X G z14
  · exact PySem.W.mg_none_of X G z15
  · exact PySem.W.mg_none_of X G z16
end Lk85
open PySem PySem.W PyProof.Rows
set_option maxHeartbeats 0 in
theorem PySem.Challenge.cw_shadehall_k85_whole_near_sums_and_ghosts_holds : PySem.Challenge.rw_shadehall_k85_whole_near_sums_and_ghosts.Holds := by
  w_on; o_law; k_head; (case hw => w_witness2)
  k_fill
  refine L2.walk_of (l := PySem.Challenge.rw_shadehall_k85_whole_near_sums_and_ghosts) (n := 63) (k := Lk85.KD) (x := "script") (CX := fun _ => L2.CX0) (sp := fun w => Ev.spL _) rfl (by decide) rfl ⟨rfl, by decide, by decide⟩ (fun w h Y => PySem.W.kIn_of Y) ?F (fun _ _ a ns hl _ hS => ⟨a, ns, rfl, hS, hl, fun _ => rfl⟩) (fun _ _ _ _ _ h => h)
  case F =>
    intro w mg fa h KX G hmg
    refine' Lk85.all_mk KX G hmg ?a1 ?l1 ?c1 ?k1 ?a2 ?l2 ?c2 ?k2 ?a3 ?l3 ?c3 ?k3 ?a4 ?l4 ?c4 ?k4 ?a5 ?l5 ?c5 ?k5 ?a6 ?l6 ?c6 ?k6 ?a7 ?l7 ?c7 ?k7 ?a8 ?l8 ?c8 ?k8 ?a9 ?l9 ?c9 ?k9 ?a11 ?l11 ?c11 ?k11 ?a12 ?l12 ?c12 ?k12 ?a13 ?l13 ?c13 ?k13 ?a14 ?l14 ?c14 ?k14 ?a15 ?l15 ?c15 ?k15 ?a16 ?l16 ?c16 ?k16 ?a17 ?l17 ?c17 ?k17 ?a18 ?l18 ?c18 ?k18 ?a19 ?l19 ?c19 ?k19 ?a20 ?l20 ?c20 ?k20 ?a21 ?l21 ?c21 ?k21 ?a22 ?l22 ?c22 ?k22 ?a23 ?l23 ?c23 ?k23 ?z0 ?z1 ?z2 ?z3 ?z4 ?z5 ?z6 ?z7 ?z8 ?z9 ?z10 ?z11 ?z12 ?z13 ?z14 ?z15 ?z16
    (case a1 => k_is)
    (case l1 => k_is)
    (case c1 => k_is)
    (case k1 => k_is)
    (case a2 => k_is)
    (case l2 => k_is)
    (case c2 => k_is)
    (case k2 => k_is)
    (case a3 => k_is)
    (case l3 => k_is)
    (case c3 => k_is)
    (case k3 => k_is)
    (case a4 => k_is)
    (case l4 => k_is)
    (case c4 => k_is)
    (case k4 => k_is)
    (case a5 => k_is)
    (case l5 => k_is)
    (case c5 => k_is)
    (case k5 => k_is)
    (case a6 => k_is)
    (case l6 => k_is)
    (case c6 => k_is)
    (case k6 => k_is)
    (case a7 => k_is)
    (case l7 => k_is)
    (case c7 => k_is)
    (case k7 => k_is)
    (case a8 => k_is)
    (case l8 => k_is)
    (case c8 => k_is)
    (case k8 => k_is)
    (case a9 => k_is)
    (case l9 => k_is)
    (case c9 => k_is)
    (case k9 => k_is)
    (case a11 => k_is)
    (case l11 => k_is)
    (case c11 => k_is)
    (case k11 => k_is)
    (case a12 => k_is)
    (case l12 => k_is)
    (case c12 => k_is)
    (case k12 => k_is)
    (case a13 => k_is)
    (case l13 => k_is)
    (case c13 => k_is)
    (case k13 => k_is)
    (case a14 => k_is)
    (case l14 => k_is)
    (case c14 => k_is)
    (case k14 => k_is)
    (case a15 => k_is)
    (case l15 => k_is)
    (case c15 => k_is)
    (case k15 => k_is)
    (case a16 => k_is)
    (case l16 => k_is)
    (case c16 => k_is)
    (case k16 => k_is)
    (case a17 => k_is)
    (case l17 => k_is)
    (case c17 => k_is)
    (case k17 => k_is)
    (case a18 => k_is)
    (case l18 => k_is)
    (case c18 => k_is)
    (case k18 => k_is)
    (case a19 => k_is)
    (case l19 => k_is)
    (case c19 => k_is)
    (case k19 => k_is)
    (case a20 => k_is)
    (case l20 => k_is)
    (case c20 => k_is)
    (case k20 => k_is)
    (case a21 => k_is)
    (case l21 => k_is)
    (case c21 => k_is)
    (case k21 => k_is)
    (case a22 => k_is)
    (case l22 => k_is)
    (case c22 => k_is)
    (case k22 => k_is)
    (case a23 => k_is)
    (case l23 => k_is)
    (case c23 => k_is)
    (case k23 => k_is)
    (case z0 => k_is)
    (case z1 => k_is)
    (case z2 => k_is)
    (case z3 => k_is)
    (case z4 => k_is)
    (case z5 => k_is)
    (case z6 => k_is)
    (case z7 => k_is)
    (case z8 => k_is)
    (case z9 => k_is)
    (case z10 => k_is)
    (case z11 => k_is)
    (case z12 => k_is)
    (case z13 => k_is)
    (case z14 => k_is)
    (case z15 => k_is)
    (case z16 => k_is)
